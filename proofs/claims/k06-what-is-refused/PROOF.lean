import PyProof.Rows.All
import Wide.All
import OpenK.AllK
import Wide.FinOn
import HandS.ForMost
import HandS.EndBits
import HandS.Wide
import HandS.TupAny
import HandS.Exc
import HandS.ExcOwn
import HandS.ExcIs
import HandS.ExcField
import HandS.ExcInit
import HandS.TryMany
import HandS.Nested
import HandS.NestedK
import HandS.Conv
import HandS.Zip
import HandS.Style
import HandS.RaiseMore
import HandS.TupMul
import HandS.TupSets
import HandS.Rev
import HandS.IsInst
import HandS.More
import HandS.Defaults
import KE.GoesMore
import KE.GoesEnumKw
import KE.KRevSl
import HandS.SortInts
import PyProof.ReprRoads
import HandS.EndTab
import KE.KNestM
import KE.KExcIs
import HandS.ExcValue
import HandS.WordsExc
import PyProof.StrLawsRepr
import HandS.Text
import HandS.CallLocal
import PySem.Challenge.RW_mutehands_k06_what_is_refused
set_option Elab.async false
set_option linter.all false
set_option maxRecDepth 100000
set_option maxHeartbeats 4000000
/-! A functional layer over the hand layer: a def's body is read as a plain function of values, names and a store. -/
namespace FL
open PySem PySem.Spec PyProof.Rows L2

theorem nodup_ne {α : Type} {l : List α} (h : l.Nodup) {i j : Nat} {x : α} (hi : l[i]? = some x) (hj : l[j]? = some x) : i = j := by
  obtain ⟨li, ei⟩ := List.getElem?_eq_some_iff.mp hi
  obtain ⟨lj, ej⟩ := List.getElem?_eq_some_iff.mp hj
  have hp := List.pairwise_iff_getElem.mp h
  rcases Nat.lt_trichotomy i j with z | z | z
  · exact absurd (ei.trans ej.symm) (hp i j li lj z)
  · exact z
  · exact absurd (ej.trans ei.symm) (hp j i lj li z)
/-! ### values, cells, stores -/
inductive Val where
  | non
  | bl (b : Bool)
  | int (i : Int)
  | str (s : Str)
  | tup (xs : List Val)
  | ro (xs : List Val)
  | wr (xs : List Val)
  | rd (ks : List Key) (xs : List Val)
  | ref (n : Nat)
  | ty (n : String)
  | gl (n : Str)
  | ex0 (n : Str)
  | ex1 (n : Str) (f : Str) (x : Val)
  | fn (id : Nat) (xs : List Val)
  deriving Inhabited
inductive Cell where
  | lst (xs : List Val)
  | dic (es : List (Key × Val))
  | dit (es : List (List Key × Val))
  | ins (C : Str) (fs : List (Str × Val))
abbrev Store := List Cell
/-! ### functions that are made within a def -/
/-- its text: the captured names fr -/
structure FCode where
  name : Str
  qual : Str
  params : Arguments
  body : FuncBody
  scope : Scope
  fr : List Str
/-- what is laid down for a law: the texts of the made functions, the tables of code objects -/
structure KS where
  code : Nat → Option FCode
  tabs : List NdefX.NTab
/-- the fragment, that, and what own captured cells hold -/
structure KZ where
  K : PySem.W.Frag
  S : KS
  gam : Addr → Option V
instance : Coe KZ PySem.W.Frag := ⟨KZ.K⟩
abbrev KZ.gm (K : KZ) (g : Addr → Option V) : KZ := ⟨K.K, K.S, g⟩
/-- a wish of exceptions, with the slots of captured cells -/
structure WZ (S : KS) where
  w : WX
  z : Addr → Option Nat
  cs : List Nat
  ok : ∀ c i, z c = some i → i ∈ cs
instance {Z : KS} : CoeFun (WZ Z) (fun _ => WX) := ⟨WZ.w⟩
instance {Z : KS} : CoeOut (WZ Z) WX := ⟨WZ.w⟩
abbrev WZ.no {Z : KS} (W : WZ Z) : WZ Z := ⟨fun _ _ _ _ => False, W.z, W.cs, W.ok⟩
/-- with another wish -/
abbrev WZ.wi {Z : KS} (W : WZ Z) (w : WX) : WZ Z := ⟨w, W.z, W.cs, W.ok⟩
theorem not_cs {Z : KS} {W : WZ Z} {l : List Nat} {i : Nat} (h : W.cs = l) (d : l.contains i = false) : i ∉ W.cs := fun z => by
  rw [h] at z
  have q : l.contains i = true := by simpa using z
  rw [d] at q
  cases q
theorem not_css {Z : KS} {W : WZ Z} {l vs : List Nat} (h : W.cs = l) (d : vs.all (fun v => !l.contains v) = true) : ∀ v ∈ vs, v ∉ W.cs := fun v hv => by
  have q := List.all_eq_true.mp d v hv
  exact not_cs h (by simpa using q)
/-- nothing is captured -/
def zN (S : KS) (w : WX) : WZ S := ⟨w, fun _ => none, [], fun _ _ h => by cases h⟩
def gamOf {Z : KS} (W : WZ Z) (σ : L2.St) : Addr → Option V := fun c => match W.z c with
  | some i => NdefX.slotAt σ i
  | none => none
abbrev KZ.to (K : KZ) {Z : KS} (W : WZ Z) (σ : L2.St) : KZ := K.gm (gamOf W σ)
theorem KZ.to_eq {K : KZ} {Z : KS} {W : WZ Z} {σ : L2.St} (h : gamOf W σ = K.gam) : K.to W σ = K := by
  show (⟨K.K, K.S, gamOf W σ⟩ : KZ) = K
  rw [h]
theorem KZ.to_to {K : KZ} {Z : KS} {W : WZ Z} {σ σ' : L2.St} (h : gamOf W σ' = gamOf W σ) : K.to W σ' = K.to W σ := by
  show (⟨K.K, K.S, gamOf W σ'⟩ : KZ) = ⟨K.K, K.S, gamOf W σ⟩
  rw [h]
abbrev kx (X : Cx) (S : KS) : KZ := ⟨X.K, S, fun _ => none⟩
theorem gamOf_put {Z : KS} {W : WZ Z} {σ : L2.St} {i : Nat} {o : Option V} (h : i ∉ W.cs) : gamOf W (σ.set i o) = gamOf W σ := by
  funext c
  unfold gamOf
  cases e : W.z c with
  | none => rfl
  | some j =>
    have hj : i ≠ j := fun z => h (z ▸ W.ok c j e)
    show NdefX.slotAt (σ.set i o) j = NdefX.slotAt σ j
    unfold NdefX.slotAt
    rw [List.getElem?_set_ne hj]
theorem gamOf_wipe {Z : KS} {W : WZ Z} {σ : L2.St} : ∀ {vs : List Nat}, (∀ v ∈ vs, v ∉ W.cs) → gamOf W (wipe σ vs) = gamOf W σ
  | [], _ => rfl
  | v :: vs, h => by
    show gamOf W ((wipe σ vs).set v none) = gamOf W σ
    rw [gamOf_put (h v List.mem_cons_self), gamOf_wipe fun u hu => h u (List.mem_cons_of_mem _ hu)]
theorem gamOf_none {Z : KS} {W : WZ Z} {σ : L2.St} (h : W.z = fun _ => none) : gamOf W σ = fun _ => none := by
  funext c
  unfold gamOf
  rw [h]
abbrev fnZ (C : FCode) (cl : List (Str × Addr)) (c : Addr) (doc pm ctv : Value) : FuncData :=
  { name := C.name, qualname := C.qual, params := C.params, body := C.body, scope := C.scope, globals := mainGlobals, closure := cl, defaults := .none, kwdefaults := .none, doc, pyModule := pm, annotations := none, code := .ref c, closureTuple := ctv, builtins := builtinsNs }
/-- at f: the function C that was made with the cells cl, its code object at c -/
def FnZ (f : Addr) (C : FCode) (cl : List (Str × Addr)) (c : Addr) : HO := .ext fun h => ∃ (od : Option Addr) (sl : Array (Option Value)) (doc pm ctv : Value), h.get? f = some (⟨.type "function", od, .func (fnZ C cl c doc pm ctv), sl⟩ : Obj)
/-- at c: the cell o, never written -/
def CellO (c : Addr) (o : Obj) : HO := .frz o (.ext fun h => ∃ o', h.get? c = some o')
/-- the cell c is known to hold v -/
def Kn (K : KZ) (H : Hp) (c : Addr) (v : V) : Prop := K.gam c = some v ∨ ∃ o u, H c = some (CellO c o) ∧ o.data = .cell (some u) ∧ L2.RelV v u
structure KnAll (K : KZ) (H : Hp) (cl : List (Str × Addr)) (fr : List Str) (vs : List V) : Prop where
  len : vs.length = fr.length
  at_ : ∀ (i : Nat) y v, fr[i]? = some y → vs[i]? = some v → ∃ c, cl.lookup y = some c ∧ Kn K H c v
  inj : ∀ x y c, cl.lookup x = some c → cl.lookup y = some c → x = y
  sub : ∀ y c, cl.lookup y = some c → y ∈ fr
/-- a list that is only read: the script, a list of the module -/
def RoA (K : PySem.W.Frag) (H : Hp) (a : Addr) (ws : List V) : Prop := (∃ o, H a = some (.frz o (.lst ws))) ∨
  ∃ (o : Obj) (its : Array Value) (n : Nat), K.lookup a = some o ∧ o.cls = .type "list" ∧ o.dict = none ∧ o.data = .seq its n ∧ its.size ≤ sizeLine ∧ Vals ws its.toList
/-- where the module's name n leads -/
def cA (K : PySem.W.Frag) (n : Str) : Addr := match PySem.W.nsIn K mainGlobals n with
  | some (some (.ref C)) => C
  | _ => 0
/-- at a: an exception of the class at C, that stands by itself -/
def exv (C : Addr) (d : Option Addr) (a : Addr) : HO := .ext fun h => ∃ (oe : Obj) (vs : Array Value), h.get? a = some oe ∧ Zc (.ref C) d oe ∧ oe.data = .fields vs
mutual
inductive VR (K : KZ) (fr : Addr → Prop) (H : Hp) (ms : List Addr) : V → Val → Prop
  | non : VR K fr H ms .non .non
  | bl (b : Bool) : VR K fr H ms (.bl b) (.bl b)
  | int (i : Int) : VR K fr H ms (.int i) (.int i)
  | str (x : Str) : VR K fr H ms (.str x) (.str x)
  | tup {a : Addr} {ws : List V} {xs : List Val} : SqT K H a ws → VRs K fr H ms ws xs → VR K fr H ms (.ref a) (.tup xs)
  | ro {a : Addr} {ws : List V} {xs : List Val} : H a = some (.lst ws) → fr a → VRs K fr H ms ws xs → VR K fr H ms (.ref a) (.ro xs)
  | wr {a : Addr} {ws : List V} {xs : List Val} : RoA K H a ws → VRs K fr H ms ws xs → VR K fr H ms (.ref a) (.wr xs)
  | rd {a : Addr} {ks : List Key} {ws : List V} {xs : List Val} : H a = some (.dK (ks.zip ws)) → ks.length = ws.length → fr a → VRs K fr H ms ws xs → VR K fr H ms (.ref a) (.rd ks xs)
  | ref {n : Nat} {a : Addr} : ms[n]? = some a → VR K fr H ms (.ref a) (.ref n)
  | ty (n : String) : VR K fr H ms (.ty n) (.ty n)
  | gl (n : Str) : VR K fr H ms (.ref (cA K n)) (.gl n)
  | ex0 {a : Addr} {n : Str} : H a = some (exv (cA K n) none a) → VR K fr H ms (.ref a) (.ex0 n)
  | ex1 {a dd : Addr} {n : Str} {f : Str} {v : V} {x : Val} : H a = some (exv (cA K n) (some dd) a) → H dd = some (.xd [(f, v)]) → VR K fr H ms v x → VR K fr H ms (.ref a) (.ex1 n f x)
  | fn {a c : Addr} {id : Nat} {C : FCode} {cl : List (Str × Addr)} {vs : List V} {xs : List Val} : H a = some (FnZ a C cl c) → K.S.code id = some C → H c = some (LamX.CodeO c C.qual) → KnAll K H cl C.fr vs → VRs K fr H ms vs xs → VR K fr H ms (.ref a) (.fn id xs)
inductive VRs (K : KZ) (fr : Addr → Prop) (H : Hp) (ms : List Addr) : List V → List Val → Prop
  | nil : VRs K fr H ms [] []
  | cons {v : V} {vs : List V} {x : Val} {xs : List Val} : VR K fr H ms v x → VRs K fr H ms vs xs → VRs K fr H ms (v :: vs) (x :: xs)
end
inductive VRk {κ : Type} (K : KZ) (fr : Addr → Prop) (H : Hp) (ms : List Addr) : List (κ × V) → List (κ × Val) → Prop
  | nil : VRk K fr H ms [] []
  | cons {k : κ} {v : V} {vs : List (κ × V)} {x : Val} {xs : List (κ × Val)} : VR K fr H ms v x → VRk K fr H ms vs xs → VRk K fr H ms ((k, v) :: vs) ((k, x) :: xs)
def CR (K : KZ) (fr : Addr → Prop) (H : Hp) (ms : List Addr) (p : Addr) : Cell → Prop
  | .lst xs => ∃ ws, H p = some (.lst ws) ∧ VRs K fr H ms ws xs
  | .dic es => ∃ ws, H p = some (.dK ws) ∧ VRk K fr H ms ws es
  | .dit es => ∃ ws, H p = some (.dT ws) ∧ VRk K fr H ms ws es
  | .ins C fs => ∃ dx ws, H p = some (.ins (cA K C) dx ws) ∧ H dx = some (.own p) ∧ VRk K fr H ms ws fs
/-- the sorts of own objects -/
def OwnO : HO → Prop
  | .lst _ => True
  | .dK _ => True
  | .dT _ => True
  | .ins _ _ _ => True
  | _ => False
structure SR (K : KZ) (fr : Addr → Prop) (H : Hp) (ms : List Addr) (st : Store) : Prop where
  len : ms.length = st.length
  nd : ms.Nodup
  cell : ∀ (i : Nat) a c, ms[i]? = some a → st[i]? = some c → CR K fr H ms a c
  nfr : ∀ a ∈ ms, ¬ fr a
  lo : ∀ a, fr a → ∃ o, H a = some o ∧ OwnO o
  tab : NdefX.TabsN K.S.tabs H
def notbl : HO → Prop
  | .tbl _ => False
  | _ => True
/-- from a state to a later one, n cells staying where they are -/
structure Ext (n : Nat) (fr : Addr → Prop) (H : Hp) (ms : List Addr) (fr' : Addr → Prop) (H' : Hp) (ms' : List Addr) : Prop where
  pre : ms'.take n = ms.take n
  keep : ∀ a o, H a = some o → a ∉ ms → notbl o → H' a = some o
  there : ∀ a, H a ≠ none → H' a ≠ none
  tk : ∀ a ∈ ms', a ∈ ms ∨ H a = none
  frk : ∀ a, fr a → fr' a
  frn : ∀ a, fr' a → fr a ∨ H a = none ∨ a ∈ ms
section
variable {K : KZ} {fr fr1 fr2 fr3 : Addr → Prop} {H H1 H2 H3 : Hp} {ms ms1 ms2 ms3 : List Addr} {st st1 st2 : Store} {n : Nat}
theorem SR.low (s : SR K fr H ms st) (a : Addr) (h : fr a) : H a ≠ none := by
  obtain ⟨o, e, _⟩ := s.lo a h
  rw [e]
  simp
theorem CR.ow {p : Addr} : ∀ {c : Cell}, CR K fr H ms p c → ∃ o, H p = some o ∧ OwnO o
  | .lst _, ⟨_, h, _⟩ => ⟨_, h, trivial⟩
  | .dic _, ⟨_, h, _⟩ => ⟨_, h, trivial⟩
  | .dit _, ⟨_, h, _⟩ => ⟨_, h, trivial⟩
  | .ins _ _, ⟨_, _, h, _⟩ => ⟨_, h, trivial⟩
theorem SR.ow (s : SR K fr H ms st) {a : Addr} (h : a ∈ ms) : ∃ o, H a = some o ∧ OwnO o := by
  obtain ⟨i, hi, e⟩ := List.getElem_of_mem h
  have hl : i < st.length := by rw [← s.len]; exact hi
  exact (s.cell i a st[i] (by rw [List.getElem?_eq_getElem hi, e]) (List.getElem?_eq_getElem hl)).ow
theorem SR.there (s : SR K fr H ms st) {a : Addr} (h : a ∈ ms) : H a ≠ none := by
  obtain ⟨o, e, _⟩ := s.ow h
  rw [e]
  simp
theorem SR.no (s : SR K fr H ms st) {a : Addr} (h : H a = none) : a ∉ ms := fun z => s.there z h
theorem SR.non (s : SR K fr H ms st) {a : Addr} {u : HO} (h : H a = some u) (hu : ¬ OwnO u) : a ∉ ms := fun z => by
  obtain ⟨o, e, ho⟩ := s.ow z
  rw [h] at e
  cases e
  exact hu ho
theorem Ext.refl (n : Nat) (fr : Addr → Prop) (H : Hp) (ms : List Addr) : Ext n fr H ms fr H ms := ⟨rfl, fun _ _ h _ _ => h, fun _ h => h, fun _ h => .inl h, fun _ h => h, fun _ h => .inl h⟩
theorem Ext.mono {m : Nat} (e : Ext n fr H ms fr1 H1 ms1) (h : m ≤ n) : Ext m fr H ms fr1 H1 ms1 := ⟨by
  have q := congrArg (List.take m) e.pre
  rwa [List.take_take, List.take_take, Nat.min_eq_left h] at q, e.keep, e.there, e.tk, e.frk, e.frn⟩
theorem Ext.trans (a : Ext n fr H ms fr1 H1 ms1) (b : Ext n fr1 H1 ms1 fr2 H2 ms2) : Ext n fr H ms fr2 H2 ms2 := by
  have nn : ∀ c, H c ≠ none → c ∉ ms → c ∉ ms1 := fun c h e z => (a.tk c z).elim e h
  refine ⟨b.pre.trans a.pre, fun c o h e t => b.keep c o (a.keep c o h e t) (nn c (by rw [h]; simp) e) t, fun c h => b.there c (a.there c h), fun c h => ?_, fun c h => b.frk c (a.frk c h), fun c h => ?_⟩
  · rcases b.tk c h with q | q
    · exact a.tk c q
    · exact .inr (Classical.byContradiction fun z => a.there c z q)
  · rcases b.frn c h with q | q | q
    · exact a.frn c q
    · exact .inr (.inl (Classical.byContradiction fun z => a.there c z q))
    · rcases a.tk c q with z | z
      · exact .inr (.inr z)
      · exact .inr (.inl z)
theorem Ext.get (e : Ext n fr H ms fr1 H1 ms1) {i : Nat} {a : Addr} (h : i < n) (g : ms[i]? = some a) : ms1[i]? = some a := by
  have q := congrArg (fun l : List Addr => l[i]?) e.pre
  simp only [List.getElem?_take, if_pos h] at q
  rw [q, g]
theorem Ext.len (e : Ext ms.length fr H ms fr1 H1 ms1) : ms.length ≤ ms1.length := by
  have q := congrArg List.length e.pre
  rw [List.length_take, List.length_take, Nat.min_self] at q
  omega
/-- two steps, each keeping all that was there -/
theorem Ext.then (a : Ext ms.length fr H ms fr1 H1 ms1) (b : Ext ms1.length fr1 H1 ms1 fr2 H2 ms2) : Ext ms.length fr H ms fr2 H2 ms2 := a.trans (b.mono a.len)
theorem sqt_ex (s : SR K fr H ms st) (e : Ext n fr H ms fr1 H1 ms1) {a : Addr} {xs : List V} (h : SqT K H a xs) : SqT K H1 a xs := by
  rcases h with (h | ⟨o, h⟩) | h
  · exact .inl (.inl (e.keep _ _ h (s.non h fun z => z) trivial))
  · exact .inl (.inr ⟨o, e.keep _ _ h (s.non h fun z => z) trivial⟩)
  · exact .inr h
theorem roa_ex (s : SR K fr H ms st) (e : Ext n fr H ms fr1 H1 ms1) {a : Addr} {xs : List V} (h : RoA K H a xs) : RoA K H1 a xs := by
  rcases h with ⟨o, h⟩ | h
  · exact .inl ⟨o, e.keep _ _ h (s.non h fun z => z) trivial⟩
  · exact .inr h
theorem SR.fz (s : SR K fr H ms st) {a : Addr} (h : fr a) : a ∉ ms := fun z => s.nfr a z h
theorem kn_ex (s : SR K fr H ms st) (e : Ext n fr H ms fr1 H1 ms1) {cl : List (Str × Addr)} {fs : List Str} {vs : List V} (h : KnAll K H cl fs vs) : KnAll K H1 cl fs vs :=
  ⟨h.len, fun i y v a b => let ⟨c, hc, hk⟩ := h.at_ i y v a b; ⟨c, hc, hk.elim .inl fun ⟨o, u, z, q⟩ => .inr ⟨o, u, e.keep _ _ z (s.non z fun z => z) trivial, q⟩⟩, h.inj, h.sub⟩
mutual
theorem VR.ex (s : SR K fr H ms st) (e : Ext ms.length fr H ms fr1 H1 ms1) : ∀ {v : V} {x : Val}, VR K fr H ms v x → VR K fr1 H1 ms1 v x
  | _, _, .non => .non
  | _, _, .bl b => .bl b
  | _, _, .int i => .int i
  | _, _, .str x => .str x
  | _, _, .tup h r => .tup (sqt_ex s e h) (VRs.ex s e r)
  | _, _, .ro h f r => .ro (e.keep _ _ h (s.fz f) trivial) (e.frk _ f) (VRs.ex s e r)
  | _, _, .wr h r => .wr (roa_ex s e h) (VRs.ex s e r)
  | _, _, .rd h l f r => .rd (e.keep _ _ h (s.fz f) trivial) l (e.frk _ f) (VRs.ex s e r)
  | _, _, .ref h => .ref (e.get (List.getElem?_eq_some_iff.mp h).1 h)
  | _, _, .ty n => .ty n
  | _, _, .gl a => .gl a
  | _, _, .ex0 h => .ex0 (e.keep _ _ h (s.non h fun z => z) trivial)
  | _, _, .ex1 h d r => .ex1 (e.keep _ _ h (s.non h fun z => z) trivial) (e.keep _ _ d (s.non d fun z => z) trivial) (VR.ex s e r)
  | _, _, .fn h i c k r => .fn (e.keep _ _ h (s.non h fun z => z) trivial) i (e.keep _ _ c (s.non c fun z => z) trivial) (kn_ex s e k) (VRs.ex s e r)
theorem VRs.ex (s : SR K fr H ms st) (e : Ext ms.length fr H ms fr1 H1 ms1) : ∀ {v : List V} {x : List Val}, VRs K fr H ms v x → VRs K fr1 H1 ms1 v x
  | _, _, .nil => .nil
  | _, _, .cons a b => .cons (VR.ex s e a) (VRs.ex s e b)
end
theorem VRk.ex {κ : Type} (s : SR K fr H ms st) (e : Ext ms.length fr H ms fr1 H1 ms1) : ∀ {vs : List (κ × V)} {xs : List (κ × Val)}, VRk K fr H ms vs xs → VRk K fr1 H1 ms1 vs xs
  | _, _, .nil => .nil
  | _, _, .cons a b => .cons (a.ex s e) (VRk.ex s e b)
theorem CR.ex (s : SR K fr H ms st) (e : Ext ms.length fr H ms fr1 H1 ms1) {p : Addr} (hp : H1 p = H p) : ∀ {c : Cell}, CR K fr H ms p c → CR K fr1 H1 ms1 p c
  | .lst _, ⟨ws, a, b⟩ => ⟨ws, hp.trans a, b.ex s e⟩
  | .dic _, ⟨ws, a, b⟩ => ⟨ws, hp.trans a, b.ex s e⟩
  | .dit _, ⟨ws, a, b⟩ => ⟨ws, hp.trans a, b.ex s e⟩
  | .ins _ _, ⟨dx, ws, a, d, b⟩ => ⟨dx, ws, hp.trans a, e.keep _ _ d (s.non d fun z => z) trivial, b.ex s e⟩
theorem VRs.length : ∀ {vs : List V} {xs : List Val}, VRs K fr H ms vs xs → vs.length = xs.length
  | _, _, .nil => rfl
  | _, _, .cons _ b => by rw [List.length_cons, List.length_cons, VRs.length b]
theorem VRs.get : ∀ {vs : List V} {ds : List Val} {i : Nat} {x : Val}, VRs K fr H ms vs ds → ds[i]? = some x → ∃ v, vs[i]? = some v ∧ VR K fr H ms v x
  | _, _, _, _, .nil, e => by simp at e
  | _, _, 0, _, .cons a _, e => by
    simp at e
    subst e
    exact ⟨_, rfl, a⟩
  | _, _, i + 1, x, .cons _ b, e => by
    obtain ⟨v, h1, h2⟩ := VRs.get (i := i) (x := x) b (by simpa using e)
    exact ⟨v, by simpa using h1, h2⟩
theorem VRs.app : ∀ {vs ws : List V} {ds es : List Val}, VRs K fr H ms vs ds → VRs K fr H ms ws es → VRs K fr H ms (vs ++ ws) (ds ++ es)
  | _, _, _, _, .nil, b => b
  | _, _, _, _, .cons a b, c => .cons a (VRs.app b c)
theorem VRs.put {v : V} {x : Val} (h : VR K fr H ms v x) : ∀ {vs : List V} {ds : List Val} (i : Nat), VRs K fr H ms vs ds → VRs K fr H ms (vs.set i v) (ds.set i x)
  | _, _, _, .nil => .nil
  | _, _, 0, .cons _ b => .cons h b
  | _, _, i + 1, .cons a b => .cons a (VRs.put h i b)
theorem VRs.cut : ∀ {vs : List V} {ds : List Val} (n : Nat), VRs K fr H ms vs ds → VRs K fr H ms (vs.take n) (ds.take n)
  | _, _, 0, _ => .nil
  | _, _, _ + 1, .nil => .nil
  | _, _, n + 1, .cons a b => .cons a (VRs.cut n b)
theorem VRs.off : ∀ {vs : List V} {ds : List Val} (n : Nat), VRs K fr H ms vs ds → VRs K fr H ms (vs.drop n) (ds.drop n)
  | _, _, 0, h => h
  | _, _, _ + 1, .nil => .nil
  | _, _, n + 1, .cons _ b => VRs.off n b
theorem VRs.era : ∀ {vs : List V} {ds : List Val} (n : Nat), VRs K fr H ms vs ds → VRs K fr H ms (vs.eraseIdx n) (ds.eraseIdx n)
  | _, _, 0, .nil => .nil
  | _, _, _ + 1, .nil => .nil
  | _, _, 0, .cons _ b => b
  | _, _, n + 1, .cons a b => .cons a (VRs.era n b)
theorem VRs.rev : ∀ {vs : List V} {ds : List Val}, VRs K fr H ms vs ds → VRs K fr H ms vs.reverse ds.reverse
  | _, _, .nil => .nil
  | _, _, .cons a b => by
    rw [List.reverse_cons, List.reverse_cons]
    exact (VRs.rev b).app (.cons a .nil)
theorem VRs.rep {vs : List V} {xs : List Val} (h : VRs K fr H ms vs xs) : ∀ n : Nat, VRs K fr H ms (List.replicate n vs).flatten (List.replicate n xs).flatten
  | 0 => .nil
  | n + 1 => by
    rw [List.replicate_succ, List.replicate_succ, List.flatten_cons, List.flatten_cons]
    exact h.app (VRs.rep h n)
theorem VRk.length {κ : Type} : ∀ {vs : List (κ × V)} {ds : List (κ × Val)}, VRk K fr H ms vs ds → vs.length = ds.length
  | _, _, .nil => rfl
  | _, _, .cons _ b => by rw [List.length_cons, List.length_cons, VRk.length b]
theorem VRk.keys {κ : Type} : ∀ {vs : List (κ × V)} {ds : List (κ × Val)}, VRk K fr H ms vs ds → vs.map (·.1) = ds.map (·.1)
  | _, _, .nil => rfl
  | _, _, .cons _ b => by rw [List.map_cons, List.map_cons, VRk.keys b]
/-! ### a state -/
abbrev Env := List (Option Val)
structure Wd (K : KZ) (fr : Addr → Prop) (H : Hp) (ms : List Addr) (σ : L2.St) (ρ : Env) (st : Store) : Prop where
  len : ρ.length = σ.length
  env : ∀ (i : Nat) (x : Val), ρ[i]? = some (some x) → ∃ v, σ[i]? = some (some v) ∧ VR K fr H ms v x
  sr : SR K fr H ms st
theorem Wd.on {σ : L2.St} {ρ : Env} (w : Wd K fr H ms σ ρ st) (e : Ext ms.length fr H ms fr1 H1 ms1) (s : SR K fr1 H1 ms1 st1) : Wd K fr1 H1 ms1 σ ρ st1 :=
  ⟨w.len, fun i x h => let ⟨v, a, b⟩ := w.env i x h; ⟨v, a, b.ex w.sr e⟩, s⟩
theorem Wd.put {σ : L2.St} {ρ : Env} (w : Wd K fr H ms σ ρ st) {v : V} {x : Val} (h : VR K fr H ms v x) (i : Nat) : Wd K fr H ms (σ.set i (some v)) (ρ.set i (some x)) st := by
  refine ⟨by rw [List.length_set, List.length_set, w.len], fun j y hj => ?_, w.sr⟩
  by_cases e : i = j
  · subst e
    have hl : i < ρ.length := by
      have q := (List.getElem?_eq_some_iff.mp hj).1
      rwa [List.length_set] at q
    rw [List.getElem?_set_self hl] at hj
    cases hj
    exact ⟨v, by rw [List.getElem?_set_self (by rw [← w.len]; exact hl)], h⟩
  · rw [List.getElem?_set_ne e] at hj
    rw [List.getElem?_set_ne e]
    exact w.env j y hj
/-! ### new objects -/
theorem upd_keep {a : Addr} {o : HO} (n : H a = none) {b : Addr} {u : HO} (h : H b = some u) : upd H a o b = some u := by rw [upd_ne (ne_of_none h n)]; exact h
theorem upd_there {a : Addr} {o : HO} {b : Addr} (h : H b ≠ none) : upd H a o b ≠ none := fun z => by
  by_cases e : b = a
  · rw [e, upd_same] at z
    cases z
  · rw [upd_ne e] at z
    exact h z
theorem tabs_put {T : List NdefX.NTab} {a : Addr} {o : HO} (t : NdefX.TabsN T H) (h : ∀ u, H a = some u → OwnO u) : NdefX.TabsN T (upd H a o) := fun p hp => by
  obtain ⟨ps, h1, h2, h3⟩ := t p hp
  have n1 : p.1 ≠ a := fun z => by
    rw [z] at h1
    exact (h _ h1)
  refine ⟨ps, (upd_ne n1).trans h1, h2, fun pos cv hc => ?_⟩
  obtain ⟨c, e1, e2⟩ := h3 pos cv hc
  have n2 : c ≠ a := fun z => by
    rw [z] at e2
    exact (h _ e2)
  exact ⟨c, e1, (upd_ne n2).trans e2⟩
theorem tabs_new {T : List NdefX.NTab} {a : Addr} {o : HO} (t : NdefX.TabsN T H) (n : H a = none) : NdefX.TabsN T (upd H a o) := tabs_put t fun u h => by rw [n] at h; cases h
/-- a new object that is not told of -/
theorem Ext.new {a : Addr} {o : HO} (m : Nat) (n : H a = none) : Ext m fr H ms fr (upd H a o) ms :=
  ⟨rfl, fun b u h _ _ => upd_keep n h, fun b h => upd_there h, fun _ h => .inl h, fun _ h => h, fun _ h => .inl h⟩
theorem SR.ex (s : SR K fr H ms st) (e : Ext ms.length fr H ms fr1 H1 ms) (k : ∀ p ∈ ms, ¬ fr1 p ∧ H1 p = H p) (l : ∀ a, fr1 a → ∃ o, H1 a = some o ∧ OwnO o) (tb : NdefX.TabsN K.S.tabs H1) : SR K fr1 H1 ms st :=
  ⟨s.len, s.nd, fun i a c h g => (s.cell i a c h g).ex s e (k a (List.mem_of_getElem? h)).2, fun a h => (k a h).1, l, tb⟩
theorem SR.lo_new {a : Addr} {o : HO} (s : SR K fr H ms st) (n : H a = none) : ∀ b, fr b → ∃ u, upd H a o b = some u ∧ OwnO u := fun b h => by
  obtain ⟨u, e, ho⟩ := s.lo b h
  exact ⟨u, (upd_ne (ne_of_none e n)).trans e, ho⟩
theorem SR.new {a : Addr} {o : HO} (s : SR K fr H ms st) (n : H a = none) : SR K fr (upd H a o) ms st := s.ex (Ext.new _ n) (fun p h => ⟨s.nfr p h, upd_ne fun z => s.there h (z ▸ n)⟩) (s.lo_new n) (tabs_new s.tab n)
/-- a new frozen object -/
theorem Ext.fz {a : Addr} {o : HO} (m : Nat) (n : H a = none) : Ext m fr H ms (fun b => fr b ∨ b = a) (upd H a o) ms :=
  ⟨rfl, fun b u h _ _ => upd_keep n h, fun b h => upd_there h, fun _ h => .inl h, fun _ h => .inl h, fun b h => h.elim .inl fun z => .inr (.inl (z ▸ n))⟩
theorem SR.fzn {a : Addr} {o : HO} (s : SR K fr H ms st) (n : H a = none) (ho : OwnO o) : SR K (fun b => fr b ∨ b = a) (upd H a o) ms st :=
  s.ex (Ext.fz _ n) (fun p h => ⟨fun z => z.elim (s.nfr p h) fun z => s.there h (z ▸ n), upd_ne fun z => s.there h (z ▸ n)⟩) (fun b h => by
    rcases h with h | rfl
    · exact s.lo_new n b h
    · exact ⟨o, upd_same, ho⟩) (tabs_new s.tab n)
/-- a new cell -/
theorem Ext.cell {a : Addr} {o : HO} (n : H a = none) : Ext ms.length fr H ms fr (upd H a o) (ms ++ [a]) :=
  ⟨by rw [List.take_append_of_le_length (Nat.le_refl _)], fun b u h _ _ => upd_keep n h, fun b h => upd_there h, fun b h => by
    rcases List.mem_append.mp h with h | h
    · exact .inl h
    · rw [List.mem_singleton.mp h]
      exact .inr n, fun _ h => h, fun _ h => .inl h⟩
theorem getElem?_snoc {α : Type} {l : List α} {x : α} {i : Nat} {y : α} (h : (l ++ [x])[i]? = some y) : l[i]? = some y ∨ (i = l.length ∧ y = x) := by
  rcases Nat.lt_trichotomy i l.length with z | z | z
  · rw [List.getElem?_append_left z] at h
    exact .inl h
  · subst z
    rw [List.getElem?_append_right (Nat.le_refl _), Nat.sub_self] at h
    cases h
    exact .inr ⟨rfl, rfl⟩
  · rw [List.getElem?_append_right (Nat.le_of_lt z)] at h
    have : i - l.length ≠ 0 := by omega
    cases e : i - l.length with
    | zero => exact absurd e this
    | succ j =>
      rw [e] at h
      cases h
theorem SR.cons {a : Addr} {o : HO} {c : Cell} (s : SR K fr H ms st) (n : H a = none) (r : CR K fr (upd H a o) (ms ++ [a]) a c) : SR K fr (upd H a o) (ms ++ [a]) (st ++ [c]) := by
  have hn : a ∉ ms := s.no n
  refine ⟨by rw [List.length_append, List.length_append, s.len]; rfl, ?_, fun i b d hb hd => ?_, fun b hb => ?_, s.lo_new n, tabs_new s.tab n⟩
  · rw [List.nodup_append]
    exact ⟨s.nd, by simp, fun x hx y hy => by rw [List.mem_singleton.mp hy]; exact fun z => hn (z ▸ hx)⟩
  · rcases getElem?_snoc hb with q | ⟨e, rfl⟩
    · have hi := (List.getElem?_eq_some_iff.mp q).1
      rw [List.getElem?_append_left (by rw [← s.len]; exact hi)] at hd
      exact (s.cell i b d q hd).ex s (Ext.cell n) (upd_ne fun z => hn (z ▸ List.mem_of_getElem? q))
    · rw [e, s.len, List.getElem?_append_right (Nat.le_refl _), Nat.sub_self] at hd
      cases hd
      exact r
  · rcases List.mem_append.mp hb with hb | hb
    · exact s.nfr b hb
    · rw [List.mem_singleton.mp hb]
      exact fun z => s.low a z n
/-! ### a cell that is changed -/
theorem Ext.upd {a : Addr} {o : HO} (m : Nat) (h : a ∈ ms) (hH : H a ≠ none) : Ext m fr H ms fr (upd H a o) ms :=
  ⟨rfl, fun b u g nb _ => by rw [upd_ne (fun z : b = a => nb (by rw [z]; exact h))]; exact g, fun b g => upd_there g, fun _ g => .inl g, fun _ g => g, fun _ g => .inl g⟩
theorem SR.set {a : Addr} {o : HO} {c : Cell} {i : Nat} (s : SR K fr H ms st) (h : ms[i]? = some a) (r : CR K fr (upd H a o) ms a c) : SR K fr (upd H a o) ms (st.set i c) := by
  have hm := List.mem_of_getElem? h
  refine ⟨by rw [List.length_set, s.len], s.nd, fun j b d hb hd => ?_, s.nfr, fun b g => (by
    obtain ⟨u, e, ho⟩ := s.lo b g
    exact ⟨u, (upd_ne fun z => s.nfr a hm (by rw [← z]; exact g)).trans e, ho⟩), tabs_put s.tab fun u hu => by
    obtain ⟨v, e, ho⟩ := s.ow hm
    rw [e] at hu
    cases hu
    exact ho⟩
  by_cases e : j = i
  · subst e
    rw [h] at hb
    cases hb
    rw [List.getElem?_set_self (by rw [← s.len]; exact (List.getElem?_eq_some_iff.mp h).1)] at hd
    cases hd
    exact r
  · rw [List.getElem?_set_ne fun z => e z.symm] at hd
    refine (s.cell j b d hb hd).ex s (Ext.upd _ hm (s.there hm)) (upd_ne fun z => e ?_)
    subst z
    exact nodup_ne s.nd hb h
theorem SR.at (s : SR K fr H ms st) {v : V} {i : Nat} {c : Cell} (r : VR K fr H ms v (.ref i)) (h : st[i]? = some c) : ∃ a, v = .ref a ∧ ms[i]? = some a ∧ CR K fr H ms a c := by
  cases r with
  | ref g => exact ⟨_, rfl, g, s.cell _ _ _ g h⟩
end
end FL
namespace FL
open PySem PySem.Spec PyProof.Rows L2
/-! ### results -/
/-- an exception: its class, its one field -/
abbrev XV := Str × Option (Str × Val)
inductive R (α : Type) where
  | ok (a : α) (st : Store)
  | exc (x : XV) (st : Store)
  | bad
inductive S where
  | nx (ρ : Env) (st : Store)
  | rt (x : Val) (st : Store)
  | bk (ρ : Env) (st : Store)
  | ct (ρ : Env) (st : Store)
  | ex (x : XV) (ρ : Env) (st : Store)
  | bad
def R.bind {α β : Type} (r : R α) (f : α → Store → R β) : R β := match r with
  | .ok a st => f a st
  | .exc x st => .exc x st
  | .bad => .bad
/-- an expression within a statement -/
def R.to {α : Type} (r : R α) (ρ : Env) (f : α → Store → S) : S := match r with
  | .ok a st => f a st
  | .exc x st => .ex x ρ st
  | .bad => .bad
def S.then (r : S) (f : Env → Store → S) : S := match r with
  | .nx ρ st => f ρ st
  | r => r
abbrev FE := Env → Store → R Val
abbrev FT := Env → Store → R Bool
abbrev FA := Env → Store → R (List Val)
abbrev FO := Env → Store → R (Option Int)
abbrev FS := Env → Store → S
/-- of a value or none -/
def R.opt {α : Type} : Option (α × Store) → R α
  | some (a, st) => .ok a st
  | none => .bad
section
variable (K : KZ)
def XR (fr : Addr → Prop) (H : Hp) (ms : List Addr) (d : Option Addr) (c : XV) : Prop := match c.2 with
  | none => d = none
  | some (f, x) => ∃ dd v, d = some dd ∧ H dd = some (.xd [(f, v)]) ∧ VR K fr H ms v x
/-- what holds of a result -/
def G {α : Type} (W : WX) (σ : L2.St) (fr : Addr → Prop) (H : Hp) (ms : List Addr) (r : R α) (P : α → (Addr → Prop) → Hp → List Addr → Store → Prop) : Prop := match r with
  | .ok a st' => ∀ fr' H' ms', Ext ms.length fr H ms fr' H' ms' → SR K fr' H' ms' st' → P a fr' H' ms' st'
  | .exc x st' => ∀ fr' H' ms' d, Ext ms.length fr H ms fr' H' ms' → SR K fr' H' ms' st' → XR K fr' H' ms' d x → W (.ref (cA K x.1)) d σ H'
  | .bad => False
def PV (Q : VK) : Val → (Addr → Prop) → Hp → List Addr → Store → Prop := fun x fr H ms _ => ∀ v, VR K fr H ms v x → Q v H
def PL (Q : List V → Hp → Prop) : List Val → (Addr → Prop) → Hp → List Addr → Store → Prop := fun xs fr H ms _ => ∀ vs, VRs K fr H ms vs xs → Q vs H
def PT' {α : Type} (Q : α → Hp → Prop) : α → (Addr → Prop) → Hp → List Addr → Store → Prop := fun b _ H _ _ => Q b H
/-- what holds of a statement's result -/
def GS {Z : KS} (W : WZ Z) (fr : Addr → Prop) (H : Hp) (ms : List Addr) (r : S) (D : Ends) : Prop := match r with
  | .nx ρ st => ∀ fr' H' ms' σ', Ext ms.length fr H ms fr' H' ms' → gamOf W σ' = K.gam → Wd K fr' H' ms' σ' ρ st → D.nx σ' H'
  | .rt x st => ∀ fr' H' ms' v, Ext ms.length fr H ms fr' H' ms' → SR K fr' H' ms' st → VR K fr' H' ms' v x → D.rt v H'
  | .bk ρ st => ∀ fr' H' ms' σ', Ext ms.length fr H ms fr' H' ms' → gamOf W σ' = K.gam → Wd K fr' H' ms' σ' ρ st → D.bk σ' H'
  | .ct ρ st => ∀ fr' H' ms' σ', Ext ms.length fr H ms fr' H' ms' → gamOf W σ' = K.gam → Wd K fr' H' ms' σ' ρ st → D.ct σ' H'
  | .ex x ρ st => ∀ fr' H' ms' σ' d, Ext ms.length fr H ms fr' H' ms' → gamOf W σ' = K.gam → Wd K fr' H' ms' σ' ρ st → XR K fr' H' ms' d x → W (.ref (cA K x.1)) d σ' H'
  | .bad => False
def LE {Z : KS} (W : WZ Z) (t : FE) : TE := fun σ H Q => ∃ fr ms ρ st, Wd (K.to W σ) fr H ms σ ρ st ∧ G (K.to W σ) W.w σ fr H ms (t ρ st) (PV (K.to W σ) Q)
def LT {Z : KS} (W : WZ Z) (t : FT) : TT := fun σ H Q => ∃ fr ms ρ st, Wd (K.to W σ) fr H ms σ ρ st ∧ G (K.to W σ) W.w σ fr H ms (t ρ st) (PT' Q)
def LA {Z : KS} (W : WZ Z) (t : FA) : TA := fun σ H Q => ∃ fr ms ρ st, Wd (K.to W σ) fr H ms σ ρ st ∧ G (K.to W σ) W.w σ fr H ms (t ρ st) (PL (K.to W σ) Q)
def LO {Z : KS} (W : WZ Z) (t : FO) : TO := fun σ H Q => ∃ fr ms ρ st, Wd (K.to W σ) fr H ms σ ρ st ∧ G (K.to W σ) W.w σ fr H ms (t ρ st) (PT' Q)
def LS {Z : KS} (W : WZ Z) (t : FS) : TS := fun D σ H => ∃ fr ms ρ st, Wd (K.to W σ) fr H ms σ ρ st ∧ GS (K.to W σ) W fr H ms (t ρ st) D
end
abbrev DE (X : Cx) {Z : KS} (W : WZ Z) (e : Expr) (t : FE) : Prop := PE X e (LE (kx X Z) W t)
abbrev DT (X : Cx) {Z : KS} (W : WZ Z) (e : Expr) (t : FT) : Prop := PT X e (LT (kx X Z) W t)
abbrev DW (X : Cx) {Z : KS} (W : WZ Z) (e : Expr) (t : FT) : Prop := PW X e (LT (kx X Z) W t)
abbrev DA (X : Cx) {Z : KS} (W : WZ Z) (es : List Expr) (t : FA) : Prop := PA X es (LA (kx X Z) W t)
abbrev DO (X : Cx) {Z : KS} (W : WZ Z) (e : Option Expr) (t : FO) : Prop := PO X e (LO (kx X Z) W t)
abbrev DS (X : Cx) {Z : KS} (W : WZ Z) (s : Stmt) (t : FS) : Prop := PS X s (LS (kx X Z) W t)
abbrev DSs (X : Cx) {Z : KS} (W : WZ Z) (s : List Stmt) (t : FS) : Prop := PSs X s (LS (kx X Z) W t)
theorem pe_imp {X : Cx} {e : Expr} {t t' : TE} (h : PE X e t) (i : ∀ σ H Q, t' σ H Q → t σ H Q) : PE X e t' := ⟨fun pins s σ H Q I q => h.run pins s σ H Q I (i _ _ _ q)⟩
theorem pt_imp {X : Cx} {e : Expr} {t t' : TT} (h : PT X e t) (i : ∀ σ H Q, t' σ H Q → t σ H Q) : PT X e t' := ⟨fun pins s σ H Q I q => h.run pins s σ H Q I (i _ _ _ q)⟩
theorem pw_imp {X : Cx} {e : Expr} {t t' : TT} (h : PW X e t) (i : ∀ σ H Q, t' σ H Q → t σ H Q) : PW X e t' := ⟨fun wh pins s σ H Q I q => h.run wh pins s σ H Q I (i _ _ _ q)⟩
theorem pa_imp {X : Cx} {e : List Expr} {t t' : TA} (h : PA X e t) (i : ∀ σ H Q, t' σ H Q → t σ H Q) : PA X e t' := ⟨fun pos pins s σ H Q I q => h.run pos pins s σ H Q I (i _ _ _ q)⟩
theorem ps_imp {X : Cx} {e : Stmt} {t t' : TS} (h : PS X e t) (i : ∀ D σ H, t' D σ H → t D σ H) : PS X e t' := ⟨fun pins s σ H D I q => h.run pins s σ H D I (i _ _ _ q)⟩
theorem pss_imp {X : Cx} {e : List Stmt} {t t' : TS} (h : PSs X e t) (i : ∀ D σ H, t' D σ H → t D σ H) : PSs X e t' := ⟨fun pins s σ H D I q => h.run pins s σ H D I (i _ _ _ q)⟩
theorem po_imp {X : Cx} {e : Option Expr} {t t' : TO} (h : PO X e t) (i : ∀ σ H Q, t' σ H Q → t σ H Q) : PO X e t' := ⟨fun pins s σ H Q I q => h.run pins s σ H Q I (i _ _ _ q)⟩
section
variable {K : KZ} {W : WX} {Z : KS} {Y : WZ Z} {σ : L2.St} {fr fr1 : Addr → Prop} {H H1 : Hp} {ms ms1 : List Addr} {st st1 : Store} {ρ : Env} {n : Nat} {α β : Type}
theorem G.at {r : R α} {P : α → (Addr → Prop) → Hp → List Addr → Store → Prop} (g : G K W σ fr H ms r P) (e : Ext ms.length fr H ms fr1 H1 ms1) : G K W σ fr1 H1 ms1 r P := by
  cases r with
  | ok a st' => exact fun fr' H' ms' e' s' => g fr' H' ms' (e.then e') s'
  | exc x st' => exact fun fr' H' ms' d e' s' x' => g fr' H' ms' d (e.then e') s' x'
  | bad => exact g
theorem G.mono {r : R α} {P P' : α → (Addr → Prop) → Hp → List Addr → Store → Prop} (g : G K W σ fr H ms r P) (i : ∀ a st' fr' H' ms', Ext ms.length fr H ms fr' H' ms' → SR K fr' H' ms' st' → P a fr' H' ms' st' → P' a fr' H' ms' st') : G K W σ fr H ms r P' := by
  cases r with
  | ok a st' => exact fun fr' H' ms' e' s' => i _ _ _ _ _ e' s' (g fr' H' ms' e' s')
  | exc x st' => exact g
  | bad => exact g
theorem G.now {a : α} {P : α → (Addr → Prop) → Hp → List Addr → Store → Prop} (g : G K W σ fr H ms (.ok a st) P) (s : SR K fr H ms st) : P a fr H ms st := g _ _ _ (Ext.refl _ _ _ _) s
theorem G.bind {r : R α} {f : α → Store → R β} {P : β → (Addr → Prop) → Hp → List Addr → Store → Prop} (g : G K W σ fr H ms (r.bind f) P) :
    G K W σ fr H ms r (fun a fr' H' ms' st' => Ext ms.length fr H ms fr' H' ms' ∧ SR K fr' H' ms' st' ∧ G K W σ fr' H' ms' (f a st') P) := by
  cases r with
  | ok a st' => exact fun fr' H' ms' e' s' => ⟨e', s', G.at g e'⟩
  | exc x st' => exact g
  | bad => exact g
theorem GS.at {r : S} {D : Ends} (g : GS K Y fr H ms r D) (e : Ext ms.length fr H ms fr1 H1 ms1) : GS K Y fr1 H1 ms1 r D := by
  cases r with
  | nx ρ st => exact fun fr' H' ms' σ' e' m w => g _ _ _ _ (e.then e') m w
  | rt x st => exact fun fr' H' ms' σ' e' w => g _ _ _ _ (e.then e') w
  | bk ρ st => exact fun fr' H' ms' σ' e' m w => g _ _ _ _ (e.then e') m w
  | ct ρ st => exact fun fr' H' ms' σ' e' m w => g _ _ _ _ (e.then e') m w
  | ex x ρ st => exact fun fr' H' ms' σ' d e' m w => g _ _ _ _ d (e.then e') m w
  | bad => exact g
/-- an expression within a statement -/
theorem GS.to {r : R α} {f : α → Store → S} {D : Ends} (w : Wd K fr H ms σ ρ st) (g : GS K Y fr H ms (r.to ρ f) D) (m : gamOf Y σ = K.gam := by rfl) :
    G K Y.w σ fr H ms r (fun a fr' H' ms' st' => Ext ms.length fr H ms fr' H' ms' ∧ SR K fr' H' ms' st' ∧ Wd K fr' H' ms' σ ρ st' ∧ GS K Y fr' H' ms' (f a st') D) := by
  cases r with
  | ok a st' => exact fun fr' H' ms' e' s' => ⟨e', s', w.on e' s', GS.at g e'⟩
  | exc x st' => exact fun fr' H' ms' d e' s' x' => g _ _ _ _ d e' m (w.on e' s') x'
  | bad => exact g
theorem GS.nx {D : Ends} (g : GS K Y fr H ms (.nx ρ st) D) (w : Wd K fr H ms σ ρ st) (m : gamOf Y σ = K.gam := by rfl) : D.nx σ H := g _ _ _ _ (Ext.refl _ _ _ _) m w
theorem GS.bk {D : Ends} (g : GS K Y fr H ms (.bk ρ st) D) (w : Wd K fr H ms σ ρ st) (m : gamOf Y σ = K.gam := by rfl) : D.bk σ H := g _ _ _ _ (Ext.refl _ _ _ _) m w
theorem GS.ct {D : Ends} (g : GS K Y fr H ms (.ct ρ st) D) (w : Wd K fr H ms σ ρ st) (m : gamOf Y σ = K.gam := by rfl) : D.ct σ H := g _ _ _ _ (Ext.refl _ _ _ _) m w
theorem GS.rt {D : Ends} {x : Val} {v : V} (g : GS K Y fr H ms (.rt x st) D) (s : SR K fr H ms st) (r : VR K fr H ms v x) : D.rt v H := g _ _ _ _ (Ext.refl _ _ _ _) s r
theorem GS.then {r : S} {f : Env → Store → S} {D : Ends} (g : GS K Y fr H ms (r.then f) D) :
    GS K Y fr H ms r { D with nx := fun σ' H' => ∃ fr' ms' ρ' st', Wd (K.to Y σ') fr' H' ms' σ' ρ' st' ∧ GS (K.to Y σ') Y fr' H' ms' (f ρ' st') D } := by
  cases r with
  | nx ρ st => exact fun fr' H' ms' σ' e' m w => ⟨fr', ms', ρ, st, by rw [KZ.to_eq m]; exact w, by rw [KZ.to_eq m]; exact GS.at g e'⟩
  | rt x st => exact g
  | bk ρ st => exact g
  | ct ρ st => exact g
  | ex x ρ st => exact g
  | bad => exact g
end
theorem takes_none {X : Cx} : Takes X (fun _ _ _ _ => False) := fun u s' ⟨a, B, sI, pins, σ, H, cls, d, e, I, nb, up, sky, na, os, ag, w⟩ => w.elim
/-! ### names, constants -/
def eV (i : Nat) : FE := fun ρ st => match ρ[i]? with
  | some (some x) => .ok x st
  | _ => .bad
def eC (x : Val) : FE := fun _ st => .ok x st
/-- never reached -/
def eBot : FE := fun _ _ => .bad
section
variable {X : Cx} {Z : KS} {W : WZ Z} {pos : Pos}
theorem d_v (i : Nat) {x : Str} (hN : X.N[i]? = some x := by rfl) (hv : Vis X.env.scope x := by first | exact Or.inl rfl | exact Or.inr (Or.inl rfl) | exact Or.inr (Or.inr rfl)) (hd : (x == ("__debug__" : Str)) = false := by decide)
    (hcd : (x == ("__classdict__" : Str)) = false := by decide) : DE X W (.Name x pos) (eV i) := pe_imp (pe_var hN hv hd hcd) fun σ H Q ⟨fr, ms, ρ, st, w, g⟩ => by
  unfold eV at g
  split at g
  · next x hx =>
    obtain ⟨v, e, r⟩ := w.env i x hx
    exact ⟨v, e, g.now w.sr v r⟩
  · exact g.elim
theorem d_int {i j} : DE X W (.Constant (.int i) j pos) (eC (.int i)) := pe_imp pe_int fun σ H Q ⟨fr, ms, ρ, st, w, g⟩ => g.now w.sr _ (.int i)
theorem d_bl {b j} : DE X W (.Constant (.bool b) j pos) (eC (.bl b)) := pe_imp pe_bl fun σ H Q ⟨fr, ms, ρ, st, w, g⟩ => g.now w.sr _ (.bl b)
theorem d_non {j} : DE X W (.Constant .none j pos) (eC .non) := pe_imp pe_non fun σ H Q ⟨fr, ms, ρ, st, w, g⟩ => g.now w.sr _ .non
theorem d_str {x j} : DE X W (.Constant (.str x) j pos) (eC (.str x)) := pe_imp pe_str fun σ H Q ⟨fr, ms, ρ, st, w, g⟩ => g.now w.sr _ (.str x)
theorem d_bot {e : Expr} : DE X W e eBot := ⟨fun _ _ _ _ _ _ ⟨_, _, _, _, _, g⟩ => g.elim⟩
end
/-! ### operators -/
abbrev F2 := Val → Val → Store → Option (Val × Store)
abbrev F1 := Val → Store → Option (Val × Store)
abbrev FL1 := List Val → Store → Option (Val × Store)
/-- all that may follow of a value and a store -/
def QV (K : KZ) (fr : Addr → Prop) (H : Hp) (ms : List Addr) (z : Val) (st : Store) (Q : VK) : Prop := ∀ fr' H' ms' v, Ext ms.length fr H ms fr' H' ms' → SR K fr' H' ms' st → VR K fr' H' ms' v z → Q v H'
section
variable {K : KZ} {fr : Addr → Prop} {H : Hp} {ms : List Addr} {st : Store}
theorem QV.now {z : Val} {Q : VK} {v : V} (q : QV K fr H ms z st Q) (s : SR K fr H ms st) (r : VR K fr H ms v z) : Q v H := q _ _ _ _ (Ext.refl _ _ _ _) s r
theorem QV.of {W : WX} {σ : L2.St} {z : Val} {Q : VK} (g : G K W σ fr H ms (.ok z st) (PV K Q)) : QV K fr H ms z st Q := fun fr' H' ms' v e s r => g fr' H' ms' e s v r
theorem QV.tup {xs : List Val} {Q : VK} {vs : List V} (q : QV K fr H ms (.tup xs) st Q) (s : SR K fr H ms st) (r : VRs K fr H ms vs xs) {p : Addr} (n : H p = none) : Q (.ref p) (upd H p (.tup vs)) :=
  q _ _ _ _ (Ext.new _ n) (s.new n) (.tup (SqT.of upd_same) (r.ex s (Ext.new _ n)))
/-- a new list: a cell, or frozen -/
def newL (c : Bool) (xs : List Val) (st : Store) : Val × Store := match c with
  | true => (.ref st.length, st ++ [.lst xs])
  | false => (.ro xs, st)
theorem QV.newl {c : Bool} {xs : List Val} {Q : VK} {vs : List V} (q : QV K fr H ms (newL c xs st).1 (newL c xs st).2 Q) (s : SR K fr H ms st) (r : VRs K fr H ms vs xs) {p : Addr} (n : H p = none) : Q (.ref p) (upd H p (.lst vs)) := by
  cases c with
  | true =>
    refine q _ _ (ms ++ [p]) _ (Ext.cell n) (s.cons n ⟨vs, upd_same, r.ex s (Ext.cell n)⟩) (.ref ?_)
    rw [List.getElem?_append_right (by rw [s.len]; exact Nat.le_refl _), s.len, Nat.sub_self]
    rfl
  | false => exact q _ _ ms _ (Ext.fz _ n) (s.fzn n trivial) (.ro upd_same (.inr rfl) (r.ex s (Ext.fz _ n)))
end
def R2F (K : KZ) (r : R2) (f : F2) : Prop := ∀ (g : Addr → Option V) fr H ms st x y sx sy z st' Q, SR (K.gm g) fr H ms st → VR (K.gm g) fr H ms x sx → VR (K.gm g) fr H ms y sy → f sx sy st = some (z, st') → QV (K.gm g) fr H ms z st' Q → r x y H Q
def R1F (K : KZ) (r : V → Hp → VK → Prop) (f : F1) : Prop := ∀ (g : Addr → Option V) fr H ms st x sx z st' Q, SR (K.gm g) fr H ms st → VR (K.gm g) fr H ms x sx → f sx st = some (z, st') → QV (K.gm g) fr H ms z st' Q → r x H Q
def RLF (K : KZ) (r : List V → Hp → VK → Prop) (f : FL1) : Prop := ∀ (g : Addr → Option V) fr H ms st xs sxs z st' Q, SR (K.gm g) fr H ms st → VRs (K.gm g) fr H ms xs sxs → f sxs st = some (z, st') → QV (K.gm g) fr H ms z st' Q → r xs H Q
def eOp (f : F2) (ta tb : FE) : FE := fun ρ st => (ta ρ st).bind fun x st1 => (tb ρ st1).bind fun y st2 => R.opt (f x y st2)
def eUn (f : F1) (ta : FE) : FE := fun ρ st => (ta ρ st).bind fun x st1 => R.opt (f x st1)
theorem G.opt {K : KZ} {W : WX} {σ : L2.St} {fr : Addr → Prop} {H : Hp} {ms : List Addr} {o : Option (Val × Store)} {Q : VK} (g : G K W σ fr H ms (R.opt o) (PV K Q)) : ∃ z st', o = some (z, st') ∧ QV K fr H ms z st' Q := by
  cases o with
  | none => exact g.elim
  | some p => exact ⟨p.1, p.2, rfl, QV.of g⟩
section
variable {X : Cx} {Z : KS} {W : WZ Z} {pos : Pos} {a b c : Expr} {ta tb tc : FE} {r r' : R2} {f f' : F2}
theorem le_op {K : KZ} (h : R2F K r f) {σ : L2.St} {H : Hp} {Q : VK} : LE K W (eOp f ta tb) σ H Q → tOp r (LE K W ta) (LE K W tb) σ H Q := by
  rintro ⟨fr, ms, ρ, st, w, g⟩
  refine ⟨fr, ms, ρ, st, w, g.bind.mono fun x st1 fr1 H1 ms1 _ _ ⟨e1, s1, g1⟩ v rv => ?_⟩
  refine ⟨fr1, ms1, ρ, st1, w.on e1 s1, g1.bind.mono fun y st2 fr2 H2 ms2 _ _ ⟨e2, s2, g2⟩ u ru => ?_⟩
  obtain ⟨z, st3, hf, q⟩ := g2.opt
  exact h _ _ _ _ _ _ _ _ _ _ _ Q s2 (rv.ex s1 e2) ru hf q
theorem le_un {K : KZ} {r : V → Hp → VK → Prop} {f : F1} (h : R1F K r f) {σ : L2.St} {H : Hp} {Q : VK} : LE K W (eUn f ta) σ H Q → tUn r (LE K W ta) σ H Q := by
  rintro ⟨fr, ms, ρ, st, w, g⟩
  refine ⟨fr, ms, ρ, st, w, g.bind.mono fun x st1 fr1 H1 ms1 _ _ ⟨e1, s1, g1⟩ v rv => ?_⟩
  obtain ⟨z, st3, hf, q⟩ := g1.opt
  exact h _ _ _ _ _ _ _ _ _ Q s1 rv hf q
theorem d_op {op : Operator} (ho : OpR X (binaryOp op) r) (h : R2F (kx X Z) r f) (ha : DE X W a ta) (hb : DE X W b tb) : DE X W (.BinOp a op b pos) (eOp f ta tb) := pe_imp (pe_op ho ha hb) fun _ _ _ => le_op h
theorem d_un {op : UnaryOp} {r : V → Hp → VK → Prop} {f : F1} (ho : UnR X (unaryOp op) r) (h : R1F (kx X Z) r f) (ha : DE X W a ta) : DE X W (.UnaryOp op a pos) (eUn f ta) := pe_imp (pe_un ho ha) fun _ _ _ => le_un h
theorem d_cmp {op : CmpOp} (ho : OpR X (compareOp op) r) (h : R2F (kx X Z) r f) (ha : DE X W a ta) (hb : DE X W b tb) (hm : behindInMarks op b = false) : DE X W (.Compare a [op] [b] pos) (eOp f ta tb) := pe_imp (pe_cmpR ho ha hb hm) fun _ _ _ => le_op h
/-- a value as a test: it must be a truth -/
def tB (t : FE) : FT := fun ρ st => (t ρ st).bind fun x st1 => match x with
  | .bl b => .ok b st1
  | _ => .bad
theorem vr_bl {K : KZ} {fr : Addr → Prop} {H : Hp} {ms : List Addr} {v : V} {b : Bool} (h : VR K fr H ms v (.bl b)) : v = .bl b := by cases h; rfl
theorem vr_int {K : KZ} {fr : Addr → Prop} {H : Hp} {ms : List Addr} {v : V} {b : Int} (h : VR K fr H ms v (.int b)) : v = .int b := by cases h; rfl
theorem vr_str {K : KZ} {fr : Addr → Prop} {H : Hp} {ms : List Addr} {v : V} {b : Str} (h : VR K fr H ms v (.str b)) : v = .str b := by cases h; rfl
theorem vr_non {K : KZ} {fr : Addr → Prop} {H : Hp} {ms : List Addr} {v : V} (h : VR K fr H ms v .non) : v = .non := by cases h; rfl
theorem lt_test {K : KZ} {t : FE} {σ : L2.St} {H : Hp} {Q : Bool → Hp → Prop} : LT K W (tB t) σ H Q → tTest (LE K W t) σ H Q := by
  rintro ⟨fr, ms, ρ, st, w, g⟩
  refine ⟨fr, ms, ρ, st, w, g.bind.mono fun x st1 fr1 H1 ms1 _ _ ⟨e1, s1, g1⟩ v rv => ?_⟩
  split at g1
  · exact ⟨_, vr_bl rv, g1.now s1⟩
  · exact g1.elim
theorem t_val {e : Expr} {t : FE} (h : DE X W e t) (he : ∀ whole, isTrue e X.env whole = (do let v ← whole; standAt e.pos; holding [v] (truthy v)) := by intro _; rfl) : DT X W e (tB t) := pt_imp (pt_val h he) fun _ _ _ => lt_test
theorem LE.mono {K : KZ} {t : FE} {σ : L2.St} {H : Hp} {Q Q' : VK} (h : LE K W t σ H Q) (i : ∀ v H, Q v H → Q' v H) : LE K W t σ H Q' := by
  obtain ⟨fr, ms, ρ, st, w, g⟩ := h
  exact ⟨fr, ms, ρ, st, w, g.mono fun x st1 fr1 H1 ms1 _ _ p v rv => i _ _ (p v rv)⟩
theorem lt_le {K : KZ} {t : FE} {σ : L2.St} {H : Hp} {Q : Bool → Hp → Prop} (h : LT K W (tB t) σ H Q) : LE K W t σ H fun v H' => ∃ b, v = .bl b ∧ Q b H' := lt_test h
theorem t_cmp {op : CmpOp} (ho : OpR X (compareOp op) r) (h : R2F (kx X Z) r f) (ha : DE X W a ta) (hb : DE X W b tb) (hm : behindInMarks op b = false) : DT X W (.Compare a [op] [b] pos) (tB (eOp f ta tb)) :=
  pt_imp (pt_cmpR ho ha hb hm) fun σ H Q h1 => le_op h (lt_le h1)
def eChain (f f' : F2) (ta tb tc : FE) : FE := fun ρ st => (ta ρ st).bind fun x st1 => (tb ρ st1).bind fun y st2 => (R.opt (f x y st2)).bind fun z st3 => match z with
  | .bl true => (tc ρ st3).bind fun u st4 => R.opt (f' y u st4)
  | .bl false => .ok (.bl false) st3
  | _ => .bad
theorem le_chain {K : KZ} (h : R2F K r f) (h' : R2F K r' f') {σ : L2.St} {H : Hp} {Q : VK} : LE K W (eChain f f' ta tb tc) σ H Q → tChain r r' (LE K W ta) (LE K W tb) (LE K W tc) σ H Q := by
  rintro ⟨fr, ms, ρ, st, w, g⟩
  refine ⟨fr, ms, ρ, st, w, g.bind.mono fun x st1 fr1 H1 ms1 _ _ ⟨e1, s1, g1⟩ v rv => ?_⟩
  have w1 := w.on e1 s1
  refine ⟨fr1, ms1, ρ, st1, w1, g1.bind.mono fun y st2 fr2 H2 ms2 _ _ ⟨e2, s2, g2⟩ u ru => ?_⟩
  have w2 := w1.on e2 s2
  cases hz : f x y st2 with
  | none =>
    rw [hz] at g2
    exact g2.elim
  | some p =>
    obtain ⟨z, st3⟩ := p
    rw [hz] at g2
    refine h _ _ _ _ _ _ _ _ _ _ _ _ s2 (rv.ex s1 e2) ru hz fun fr3 H3 ms3 z' e3 s3 r3 => ?_
    have g3 := g2.at e3
    have w3 := w2.on e3 s3
    show ∃ k, _
    have g4 : G (K.to W σ) W σ fr3 H3 ms3 (match z with
      | .bl true => (tc ρ st3).bind fun u st4 => R.opt (f' y u st4)
      | .bl false => .ok (.bl false) st3
      | _ => .bad) (PV (K.to W σ) Q) := g3
    split at g4
    · refine ⟨true, vr_bl r3, ?_⟩
      rw [if_pos rfl]
      refine ⟨fr3, ms3, ρ, st3, w3, g4.bind.mono fun u' st4 fr4 H4 ms4 _ _ ⟨e4, s4, g5⟩ v4 r4 => ?_⟩
      obtain ⟨z2, st5, hf, q⟩ := g5.opt
      exact h' _ _ _ _ _ _ _ _ _ _ _ Q s4 (ru.ex s2 (e3.then e4)) r4 hf q
    · refine ⟨false, vr_bl r3, ?_⟩
      rw [if_neg Bool.false_ne_true]
      exact g4.now s3 _ (.bl false)
    · exact g4.elim
theorem d_chain {op op' : CmpOp} (ho : OpR X (compareOp op) r) (h : R2F (kx X Z) r f) (ho' : OpR X (compareOp op') r') (h' : R2F (kx X Z) r' f') (ha : DE X W a ta) (hb : DE X W b tb) (hc : DE X W c tc)
    (hm : lastMarks [op, op'] [b, c] = false := by with_unfolding_all rfl) : DE X W (.Compare a [op, op'] [b, c] pos) (eChain f f' ta tb tc) := pe_imp (pe_chain ho ho' ha hb hc hm) fun _ _ _ => le_chain h h'
theorem t_chain {op op' : CmpOp} (ho : OpR X (compareOp op) r) (h : R2F (kx X Z) r f) (ho' : OpR X (compareOp op') r') (h' : R2F (kx X Z) r' f') (ha : DE X W a ta) (hb : DE X W b tb) (hc : DE X W c tc)
    (hm : lastMarks [op, op'] [b, c] = false := by with_unfolding_all rfl) : DT X W (.Compare a [op, op'] [b, c] pos) (tB (eChain f f' ta tb tc)) := pt_imp (pt_chain ho ho' ha hb hc hm) fun σ H Q h1 => le_chain h h' (lt_le h1)
/-! ### and, or, not, .. if .. else -/
def tAnd (t u : FT) : FT := fun ρ st => (t ρ st).bind fun c st1 => bif c then u ρ st1 else .ok false st1
def tOr (t u : FT) : FT := fun ρ st => (t ρ st).bind fun c st1 => bif c then .ok true st1 else u ρ st1
def tNot (t : FT) : FT := fun ρ st => (t ρ st).bind fun c st1 => .ok (!c) st1
def eAnd (t u : FE) : FE := fun ρ st => (t ρ st).bind fun c st1 => match c with
  | .bl true => u ρ st1
  | .bl false => .ok (.bl false) st1
  | _ => .bad
def eOr (t u : FE) : FE := fun ρ st => (t ρ st).bind fun c st1 => match c with
  | .bl true => .ok (.bl true) st1
  | .bl false => u ρ st1
  | _ => .bad
def eNot (t : FE) : FE := fun ρ st => (t ρ st).bind fun c st1 => match c with
  | .bl b => .ok (.bl (!b)) st1
  | _ => .bad
def eIf (t : FT) (u v : FE) : FE := fun ρ st => (t ρ st).bind fun c st1 => bif c then u ρ st1 else v ρ st1
variable {tA tB' : FT} {rest : List Expr}
theorem w_and1 (h : DT X W a tA) : DW X W (.BoolOp .And [a] pos) tA := pw_and1 h
theorem w_or1 (h : DT X W a tA) : DW X W (.BoolOp .Or [a] pos) tA := pw_or1 h
theorem w_and (ha : DT X W a tA) (hb : DW X W (.BoolOp .And (b :: rest) pos) tB') : DW X W (.BoolOp .And (a :: b :: rest) pos) (tAnd tA tB') := pw_imp (pw_and ha hb) fun σ H Q ⟨fr, ms, ρ, st, w, g⟩ =>
  ⟨fr, ms, ρ, st, w, g.bind.mono fun c st1 fr1 H1 ms1 _ _ ⟨e1, s1, g1⟩ => by
    cases c with
    | true => dsimp only [PT']; rw [if_pos rfl]; exact ⟨fr1, ms1, ρ, st1, w.on e1 s1, g1⟩
    | false => dsimp only [PT']; rw [if_neg Bool.false_ne_true]; exact (g1.now s1)⟩
theorem w_or (ha : DT X W a tA) (hb : DW X W (.BoolOp .Or (b :: rest) pos) tB') : DW X W (.BoolOp .Or (a :: b :: rest) pos) (tOr tA tB') := pw_imp (pw_or ha hb) fun σ H Q ⟨fr, ms, ρ, st, w, g⟩ =>
  ⟨fr, ms, ρ, st, w, g.bind.mono fun c st1 fr1 H1 ms1 _ _ ⟨e1, s1, g1⟩ => by
    cases c with
    | true => dsimp only [PT']; rw [if_pos rfl]; exact (g1.now s1)
    | false => dsimp only [PT']; rw [if_neg Bool.false_ne_true]; exact ⟨fr1, ms1, ρ, st1, w.on e1 s1, g1⟩⟩
theorem t_not (ha : DT X W a tA) : DT X W (.UnaryOp .Not a pos) (tNot tA) := pt_imp (pt_not ha) fun σ H Q ⟨fr, ms, ρ, st, w, g⟩ =>
  ⟨fr, ms, ρ, st, w, g.bind.mono fun c st1 fr1 H1 ms1 _ _ ⟨e1, s1, g1⟩ => g1.now s1⟩
theorem d_one {op} {t : FE} (h : DE X W a t) : DE X W (.BoolOp op [a] pos) t := pe_one h
theorem d_and (ha : DE X W a ta) (hb : DE X W (.BoolOp .And (b :: rest) pos) tb) : DE X W (.BoolOp .And (a :: b :: rest) pos) (eAnd ta tb) := pe_imp (pe_and ha hb) fun σ H Q ⟨fr, ms, ρ, st, w, g⟩ =>
  ⟨fr, ms, ρ, st, w, g.bind.mono fun c st1 fr1 H1 ms1 _ _ ⟨e1, s1, g1⟩ v rv => by
    split at g1
    · exact ⟨true, vr_bl rv, iteT ⟨fr1, ms1, ρ, st1, w.on e1 s1, g1⟩⟩
    · exact ⟨false, vr_bl rv, iteF (g1.now s1 _ (.bl false))⟩
    · exact g1.elim⟩
theorem d_or (ha : DE X W a ta) (hb : DE X W (.BoolOp .Or (b :: rest) pos) tb) : DE X W (.BoolOp .Or (a :: b :: rest) pos) (eOr ta tb) := pe_imp (pe_or ha hb) fun σ H Q ⟨fr, ms, ρ, st, w, g⟩ =>
  ⟨fr, ms, ρ, st, w, g.bind.mono fun c st1 fr1 H1 ms1 _ _ ⟨e1, s1, g1⟩ v rv => by
    split at g1
    · exact ⟨true, vr_bl rv, iteT (g1.now s1 _ (.bl true))⟩
    · exact ⟨false, vr_bl rv, iteF ⟨fr1, ms1, ρ, st1, w.on e1 s1, g1⟩⟩
    · exact g1.elim⟩
theorem d_not (ha : DE X W a ta) : DE X W (.UnaryOp .Not a pos) (eNot ta) := pe_imp (pe_not ha) fun σ H Q ⟨fr, ms, ρ, st, w, g⟩ =>
  ⟨fr, ms, ρ, st, w, g.bind.mono fun c st1 fr1 H1 ms1 _ _ ⟨e1, s1, g1⟩ v rv => by
    split at g1
    · exact ⟨_, vr_bl rv, g1.now s1 _ (.bl _)⟩
    · exact g1.elim⟩
theorem d_if (hc : DT X W c tA) (ha : DE X W a ta) (hb : DE X W b tb) : DE X W (.IfExp c a b pos) (eIf tA ta tb) := pe_imp (pe_ifExp hc ha hb) fun σ H Q ⟨fr, ms, ρ, st, w, g⟩ =>
  ⟨fr, ms, ρ, st, w, g.bind.mono fun c st1 fr1 H1 ms1 _ _ ⟨e1, s1, g1⟩ => by
    cases c with
    | true => dsimp only [PT']; rw [if_pos rfl]; exact ⟨fr1, ms1, ρ, st1, w.on e1 s1, g1⟩
    | false => dsimp only [PT']; rw [if_neg Bool.false_ne_true]; exact ⟨fr1, ms1, ρ, st1, w.on e1 s1, g1⟩⟩
end
/-! ### arguments, displays -/
def aNil : FA := fun _ st => .ok [] st
def aCons (ta : FE) (tr : FA) : FA := fun ρ st => (ta ρ st).bind fun x st1 => (tr ρ st1).bind fun xs st2 => .ok (x :: xs) st2
def eTup (ta : FA) : FE := fun ρ st => (ta ρ st).bind fun xs st1 => bif Nat.ble xs.length sizeLine then .ok (.tup xs) st1 else .bad
def eLst (c : Bool) (ta : FA) : FE := fun ρ st => (ta ρ st).bind fun xs st1 => bif Nat.ble xs.length sizeLine then .ok (newL c xs st1).1 (newL c xs st1).2 else .bad
theorem G.cond {K : KZ} {W : WX} {σ : L2.St} {fr : Addr → Prop} {H : Hp} {ms : List Addr} {α : Type} {b : Bool} {r : R α} {P : α → (Addr → Prop) → Hp → List Addr → Store → Prop} (g : G K W σ fr H ms (bif b then r else .bad) P) : b = true ∧ G K W σ fr H ms r P := by
  cases b with
  | true => exact ⟨rfl, g⟩
  | false => exact g.elim
section
variable {X : Cx} {Z : KS} {W : WZ Z} {pos : Pos} {e : Expr} {es : List Expr} {te : FE} {t : FA}
theorem a_nil : DA X W [] aNil := pa_imp pa_nil fun σ H Q ⟨fr, ms, ρ, st, w, g⟩ => g.now w.sr [] .nil
theorem a_cons (ha : DE X W e te) (hr : DA X W es t) (hs : starEach (e :: es) X.env = (false, eval e X.env) :: starEach es X.env := by rfl) : DA X W (e :: es) (aCons te t) := pa_imp (pa_cons ha hr hs) fun σ H Q ⟨fr, ms, ρ, st, w, g⟩ =>
  ⟨fr, ms, ρ, st, w, g.bind.mono fun x st1 fr1 H1 ms1 _ _ ⟨e1, s1, g1⟩ v rv => ⟨fr1, ms1, ρ, st1, w.on e1 s1, g1.bind.mono fun xs st2 fr2 H2 ms2 _ _ ⟨e2, s2, g2⟩ vs rs => g2.now s2 _ (.cons (rv.ex s1 e2) rs)⟩⟩
theorem d_tup {x1} (h : DA X W es t) : DE X W (.Tuple es x1 pos) (eTup t) := pe_imp (pe_tup h) fun σ H Q ⟨fr, ms, ρ, st, w, g⟩ =>
  ⟨fr, ms, ρ, st, w, g.bind.mono fun xs st1 fr1 H1 ms1 _ _ ⟨e1, s1, g1⟩ vs rs => by
    obtain ⟨hb, g2⟩ := g1.cond
    exact ⟨by rw [rs.length]; exact Nat.le_of_ble_eq_true hb, fun p n => (QV.of g2).tup s1 rs n⟩⟩
theorem d_lst (c : Bool) (h : DA X W es t) : DE X W (.List es pos) (eLst c t) := pe_imp (pe_lst h) fun σ H Q ⟨fr, ms, ρ, st, w, g⟩ =>
  ⟨fr, ms, ρ, st, w, g.bind.mono fun xs st1 fr1 H1 ms1 _ _ ⟨e1, s1, g1⟩ vs rs => by
    obtain ⟨hb, g2⟩ := g1.cond
    exact ⟨by rw [rs.length]; exact Nat.le_of_ble_eq_true hb, fun p n => (QV.of g2).newl s1 rs n⟩⟩
end
end FL
namespace FL
open PySem PySem.Spec PyProof.Rows L2
/-! ### statements -/
def sNext : FS := fun ρ st => .nx ρ st
def sBrk : FS := fun ρ st => .bk ρ st
def sCnt : FS := fun ρ st => .ct ρ st
def sSeq (t u : FS) : FS := fun ρ st => (t ρ st).then u
def sDrop (te : FE) : FS := fun ρ st => (te ρ st).to ρ fun _ st1 => .nx ρ st1
def sRet (te : FE) : FS := fun ρ st => (te ρ st).to ρ fun x st1 => .rt x st1
def sRetN : FS := fun _ st => .rt .non st
def sIf (c : FT) (t u : FS) : FS := fun ρ st => (c ρ st).to ρ fun b st1 => bif b then t ρ st1 else u ρ st1
def sNever : FS := fun _ _ => .bad
section
variable {X : Cx} {Z : KS} {W : WZ Z} {s : Stmt} {rest a b : List Stmt} {t u : FS} {e c : Expr} {te : FE} {tc : FT} {pos : Pos}
theorem ss_nil : DSs X W [] sNext := pss_imp pss_nil fun D σ H ⟨fr, ms, ρ, st, w, g⟩ => g.nx w
theorem le_seq {K : KZ} {D : Ends} {σ : L2.St} {H : Hp} : LS K W (sSeq t u) D σ H → tSeq (LS K W t) (LS K W u) D σ H := fun ⟨fr, ms, ρ, st, w, g⟩ => ⟨fr, ms, ρ, st, w, g.then⟩
theorem ss_cons (h1 : DS X W s t) (h2 : DSs X W rest u) : DSs X W (s :: rest) (sSeq t u) := pss_imp (pss_cons h1 h2) fun _ _ _ => le_seq
theorem ss_one (h : DS X W s t) : DSs X W [s] t := pss_one h
theorem s_pass : DS X W (.Pass pos) sNext := ps_imp ps_pass fun D σ H ⟨fr, ms, ρ, st, w, g⟩ => g.nx w
theorem s_brk : DS X W (.Break pos) sBrk := ps_imp ps_break fun D σ H ⟨fr, ms, ρ, st, w, g⟩ => g.bk w
theorem s_cnt : DS X W (.Continue pos) sCnt := ps_imp ps_continue fun D σ H ⟨fr, ms, ρ, st, w, g⟩ => g.ct w
theorem s_doc {x j p} : DS X W (.Expr (.Constant (.str x) j p) pos) sNext := ps_imp ps_doc fun D σ H ⟨fr, ms, ρ, st, w, g⟩ => g.nx w
theorem s_drop (he : DE X W e te) (hs : swapsWith e none pos.line X.env = pure false := by rfl) : DS X W (.Expr e pos) (sDrop te) := ps_imp (ps_expr he hs) fun D σ H ⟨fr, ms, ρ, st, w, g⟩ =>
  ⟨fr, ms, ρ, st, w, (g.to w).mono fun x st1 fr1 H1 ms1 _ _ ⟨e1, s1, w1, g1⟩ v rv => g1.nx w1⟩
theorem s_ret (he : DE X W e te) : DS X W (.Return (some e) pos) (sRet te) := ps_imp (ps_ret he) fun D σ H ⟨fr, ms, ρ, st, w, g⟩ =>
  ⟨fr, ms, ρ, st, w, (g.to w).mono fun x st1 fr1 H1 ms1 _ _ ⟨e1, s1, w1, g1⟩ v rv => g1.rt s1 rv⟩
theorem s_retN : DS X W (.Return none pos) sRetN := ps_imp ps_retN fun D σ H ⟨fr, ms, ρ, st, w, g⟩ => g.rt w.sr .non
theorem s_if (hc : DT X W c tc) (ha : DSs X W a t) (hb : DSs X W b u) : DS X W (.If c a b pos) (sIf tc t u) := ps_imp (ps_if hc ha hb) fun D σ H ⟨fr, ms, ρ, st, w, g⟩ =>
  ⟨fr, ms, ρ, st, w, (g.to w).mono fun d st1 fr1 H1 ms1 _ _ ⟨e1, s1, w1, g1⟩ => by
    dsimp only [PT']
    cases d with
    | true => rw [if_pos rfl]; exact ⟨fr1, ms1, ρ, st1, w1, g1⟩
    | false => rw [if_neg Bool.false_ne_true]; exact ⟨fr1, ms1, ρ, st1, w1, g1⟩⟩
theorem s_never : DS X W s sNever := ps_imp ps_never fun D σ H ⟨fr, ms, ρ, st, w, g⟩ => g.elim
theorem ss_never : DSs X W rest sNever := pss_imp pss_never fun D σ H ⟨fr, ms, ρ, st, w, g⟩ => g.elim
end
/-! ### targets -/
abbrev FG := Val → Env → Store → Option (Env × Store)
abbrev FGs := List Val → Env → Store → Option (Env × Store)
def LG (K : KZ) {Z : KS} (W : WZ Z) (vs : List Nat) (t : FG) : TG := fun v σ H Q => ∃ fr ms ρ st x ρ' st', Wd (K.to W σ) fr H ms σ ρ st ∧ VR (K.to W σ) fr H ms v x ∧ t x ρ st = some (ρ', st') ∧
  ∀ fr' H' ms' σ', Ext ms.length fr H ms fr' H' ms' → gamOf W σ' = gamOf W σ → Wd (K.to W σ) fr' H' ms' σ' ρ' st' → wipe σ' vs = wipe σ vs → Q σ' H'
def LGs (K : KZ) {Z : KS} (W : WZ Z) (vs : List Nat) (t : FGs) : TGs := fun v σ H Q => ∃ fr ms ρ st x ρ' st', Wd (K.to W σ) fr H ms σ ρ st ∧ VRs (K.to W σ) fr H ms v x ∧ t x ρ st = some (ρ', st') ∧
  ∀ fr' H' ms' σ', Ext ms.length fr H ms fr' H' ms' → gamOf W σ' = gamOf W σ → Wd (K.to W σ) fr' H' ms' σ' ρ' st' → wipe σ' vs = wipe σ vs → Q σ' H'
abbrev DG (X : Cx) {Z : KS} (W : WZ Z) (vs : List Nat) (e : Expr) (t : FG) : Prop := PG X e (LG (kx X Z) W vs t)
abbrev DGs (X : Cx) {Z : KS} (W : WZ Z) (vs : List Nat) (e : List Expr) (t : FGs) : Prop := PGs X e (LGs (kx X Z) W vs t)
theorem pg_imp {X : Cx} {e : Expr} {t t' : TG} (h : PG X e t) (i : ∀ v σ H Q, t' v σ H Q → t v σ H Q) : PG X e t' := ⟨fun pins s σ H v u Q I r q => h.run pins s σ H v u Q I r (i _ _ _ _ q)⟩
theorem pgs_imp {X : Cx} {e : List Expr} {t t' : TGs} (h : PGs X e t) (i : ∀ v σ H Q, t' v σ H Q → t v σ H Q) : PGs X e t' := ⟨fun pins s σ H v u Q I r q => h.run pins s σ H v u Q I r (i _ _ _ _ q)⟩
def gN (i : Nat) : FG := fun x ρ st => some (ρ.set i (some x), st)
def gNil : FGs := fun xs ρ st => match xs with
  | [] => some (ρ, st)
  | _ => none
def gCons (t : FG) (u : FGs) : FGs := fun xs ρ st => match xs with
  | x :: r => (match t x ρ st with
    | some (ρ1, st1) => u r ρ1 st1
    | none => none)
  | [] => none
def gTup (n : Nat) (t : FGs) : FG := fun x ρ st => match x with
  | .tup xs => bif xs.length == n then t xs ρ st else none
  | _ => none
theorem wipe_mem {v : Option V} {i : Nat} : ∀ {vs : List Nat} {σ : L2.St}, i ∈ vs → wipe (σ.set i v) vs = wipe σ vs
  | [], _, h => by cases h
  | j :: r, σ, h => by
    unfold wipe
    by_cases e : i ∈ r
    · rw [wipe_mem e]
    · have hj : i = j := (List.mem_cons.mp h).elim id fun z => absurd z e
      subst hj
      apply List.ext_getElem?
      intro m
      by_cases hm : i = m
      · subst hm
        have hl : (wipe (σ.set i v) r).length = (wipe σ r).length := by rw [wipe_length, wipe_length, List.length_set]
        by_cases hb : i < (wipe σ r).length
        · rw [List.getElem?_set_self (by rw [hl]; exact hb), List.getElem?_set_self hb]
        · rw [List.getElem?_eq_none (by rw [List.length_set, hl]; omega), List.getElem?_eq_none (by rw [List.length_set]; omega)]
      · rw [List.getElem?_set_ne hm, List.getElem?_set_ne hm]
        by_cases hr : m ∈ r
        · have hn : ∀ (τ : L2.St), (wipe τ r)[m]? = if m < τ.length then some none else none := by
            intro τ
            clear hm e h
            induction r with
            | nil => cases hr
            | cons a r ih =>
              unfold wipe
              by_cases ha : a = m
              · subst ha
                by_cases hb : a < τ.length
                · rw [List.getElem?_set_self (by rw [wipe_length]; exact hb), if_pos hb]
                · rw [List.getElem?_eq_none (by rw [List.length_set, wipe_length]; omega), if_neg hb]
              · rw [List.getElem?_set_ne ha]
                exact ih ((List.mem_cons.mp hr).elim (fun z => absurd z.symm ha) id)
          rw [hn, hn, List.length_set]
        · rw [wipe_out hr, wipe_out hr, List.getElem?_set_ne hm]
theorem vr_tup {K : KZ} {fr : Addr → Prop} {H : Hp} {ms : List Addr} {v : V} {xs : List Val} (h : VR K fr H ms v (.tup xs)) : ∃ a ws, v = .ref a ∧ SqT K H a ws ∧ VRs K fr H ms ws xs := by
  cases h with
  | tup h r => exact ⟨_, _, rfl, h, r⟩
section
variable {X : Cx} {Z : KS} {W : WZ Z} {pos : Pos} {e : Expr} {es : List Expr} {t : FG} {u : FGs} {vs : List Nat}
theorem g_name (i : Nat) {x : Str} (hN : X.N.Nodup) (hi : X.N[i]? = some x := by rfl) (hx : Loc X.env.scope x := by first | exact Or.inl rfl | exact Or.inr rfl) (hm : i ∈ vs := by decide) (hcs : i ∉ W.cs := by exact not_cs (by assumption) (by decide)) (hf : X.fn x = true ∨ X.env.scope.names.lookup x = some .local := by first | exact .inl rfl | exact .inr rfl) :
    DG X W vs (.Name x pos) (gN i) := pg_imp (pg_name hN hi hx hf) fun v σ H Q ⟨fr, ms, ρ, st, x, ρ', st', w, r, h, q⟩ => by
  cases h
  exact q _ _ _ _ (Ext.refl _ _ _ _) (gamOf_put hcs) (w.put r i) (wipe_mem hm)
theorem g_nil : DGs X W vs [] gNil := pgs_imp pgs_nil fun v σ H Q ⟨fr, ms, ρ, st, x, ρ', st', w, r, h, q⟩ => by
  cases r with
  | nil =>
    cases h
    exact ⟨rfl, q _ _ _ _ (Ext.refl _ _ _ _) rfl w rfl⟩
  | cons _ _ => cases h
theorem g_cons (h1 : DG X W vs e t) (h2 : DGs X W vs es u) (hs : (assignEach (e :: es) X.env).map (·.2) = assign e X.env :: (assignEach es X.env).map (·.2) := by rfl) : DGs X W vs (e :: es) (gCons t u) :=
  pgs_imp (pgs_cons h1 h2 hs) fun v σ H Q ⟨fr, ms, ρ, st, x, ρ', st', w, r, h, q⟩ => by
    cases r with
    | nil => cases h
    | cons r rr =>
      unfold gCons at h
      dsimp only at h
      split at h
      · next ρ1 st1 h1 =>
        refine ⟨_, _, rfl, fr, ms, ρ, st, _, ρ1, st1, w, r, h1, fun fr1 H1 ms1 σ1 e1 m1 w1 c1 => ?_⟩
        refine ⟨fr1, ms1, ρ1, st1, _, ρ', st', by rw [KZ.to_to m1]; exact w1, by rw [KZ.to_to m1]; exact rr.ex w.sr e1, h, fun fr2 H2 ms2 σ2 e2 m2 w2 c2 => ?_⟩
        rw [KZ.to_to m1] at w2
        exact q _ _ _ _ (e1.then e2) (m2.trans m1) w2 (c2.trans c1)
      · cases h
theorem g_tup {k : Nat} {n : Nat} (hc : X.calm = true) (h : DGs X W vs es u) (hn : (assignEach es X.env).length = n := by rfl) (hst : (assignEach es X.env).findIdx? (·.1) = none := by rfl) : DG X W vs (.Tuple es k pos) (gTup n u) :=
  pg_imp (pg_tup hc h hn hst) fun v σ H Q ⟨fr, ms, ρ, st, x, ρ', st', w, r, h, q⟩ => by
    unfold gTup at h
    split at h
    · next xs =>
      obtain ⟨a, ws, rfl, hs, hr⟩ := vr_tup r
      cases e : (xs.length == n) with
      | true =>
        rw [e] at h
        exact ⟨_, _, rfl, hs, by rw [hr.length]; exact of_decide_eq_true (by simpa using e), fr, ms, ρ, st, _, ρ', st', w, hr, h, q⟩
      | false =>
        rw [e] at h
        cases h
    · cases h
end
def sAsg (te : FE) (g : FG) : FS := fun ρ st => (te ρ st).to ρ fun x st1 => match g x ρ st1 with
  | some (ρ', st') => .nx ρ' st'
  | none => .bad
theorem le_asg {K : KZ} {Z : KS} {W : WZ Z} {te : FE} {g : FG} {vs : List Nat} {D : Ends} {σ : L2.St} {H : Hp} : LS K W (sAsg te g) D σ H → tAsg (LE K W te) (LG K W vs g) D σ H := fun ⟨fr, ms, ρ, st, w, g0⟩ =>
  ⟨fr, ms, ρ, st, w, (g0.to w).mono fun x st1 fr1 H1 ms1 _ _ ⟨e1, s1, w1, g1⟩ v rv => by
    cases h : g x ρ st1 with
    | none =>
      rw [h] at g1
      exact g1.elim
    | some p =>
      rw [h] at g1
      exact ⟨fr1, ms1, ρ, st1, x, p.1, p.2, w1, rv, h, fun fr2 H2 ms2 σ2 e2 m2 w2 _ => g1 _ _ _ _ e2 m2 w2⟩⟩
section
variable {X : Cx} {Z : KS} {W : WZ Z} {pos pos' : Pos} {e tg : Expr} {te : FE} {g : FG} {vs : List Nat}
theorem s_asg (he : DE X W e te) (hg : DG X W vs tg g) (hs : swapsWithSole [tg] e pos.line X.env = pure false := by rfl) (hw : swappedStores [tg] e X.env = pure none := by rfl)
    (h1 : (assignEach [tg] X.env).map (·.2) = [assign tg X.env] := by rfl) : DS X W (.Assign [tg] e pos) (sAsg te g) := ps_imp (ps_asg he hg hs hw h1) fun _ _ _ => le_asg
def sSet (i : Nat) (te : FE) : FS := fun ρ st => (te ρ st).to ρ fun x st1 => .nx (ρ.set i (some x)) st1
theorem s_set (i : Nat) {x : Str} (hN : X.N.Nodup) (he : DE X W e te) (hi : X.N[i]? = some x := by rfl) (hx : Loc X.env.scope x := by first | exact Or.inl rfl | exact Or.inr rfl) (hs : swapsWith e (some (.Name x pos')) pos.line X.env = pure false := by rfl) (hcs : i ∉ W.cs := by exact not_cs (by assumption) (by decide))
    (hf : X.fn x = true ∨ X.env.scope.names.lookup x = some .local := by first | exact .inl rfl | exact .inr rfl) : DS X W (.Assign [.Name x pos'] e pos) (sSet i te) := ps_imp (ps_set hN hi hx he hs hf) fun D σ H ⟨fr, ms, ρ, st, w, g⟩ =>
  ⟨fr, ms, ρ, st, w, (g.to w).mono fun x st1 fr1 H1 ms1 _ _ ⟨e1, s1, w1, g1⟩ v rv => g1.nx (w1.put rv i) (gamOf_put hcs)⟩
end
/-- a, b = x, y with local names -/
def sPar (i j : Nat) (ta : FA) : FS := fun ρ st => (ta ρ st).to ρ fun xs st1 => match xs with
  | [x, y] => .nx ((ρ.set i (some x)).set j (some y)) st1
  | _ => .bad
theorem vrs2 {K : KZ} {fr : Addr → Prop} {H : Hp} {ms : List Addr} {vs : List V} {x y : Val} (h : VRs K fr H ms vs [x, y]) : ∃ v u, vs = [v, u] ∧ VR K fr H ms v x ∧ VR K fr H ms u y := by
  cases h with
  | cons a b =>
    cases b with
    | cons b c =>
      cases c
      exact ⟨_, _, rfl, a, b⟩
theorem vrs1 {K : KZ} {fr : Addr → Prop} {H : Hp} {ms : List Addr} {vs : List V} {x : Val} (h : VRs K fr H ms vs [x]) : ∃ v, vs = [v] ∧ VR K fr H ms v x := by
  cases h with
  | cons a b =>
    cases b
    exact ⟨_, rfl, a⟩
theorem le_par {K : KZ} {Z : KS} {W : WZ Z} {i j : Nat} {ta : FA} {D : Ends} {σ : L2.St} {H : Hp} (hi : i ∉ W.cs) (hj : j ∉ W.cs) : LS K W (sPar i j ta) D σ H → tPar i j (LA K W ta) D σ H := fun ⟨fr, ms, ρ, st, w, g⟩ =>
  ⟨fr, ms, ρ, st, w, (g.to w).mono fun xs st1 fr1 H1 ms1 _ _ ⟨e1, s1, w1, g1⟩ vs rs => by
    split at g1
    · obtain ⟨v, u, rfl, r1, r2⟩ := vrs2 rs
      exact ⟨_, _, rfl, g1.nx ((w1.put r1 i).put r2 j) ((gamOf_put hj).trans (gamOf_put hi))⟩
    · exact g1.elim⟩
/-! ### names that are no more looked at -/
def wipeF (ρ : Env) : List Nat → Env
  | [] => ρ
  | v :: vs => (wipeF ρ vs).set v none
theorem Wd.forget {K : KZ} {fr : Addr → Prop} {H : Hp} {ms : List Addr} {σ : L2.St} {ρ : Env} {st : Store} (w : Wd K fr H ms σ ρ st) : ∀ vs : List Nat, Wd K fr H ms σ (wipeF ρ vs) st
  | [] => w
  | v :: vs => by
    have ih := w.forget vs
    refine ⟨by show ((wipeF ρ vs).set v none).length = _; rw [List.length_set, ih.len], fun i x h => ?_, w.sr⟩
    have h' : ((wipeF ρ vs).set v none)[i]? = some (some x) := h
    by_cases e : v = i
    · subst e
      by_cases hl : v < (wipeF ρ vs).length
      · rw [List.getElem?_set_self hl] at h'
        cases h'
      · rw [List.getElem?_eq_none (by rw [List.length_set]; omega)] at h'
        cases h'
    · rw [List.getElem?_set_ne e] at h'
      exact ih.env i x h'
def S.wiped (r : S) (vs : List Nat) : S := match r with
  | .nx ρ st => .nx (wipeF ρ vs) st
  | .bk ρ st => .bk (wipeF ρ vs) st
  | .ct ρ st => .ct (wipeF ρ vs) st
  | r => r
def sWipe (vs : List Nat) (t : FS) : FS := fun ρ st => (t ρ st).wiped vs
theorem GS.unwipe {K : KZ} {Z : KS} {W : WZ Z} {fr : Addr → Prop} {H : Hp} {ms : List Addr} {r : S} {vs : List Nat} {D : Ends} (g : GS K W fr H ms (r.wiped vs) D) : GS K W fr H ms r D := by
  cases r with
  | nx ρ st => exact fun fr' H' ms' σ' e' m w => g _ _ _ _ e' m (w.forget vs)
  | bk ρ st => exact fun fr' H' ms' σ' e' m w => g _ _ _ _ e' m (w.forget vs)
  | ct ρ st => exact fun fr' H' ms' σ' e' m w => g _ _ _ _ e' m (w.forget vs)
  | rt x st => exact g
  | ex x ρ st => exact g
  | bad => exact g
theorem ss_wipe {X : Cx} {Z : KS} {W : WZ Z} {s : List Stmt} {t : FS} (vs : List Nat) (h : DSs X W s t) : DSs X W s (sWipe vs t) := pss_imp h fun D σ H ⟨fr, ms, ρ, st, w, g⟩ => ⟨fr, ms, ρ, st, w, g.unwipe⟩
theorem s_wipe {X : Cx} {Z : KS} {W : WZ Z} {s : Stmt} {t : FS} (vs : List Nat) (h : DS X W s t) : DS X W s (sWipe vs t) := ps_imp h fun D σ H ⟨fr, ms, ρ, st, w, g⟩ => ⟨fr, ms, ρ, st, w, g.unwipe⟩
/-! ### while -/
def bigN : Nat := 1000000
/-- what a loop goes on with behind a turn -/
def S.turn (r : S) (f : Env → Store → S) : S := match r with
  | .nx ρ st => f ρ st
  | .ct ρ st => f ρ st
  | .bk ρ st => .nx ρ st
  | .rt x st => .rt x st
  | .ex x ρ st => .ex x ρ st
  | .bad => .bad
def wl (c : FT) (b : FS) : Nat → Env → Store → S
  | 0, _, _ => .bad
  | m + 1, ρ, st => (c ρ st).to ρ fun t st1 => bif t then (b ρ st1).turn (wl c b m) else .nx ρ st1
def sWhile (vz : List Nat) (c : FT) (b : FS) : FS := fun ρ st => wl c b bigN (wipeF ρ vz) st
theorem GS.turn {K : KZ} {Z : KS} {W : WZ Z} {fr : Addr → Prop} {H : Hp} {ms : List Addr} {r : S} {f : Env → Store → S} {D : Ends} (g : GS K W fr H ms (r.turn f) D) (N : L2.St → Hp → Prop)
    (hN : ∀ σ' H' fr' ms' ρ' st', Ext ms.length fr H ms fr' H' ms' → gamOf W σ' = K.gam → Wd K fr' H' ms' σ' ρ' st' → GS K W fr' H' ms' (f ρ' st') D → N σ' H') : GS K W fr H ms r { D with nx := N, ct := N, bk := D.nx } := by
  cases r with
  | nx ρ st => exact fun fr' H' ms' σ' e' m w => hN _ _ _ _ _ _ e' m w (GS.at g e')
  | rt x st => exact g
  | bk ρ st => exact fun fr' H' ms' σ' e' m w => g _ _ _ _ e' m w
  | ct ρ st => exact fun fr' H' ms' σ' e' m w => hN _ _ _ _ _ _ e' m w (GS.at g e')
  | ex x ρ st => exact g
  | bad => exact g
theorem s_while (vz : List Nat) {X : Cx} {Z : KS} {W : WZ Z} {c : Expr} {body : List Stmt} {tc : FT} {tb : FS} {pos : Pos} (hp : PassesOwn (model X.prog X.w) X.A X.env X.xe) (hc : DT X W c tc) (hb : DSs X W body tb) : DS X W (.While c body [] pos) (sWhile vz tc tb) :=
  ps_imp (ps_while hp hc hb) fun D σ H ⟨fr, ms, ρ, st, w, g⟩ => by
    refine ⟨fun m σ' H' => ∃ fr' ms' ρ' st', gamOf W σ' = gamOf W σ ∧ Wd ((kx X Z).to W σ) fr' H' ms' σ' ρ' st' ∧ GS ((kx X Z).to W σ) W fr' H' ms' (wl tc tb m ρ' st') D, ⟨bigN, fr, ms, _, st, rfl, w.forget vz, g⟩, fun m σ' H' ⟨fr1, ms1, ρ1, st1, m1, w1, g1⟩ => ?_⟩
    cases m with
    | zero => exact g1.elim
    | succ m =>
      rw [← KZ.to_to (K := kx X Z) m1] at w1 g1
      refine ⟨fr1, ms1, ρ1, st1, w1, (g1.to w1).mono fun b st2 fr2 H2 ms2 _ _ ⟨e2, s2, w2, g2⟩ => ?_⟩
      dsimp only [PT']
      cases b with
      | true =>
        rw [if_pos rfl]
        refine ⟨fun σ3 H3 => ∃ m', m' < m + 1 ∧ ∃ fr' ms' ρ' st', gamOf W σ3 = gamOf W σ ∧ Wd ((kx X Z).to W σ) fr' H3 ms' σ3 ρ' st' ∧ GS ((kx X Z).to W σ) W fr' H3 ms' (wl tc tb m' ρ' st') D, fun σ3 H3 ⟨m', hm, z⟩ => ⟨m', hm, z⟩, ?_⟩
        refine ⟨fr2, ms2, ρ1, st2, w2, GS.turn g2 _ fun σ' H' fr' ms' ρ' st' e' m' w' g' => ?_⟩
        rw [KZ.to_to (K := kx X Z) m1] at w' g'
        exact ⟨m, Nat.lt_succ_self m, fr', ms', ρ', st', m'.trans m1, w', g'⟩
      | false =>
        rw [if_neg Bool.false_ne_true]
        exact g2.nx w2
/-! ### what is walked -/
/-- the items that a walked thing has, by the store -/
abbrev Its := Store → Option (List Val)
abbrev FI := Env → Store → R Its
/-- an iterator J whose turns are the items, as long as they are so -/
def ItOk (K : KZ) (fr0 : Addr → Prop) (H0 : Hp) (ms0 : List Addr) (J : It) (cur : Its) : Prop := ∀ i fr H ms st xs, Ext ms0.length fr0 H0 ms0 fr H ms → SR K fr H ms st → cur st = some xs →
  (∀ x, xs[i]? = some x → J.go i H ∧ ∀ v H', J.yld i H v H' → ∃ fr', Ext ms.length fr H ms fr' H' ms ∧ SR K fr' H' ms st ∧ VR K fr' H' ms v x) ∧ (xs.length ≤ i → J.stop i H)
def LI (K : KZ) {Z : KS} (W : WZ Z) (t : FI) : TI := fun σ H Q => ∃ fr ms ρ st, Wd (K.to W σ) fr H ms σ ρ st ∧ G (K.to W σ) W.w σ fr H ms (t ρ st) (fun cur fr' H' ms' _ => ∀ J, ItOk (K.to W σ) fr' H' ms' J cur → Q J H')
abbrev DI (X : Cx) {Z : KS} (W : WZ Z) (tg e : Expr) (t : FI) : Prop := PI X tg e (LI (kx X Z) W t)
theorem pi_imp {X : Cx} {tg e : Expr} {t t' : TI} (h : PI X tg e t) (i : ∀ σ H Q, t' σ H Q → t σ H Q) : PI X tg e t' := ⟨fun pins s σ H R I q => h.run pins s σ H R I (i _ _ _ q)⟩
/-- a for, item by item -/
def fl (cur : Its) (g : FG) (b : FS) : Nat → Nat → Env → Store → S
  | 0, _, _, _ => .bad
  | m + 1, i, ρ, st => match cur st with
    | none => .bad
    | some xs => match xs[i]? with
      | none => .nx ρ st
      | some x => match g x ρ st with
        | none => .bad
        | some (ρ1, st1) => (b ρ1 st1).turn (fl cur g b m (i + 1))
def sFor (vz : List Nat) (wi : FI) (g : FG) (b : FS) : FS := fun ρ st => (wi ρ st).to ρ fun cur st1 => fl cur g b bigN 0 (wipeF ρ vz) st1
theorem s_for (vz : List Nat) {X : Cx} {Z : KS} {W : WZ Z} {tg iter : Expr} {body : List Stmt} {wi : FI} {g : FG} {tb : FS} {vs : List Nat} {pos : Pos} (hp : PassesOwn (model X.prog X.w) X.A X.env X.xe) (hc : X.calm = true) (hi : DI X W tg iter wi) (hg : DG X W vs tg g) (hb : DSs X W body tb)
    (hs : ∀ x, foldedSetIterable iter X.env x = pure x := by intro _; rfl) : DS X W (.For tg iter body [] pos) (sFor vz wi g tb) :=
  ps_imp (ps_for hp hc hi hg hb hs) fun D σ H ⟨fr, ms, ρ, st, w, g0⟩ => by
    refine ⟨fr, ms, ρ, st, w, (g0.to w).mono fun cur st1 fr1 H1 ms1 _ _ ⟨e1, s1, w1, g1⟩ J ok => ?_⟩
    refine ⟨fun i m σ' H' => ∃ fr' ms' ρ' st', gamOf W σ' = gamOf W σ ∧ Ext ms1.length fr1 H1 ms1 fr' H' ms' ∧ Wd ((kx X Z).to W σ) fr' H' ms' σ' ρ' st' ∧ GS ((kx X Z).to W σ) W fr' H' ms' (fl cur g tb m i ρ' st') D, ⟨bigN, fr1, ms1, _, st1, rfl, Ext.refl _ _ _ _, w1.forget vz, g1⟩, fun i m σ2 H2 hw => ?_⟩
    obtain ⟨fr2, ms2, ρ2, st2, m2, e2, w2, g2⟩ := hw
    cases m with
    | zero => exact g2.elim
    | succ m =>
      unfold fl at g2
      cases hx : cur st2 with
      | none =>
        rw [hx] at g2
        exact g2.elim
      | some xs =>
        rw [hx] at g2
        dsimp only at g2
        cases hi : xs[i]? with
        | none =>
          rw [hi] at g2
          exact .inl ⟨(ok i fr2 H2 ms2 st2 xs e2 w2.sr hx).2 (List.getElem?_eq_none_iff.mp hi), g2.nx w2 m2⟩
        | some x =>
          rw [hi] at g2
          dsimp only at g2
          cases hg2 : g x ρ2 st2 with
          | none =>
            rw [hg2] at g2
            exact g2.elim
          | some p =>
            rw [hg2] at g2
            dsimp only at g2
            obtain ⟨go, hy⟩ := (ok i fr2 H2 ms2 st2 xs e2 w2.sr hx).1 _ hi
            refine .inr ⟨go, fun σ3 H3 => ∃ m', m' < m + 1 ∧ ∃ fr' ms' ρ' st', gamOf W σ3 = gamOf W σ ∧ Ext ms1.length fr1 H1 ms1 fr' H3 ms' ∧ Wd ((kx X Z).to W σ) fr' H3 ms' σ3 ρ' st' ∧ GS ((kx X Z).to W σ) W fr' H3 ms' (fl cur g tb m' (i + 1) ρ' st') D, fun σ3 H3 z => z, fun v H3 y3 => ?_⟩
            obtain ⟨fr3, e3, s3, r3⟩ := hy v H3 y3
            rw [← KZ.to_to (K := kx X Z) m2] at w2 r3 g2 s3
            refine ⟨fr3, ms2, ρ2, st2, x, p.1, p.2, w2.on e3 s3, r3, hg2, fun fr4 H4 ms4 σ4 e4 m4 w4 _ => ?_⟩
            have e24 := e3.then e4
            rw [← KZ.to_to (K := kx X Z) m4] at w4 g2
            refine ⟨fr4, ms4, p.1, p.2, w4, GS.turn (GS.at g2 e24) _ fun σ' H' fr' ms' ρ' st' e' m' w' g' => ?_⟩
            rw [KZ.to_to (K := kx X Z) (m4.trans m2)] at w' g'
            exact ⟨m, Nat.lt_succ_self m, fr', ms', ρ', st', m'.trans (m4.trans m2), (e2.then e24).then e', w', g'⟩
/-! ### comprehensions -/
theorem wipe_twice (σ : L2.St) (vs : List Nat) : wipe (wipe σ vs) vs = wipe σ vs := by
  have h : ∀ ws : List Nat, (∀ v ∈ ws, v ∈ vs) → wipe (wipe σ ws) vs = wipe σ vs := by
    intro ws
    induction ws with
    | nil => intro _; rfl
    | cons a r ih =>
      intro hs
      show wipe ((wipe σ r).set a none) vs = wipe σ vs
      rw [wipe_mem (hs a List.mem_cons_self)]
      exact ih fun v hv => hs v (List.mem_cons_of_mem _ hv)
  exact h vs fun _ z => z
theorem Wd.wipe {K : KZ} {fr : Addr → Prop} {H : Hp} {ms : List Addr} {σ : L2.St} {ρ : Env} {st : Store} (w : Wd K fr H ms σ ρ st) : ∀ vs : List Nat, Wd K fr H ms (wipe σ vs) (wipeF ρ vs) st
  | [] => w
  | v :: vs => by
    have ih := w.wipe vs
    refine ⟨by show ((wipeF ρ vs).set v none).length = ((L2.wipe σ vs).set v none).length; rw [List.length_set, List.length_set, ih.len], fun i x h => ?_, w.sr⟩
    have h' : ((wipeF ρ vs).set v none)[i]? = some (some x) := h
    by_cases e : v = i
    · subst e
      by_cases hl : v < (wipeF ρ vs).length
      · rw [List.getElem?_set_self hl] at h'
        cases h'
      · rw [List.getElem?_eq_none (by rw [List.length_set]; omega)] at h'
        cases h'
    · rw [List.getElem?_set_ne e] at h'
      obtain ⟨u, hu, r⟩ := ih.env i x h'
      exact ⟨u, by show ((L2.wipe σ vs).set v none)[i]? = some (some u); rw [List.getElem?_set_ne e]; exact hu, r⟩
def tYes : FT := fun _ st => .ok true st
abbrev DTs (X : Cx) {Z : KS} (W : WZ Z) (e : List Expr) (t : FT) : Prop := PTs X e (LT (kx X Z) W t)
theorem ts_nil {X : Cx} {Z : KS} {W : WZ Z} : DTs X W [] tYes := ⟨fun pins s σ H Q I ⟨fr, ms, ρ, st, w, g⟩ => pts_nil.run pins s σ H Q I (g.now w.sr)⟩
theorem ts_one {X : Cx} {Z : KS} {W : WZ Z} {c : Expr} {t : FT} (h : DT X W c t) : DTs X W [c] t := pts_one h
/-- an item of a comprehension: made, or left out; nothing is raised -/
def lc1 (g : FG) (tt : FT) (te : FE) (x : Val) (ρ : Env) (st : Store) : Option (Option Val × Store) := match g x ρ st with
  | none => none
  | some (ρ1, st1) => match tt ρ1 st1 with
    | .ok true st2 => (match te ρ1 st2 with
      | .ok y st3 => some (some y, st3)
      | _ => none)
    | .ok false st2 => some (none, st2)
    | _ => none
def lcl (cur : Its) (g : FG) (tt : FT) (te : FE) (ρ : Env) : Nat → Nat → List Val → Store → Option (List Val × Store)
  | 0, _, _, _ => none
  | m + 1, i, acc, st => match cur st with
    | none => none
    | some xs => match xs[i]? with
      | none => some (acc, st)
      | some x => match lc1 g tt te x ρ st with
        | none => none
        | some (none, st1) => lcl cur g tt te ρ m (i + 1) acc st1
        | some (some y, st1) => bif Nat.blt acc.length sizeLine then lcl cur g tt te ρ m (i + 1) (acc ++ [y]) st1 else none
def eLc (c : Bool) (wi : FI) (g : FG) (tt : FT) (te : FE) (vs : List Nat) : FE := fun ρ st => (wi ρ st).bind fun cur st1 => match lcl cur g tt te (wipeF ρ vs) bigN 0 [] st1 with
  | some (xs, st2) => .ok (newL c xs st2).1 (newL c xs st2).2
  | none => .bad
/-! ### an object that is made ahead, beside all else, and told of late -/
section
variable {K : KZ} {fr fr1 fr2 : Addr → Prop} {H H1 H2 : Hp} {ms ms1 ms2 : List Addr} {st : Store} {D : Addr} {o : HO}
/-- what may be made ahead -/
def late : HO → Prop
  | .lst _ => True
  | .dK _ => True
  | .dT _ => True
  | _ => False
theorem late.nt {o : HO} (h : late o) : notbl o := by cases o <;> first | trivial | exact h.elim
section
variable {u : HO} (hD : H D = some u) (hu : late u) (nf : ¬ fr D) (np : D ∉ ms)
include hD hu
theorem off_ne {a : Addr} {v : HO} (h : H a = some v) (hv : ¬ late v) : a ≠ D := fun z => by
  rw [z, hD] at h
  cases h
  exact hv hu
theorem off_sqt {a : Addr} {xs : List V} (h : SqT K H a xs) : SqT K (L2.upd H D o) a xs := by
  rcases h with (h | ⟨p, h⟩) | h
  · exact .inl (.inl ((upd_ne (off_ne hD hu h fun z => z)).trans h))
  · exact .inl (.inr ⟨p, (upd_ne (off_ne hD hu h fun z => z)).trans h⟩)
  · exact .inr h
theorem kn_off {cl : List (Str × Addr)} {fs : List Str} {vs : List V} (h : KnAll K H cl fs vs) : KnAll K (L2.upd H D o) cl fs vs :=
  ⟨h.len, fun i y v a b => let ⟨c, hc, hk⟩ := h.at_ i y v a b; ⟨c, hc, hk.elim .inl fun ⟨p, u, z, q⟩ => .inr ⟨p, u, (upd_ne (off_ne hD hu z fun z => z)).trans z, q⟩⟩, h.inj, h.sub⟩
theorem tabs_off {T : List NdefX.NTab} (t : NdefX.TabsN T H) : NdefX.TabsN T (L2.upd H D o) := tabs_put t fun u h => by
  rw [hD] at h
  cases h
  cases u <;> first | trivial | exact hu.elim
include nf
mutual
theorem VR.off' : ∀ {v : V} {x : Val}, VR K fr H ms v x → VR K fr (L2.upd H D o) ms v x
  | _, _, .non => .non
  | _, _, .bl b => .bl b
  | _, _, .int i => .int i
  | _, _, .str x => .str x
  | _, _, .tup h r => .tup (off_sqt hD hu h) (VRs.off' r)
  | _, _, .ro (a := a) h f r => .ro ((upd_ne fun z : a = D => nf (by rw [← z]; exact f)).trans h) f (VRs.off' r)
  | _, _, .wr (.inl ⟨p, h⟩) r => .wr (.inl ⟨p, (upd_ne (off_ne hD hu h fun z => z)).trans h⟩) (VRs.off' r)
  | _, _, .wr (.inr h) r => .wr (.inr h) (VRs.off' r)
  | _, _, .rd (a := a) h l f r => .rd ((upd_ne fun z : a = D => nf (by rw [← z]; exact f)).trans h) l f (VRs.off' r)
  | _, _, .ref h => .ref h
  | _, _, .ty n => .ty n
  | _, _, .gl a => .gl a
  | _, _, .ex0 h => .ex0 ((upd_ne (off_ne hD hu h fun z => z)).trans h)
  | _, _, .ex1 h d r => .ex1 ((upd_ne (off_ne hD hu h fun z => z)).trans h) ((upd_ne (off_ne hD hu d fun z => z)).trans d) (VR.off' r)
  | _, _, .fn h i c k r => .fn ((upd_ne (off_ne hD hu h fun z => z)).trans h) i ((upd_ne (off_ne hD hu c fun z => z)).trans c) (kn_off hD hu k) (VRs.off' r)
theorem VRs.off' : ∀ {v : List V} {x : List Val}, VRs K fr H ms v x → VRs K fr (L2.upd H D o) ms v x
  | _, _, .nil => .nil
  | _, _, .cons a b => .cons (VR.off' a) (VRs.off' b)
end
theorem VRk.off' {κ : Type} : ∀ {vs : List (κ × V)} {xs : List (κ × Val)}, VRk K fr H ms vs xs → VRk K fr (L2.upd H D o) ms vs xs
  | _, _, .nil => .nil
  | _, _, .cons a b => .cons (VR.off' hD hu nf a) (VRk.off' b)
include np
theorem SR.off' (s : SR K fr H ms st) : SR K fr (L2.upd H D o) ms st := by
  refine ⟨s.len, s.nd, fun i a c hm hc => ?_, s.nfr, fun a h => (by
    obtain ⟨u, e, ho⟩ := s.lo a h
    exact ⟨u, (upd_ne fun z => nf (by rw [← z]; exact h)).trans e, ho⟩), tabs_off hD hu s.tab⟩
  have ne : a ≠ D := fun z => np (z ▸ List.mem_of_getElem? hm)
  have q := s.cell i a c hm hc
  cases c with
  | lst xs => exact let ⟨ws, e, r⟩ := q; ⟨ws, (upd_ne ne).trans e, VRs.off' hD hu nf r⟩
  | dic xs => exact let ⟨ws, e, r⟩ := q; ⟨ws, (upd_ne ne).trans e, VRk.off' hD hu nf r⟩
  | dit xs => exact let ⟨ws, e, r⟩ := q; ⟨ws, (upd_ne ne).trans e, VRk.off' hD hu nf r⟩
  | ins C fs => exact let ⟨dx, ws, e, d, r⟩ := q; ⟨dx, ws, (upd_ne ne).trans e, (upd_ne (off_ne hD hu d fun z => z)).trans d, VRk.off' hD hu nf r⟩
theorem Wd.off' {σ : L2.St} {ρ : Env} (w : Wd K fr H ms σ ρ st) : Wd K fr (L2.upd H D o) ms σ ρ st :=
  ⟨w.len, fun i x h => let ⟨v, a, b⟩ := w.env i x h; ⟨v, a, VR.off' hD hu nf b⟩, SR.off' hD hu nf np w.sr⟩
end
theorem Ext.beside (e : Ext ms1.length fr1 H1 ms1 fr H ms) (n : H1 D = none) : Ext ms1.length fr1 H1 ms1 fr (L2.upd H D o) ms :=
  ⟨e.pre, fun a u h s t => (upd_ne fun z => by rw [z, n] at h; cases h).trans (e.keep a u h s t), fun a h => upd_there (e.there a h), e.tk, e.frk, e.frn⟩
/-- what is beside stays so -/
theorem Ext.aside {st : Store} (e : Ext ms.length fr H ms fr2 H2 ms2) (s : SR K fr H ms st) (hD : H D = some o) (ho : late o) (nf : ¬ fr D) (np : D ∉ ms) : H2 D = some o ∧ D ∉ ms2 ∧ ¬ fr2 D := by
  refine ⟨e.keep D o hD np ho.nt, fun z => ?_, fun z => ?_⟩
  · rcases e.tk D z with q | q
    · exact np q
    · rw [hD] at q
      cases q
  · rcases e.frn D z with q | q | q
    · exact nf q
    · rw [hD] at q
      cases q
    · exact np q
mutual
/-- more cells -/
theorem VR.more : ∀ {v : V} {x : Val}, VR K fr H ms v x → VR K fr H (ms ++ [D]) v x
  | _, _, .non => .non
  | _, _, .bl b => .bl b
  | _, _, .int i => .int i
  | _, _, .str x => .str x
  | _, _, .tup h r => .tup h (VRs.more r)
  | _, _, .ro h f r => .ro h f (VRs.more r)
  | _, _, .wr h r => .wr h (VRs.more r)
  | _, _, .rd h l f r => .rd h l f (VRs.more r)
  | _, _, .ref h => .ref (by rw [List.getElem?_append_left (List.getElem?_eq_some_iff.mp h).1]; exact h)
  | _, _, .ty n => .ty n
  | _, _, .gl a => .gl a
  | _, _, .ex0 h => .ex0 h
  | _, _, .ex1 h d r => .ex1 h d (VR.more r)
  | _, _, .fn h i c k r => .fn h i c k (VRs.more r)
theorem VRs.more : ∀ {v : List V} {x : List Val}, VRs K fr H ms v x → VRs K fr H (ms ++ [D]) v x
  | _, _, .nil => .nil
  | _, _, .cons a b => .cons (VR.more a) (VRs.more b)
end
theorem VRk.more {κ : Type} : ∀ {vs : List (κ × V)} {xs : List (κ × Val)}, VRk K fr H ms vs xs → VRk K fr H (ms ++ [D]) vs xs
  | _, _, .nil => .nil
  | _, _, .cons a b => .cons a.more (VRk.more b)
theorem CR.more {p : Addr} : ∀ {c : Cell}, CR K fr H ms p c → CR K fr H (ms ++ [D]) p c
  | .lst _, ⟨ws, a, b⟩ => ⟨ws, a, b.more⟩
  | .dic _, ⟨ws, a, b⟩ => ⟨ws, a, b.more⟩
  | .dit _, ⟨ws, a, b⟩ => ⟨ws, a, b.more⟩
  | .ins _ _, ⟨dx, ws, a, d, b⟩ => ⟨dx, ws, a, d, b.more⟩
mutual
/-- more is frozen -/
theorem VR.frz {P : Addr → Prop} : ∀ {v : V} {x : Val}, VR K fr H ms v x → VR K (fun b => fr b ∨ P b) H ms v x
  | _, _, .non => .non
  | _, _, .bl b => .bl b
  | _, _, .int i => .int i
  | _, _, .str x => .str x
  | _, _, .tup h r => .tup h (VRs.frz r)
  | _, _, .ro h f r => .ro h (.inl f) (VRs.frz r)
  | _, _, .wr h r => .wr h (VRs.frz r)
  | _, _, .rd h l f r => .rd h l (.inl f) (VRs.frz r)
  | _, _, .ref h => .ref h
  | _, _, .ty n => .ty n
  | _, _, .gl a => .gl a
  | _, _, .ex0 h => .ex0 h
  | _, _, .ex1 h d r => .ex1 h d (VR.frz r)
  | _, _, .fn h i c k r => .fn h i c k (VRs.frz r)
theorem VRs.frz {P : Addr → Prop} : ∀ {v : List V} {x : List Val}, VRs K fr H ms v x → VRs K (fun b => fr b ∨ P b) H ms v x
  | _, _, .nil => .nil
  | _, _, .cons a b => .cons (VR.frz a) (VRs.frz b)
end
theorem VRk.frz {κ : Type} {P : Addr → Prop} : ∀ {vs : List (κ × V)} {xs : List (κ × Val)}, VRk K fr H ms vs xs → VRk K (fun b => fr b ∨ P b) H ms vs xs
  | _, _, .nil => .nil
  | _, _, .cons a b => .cons a.frz (VRk.frz b)
theorem CR.frz {P : Addr → Prop} {p : Addr} : ∀ {c : Cell}, CR K fr H ms p c → CR K (fun b => fr b ∨ P b) H ms p c
  | .lst _, ⟨ws, a, b⟩ => ⟨ws, a, b.frz⟩
  | .dic _, ⟨ws, a, b⟩ => ⟨ws, a, b.frz⟩
  | .dit _, ⟨ws, a, b⟩ => ⟨ws, a, b.frz⟩
  | .ins _ _, ⟨dx, ws, a, d, b⟩ => ⟨dx, ws, a, d, b.frz⟩
theorem SR.frz (s : SR K fr H ms st) (hD : H D = some o) (np : D ∉ ms) (ho : OwnO o) : SR K (fun b => fr b ∨ b = D) H ms st :=
  ⟨s.len, s.nd, fun i a c hm hc => (s.cell i a c hm hc).frz, fun a h => fun z => z.elim (s.nfr a h) fun z => np (z ▸ h), fun a h => h.elim (s.lo a) fun z => ⟨o, by rw [z]; exact hD, ho⟩, s.tab⟩
/-- it becomes a cell -/
theorem SR.adopt {c : Cell} (s : SR K fr H ms st) (nf : ¬ fr D) (np : D ∉ ms) (r : CR K fr H (ms ++ [D]) D c) : SR K fr H (ms ++ [D]) (st ++ [c]) := by
  refine ⟨by rw [List.length_append, List.length_append, s.len]; rfl, ?_, fun i b d hb hd => ?_, fun b hb => ?_, s.lo, s.tab⟩
  · rw [List.nodup_append]
    exact ⟨s.nd, by simp, fun x hx y hy => by rw [List.mem_singleton.mp hy]; exact fun z => np (z ▸ hx)⟩
  · rcases getElem?_snoc hb with q | ⟨e1, rfl⟩
    · have hi := (List.getElem?_eq_some_iff.mp q).1
      rw [List.getElem?_append_left (by rw [← s.len]; exact hi)] at hd
      exact (s.cell i b d q hd).more
    · rw [e1, s.len, List.getElem?_append_right (Nat.le_refl _), Nat.sub_self] at hd
      cases hd
      exact r
  · rcases List.mem_append.mp hb with hb | hb
    · exact s.nfr b hb
    · rw [List.mem_singleton.mp hb]
      exact nf
/-- a list that was made ahead is told of: a cell, or frozen; seen from where it was made -/
theorem QV.late {c : Bool} {xs : List Val} {Q : VK} {vs : List V} (q : QV K fr1 H1 ms1 (newL c xs st).1 (newL c xs st).2 Q) (e : Ext ms1.length fr1 H1 ms1 fr H ms) (n : H1 D = none) (s : SR K fr H ms st) (r : VRs K fr H ms vs xs)
    (hD : H D = some (.lst vs)) (np : D ∉ ms) (nf : ¬ fr D) : Q (.ref D) H := by
  cases c with
  | true =>
    have ea : Ext ms1.length fr1 H1 ms1 fr H (ms ++ [D]) := ⟨by rw [List.take_append_of_le_length e.len]; exact e.pre, e.keep, e.there, fun a ha => by
      rcases List.mem_append.mp ha with ha | ha
      · exact e.tk a ha
      · rw [List.mem_singleton.mp ha]
        exact .inr n, e.frk, e.frn⟩
    refine q _ _ (ms ++ [D]) _ ea (s.adopt nf np ⟨vs, hD, r.more⟩) (.ref ?_)
    rw [List.getElem?_append_right (by rw [s.len]; exact Nat.le_refl _), s.len, Nat.sub_self]
    rfl
  | false =>
    exact q _ _ ms _ ⟨e.pre, e.keep, e.there, e.tk, fun a h => .inl (e.frk a h), fun a h => h.elim (e.frn a) fun z => .inr (.inl (z ▸ n))⟩ (s.frz hD np trivial) (.ro hD (.inr rfl) (VRs.frz r))
end
theorem le_lc {K : KZ} {Z : KS} {W : WZ Z} {c : Bool} {wi : FI} {g : FG} {tt : FT} {te : FE} {vs : List Nat} {σ : L2.St} {H : Hp} {Q : VK} (hcs : ∀ v ∈ vs, v ∉ W.cs) : LE K W (eLc c wi g tt te vs) σ H Q → tLc (LI K W wi) (LG K W.no vs g) (LT K W.no tt) (LE K W.no te) vs σ H Q := by
  rintro ⟨fr, ms, ρ, st, w, g0⟩
  refine ⟨fr, ms, ρ, st, w, g0.bind.mono fun cur st1 fr1 H1 ms1 _ _ ⟨e1, s1, g1⟩ J ok D nD => ?_⟩
  cases hl : lcl cur g tt te (wipeF ρ vs) bigN 0 [] st1 with
  | none =>
    rw [hl] at g1
    exact g1.elim
  | some pr =>
    obtain ⟨res, st9⟩ := pr
    rw [hl] at g1
    have q9 := QV.of g1
    have w1 := w.on e1 s1
    have nb1 : D ∉ ms1 := s1.no nD
    have nf1 : ¬ fr1 D := fun z => s1.low D z nD
    have hup : L2.upd H1 D (.lst []) D = some (.lst []) := upd_same
    refine ⟨fun i m H' => ∃ fr' ms' st' acc ws, Ext ms1.length fr1 H1 ms1 fr' H' ms' ∧ SR (K.to W σ) fr' H' ms' st' ∧ Wd (K.to W σ) fr' H' ms' σ ρ st' ∧ H' D = some (.lst ws) ∧ VRs (K.to W σ) fr' H' ms' ws acc ∧ D ∉ ms' ∧ ¬ fr' D ∧ lcl cur g tt te (wipeF ρ vs) m i acc st' = some (res, st9), ⟨bigN, fr1, ms1, st1, [], [], Ext.new _ nD, s1.new nD, w1.on (Ext.new _ nD) (s1.new nD), hup, .nil, nb1, nf1, hl⟩, fun i m H2 hw => ?_⟩
    obtain ⟨fr2, ms2, st2, acc, ws, e2, s2, w2, hD, ra, np, nf, hl2⟩ := hw
    cases m with
    | zero => cases hl2
    | succ m =>
      unfold lcl at hl2
      cases hx : cur st2 with
      | none =>
        rw [hx] at hl2
        cases hl2
      | some xs =>
        rw [hx] at hl2
        dsimp only at hl2
        cases hi : xs[i]? with
        | none =>
          rw [hi] at hl2
          have stop := (ok i fr2 H2 ms2 st2 xs e2 s2 hx).2 (List.getElem?_eq_none_iff.mp hi)
          cases hl2
          exact .inl ⟨stop, QV.late q9 e2 nD s2 ra hD np nf⟩
        | some x =>
          rw [hi] at hl2
          dsimp only at hl2
          obtain ⟨go, hy⟩ := (ok i fr2 H2 ms2 st2 xs e2 s2 hx).1 _ hi
          refine .inr ⟨go, fun H' => ∃ fr' ms' st' acc ws, Ext ms1.length fr1 H1 ms1 fr' H' ms' ∧ SR (K.to W σ) fr' H' ms' st' ∧ Wd (K.to W σ) fr' H' ms' σ ρ st' ∧ H' D = some (.lst ws) ∧ VRs (K.to W σ) fr' H' ms' ws acc ∧ D ∉ ms' ∧ ¬ fr' D ∧ lcl cur g tt te (wipeF ρ vs) m (i + 1) acc st' = some (res, st9), fun H' z => ⟨m, Nat.lt_succ_self m, z⟩, fun v H3 y3 => ?_⟩
          obtain ⟨fr3, e3, s3, r3⟩ := hy v H3 y3
          obtain ⟨hD3, np3, nf3⟩ := e3.aside s2 hD trivial nf np
          have ra3 := ra.ex s2 e3
          have e13 := e2.then e3
          have w3 := w2.on e3 s3
          unfold lc1 at hl2
          cases hg : g x (wipeF ρ vs) st2 with
          | none =>
            rw [hg] at hl2
            cases hl2
          | some p =>
            obtain ⟨ρ4, st4⟩ := p
            rw [hg] at hl2
            dsimp only at hl2
            have mW : gamOf W.no (wipe σ vs) = gamOf W σ := gamOf_wipe hcs
            refine ⟨fr3, ms2, wipeF ρ vs, st2, x, ρ4, st4, by rw [KZ.to_to (W := W.no) (σ := σ) mW]; exact w3.wipe vs, by rw [KZ.to_to (W := W.no) (σ := σ) mW]; exact r3, hg, fun fr4 H4 ms4 σ4 e4 m4 w4 c4 => ⟨c4.trans (wipe_twice σ vs), ?_⟩⟩
            rw [KZ.to_to (W := W.no) (σ := σ) mW] at w4
            have m5 : gamOf W.no σ4 = gamOf W.no σ := m4.trans mW
            rw [← KZ.to_to (K := K) m5] at w4
            refine ⟨fr4, ms4, ρ4, st4, w4, ?_⟩
            cases ht : tt ρ4 st4 with
            | bad =>
              rw [ht] at hl2
              cases hl2
            | exc z zs =>
              rw [ht] at hl2
              cases hl2
            | ok b st5 =>
              rw [ht] at hl2
              intro fr5 H5 ms5 e5 s5'
              have s5 : SR (K.to W σ) fr5 H5 ms5 st5 := by
                rw [KZ.to_to (K := K) m5] at s5'
                exact s5'
              have w5n := w4.on e5 s5'
              have e35 := e3.then (e4.then e5)
              obtain ⟨hD5, np5, nf5⟩ := e35.aside s2 hD trivial nf np
              have ra5 := ra.ex s2 e35
              dsimp only [PT']
              cases b with
              | false =>
                dsimp only at hl2
                rw [if_neg Bool.false_ne_true]
                exact ⟨fr5, ms5, st5, acc, ws, e2.then e35, s5, w2.on e35 s5, hD5, ra5, np5, nf5, hl2⟩
              | true =>
                dsimp only at hl2
                rw [if_pos rfl]
                refine ⟨fr5, ms5, ρ4, st5, w5n, ?_⟩
                cases hte : te ρ4 st5 with
                | bad =>
                  rw [hte] at hl2
                  cases hl2
                | exc z zs =>
                  rw [hte] at hl2
                  cases hl2
                | ok y st6 =>
                  rw [hte] at hl2
                  dsimp only at hl2
                  intro fr6 H6 ms6 e6 s6 v6 r6
                  rw [KZ.to_to (K := K) m5] at s6 r6
                  have e36 := e35.then e6
                  obtain ⟨hD6, np6, nf6⟩ := e36.aside s2 hD trivial nf np
                  have ra6 := ra.ex s2 e36
                  cases hb : Nat.blt acc.length sizeLine with
                  | false =>
                    rw [hb] at hl2
                    cases hl2
                  | true =>
                    rw [hb] at hl2
                    have hlt : acc.length < sizeLine := Nat.le_of_ble_eq_true hb
                    have up6 : L2.upd H6 D (.lst (ws ++ [v6])) D = some (.lst (ws ++ [v6])) := upd_same
                    refine ⟨ws, hD6, by rw [ra6.length]; exact hlt, fr6, ms6, st6, acc ++ [y], ws ++ [v6], (e2.then e36).beside nD, SR.off' hD6 trivial nf6 np6 s6, Wd.off' hD6 trivial nf6 np6 (w2.on e36 s6), up6, ?_, np6, nf6, hl2⟩
                    exact VRs.off' hD6 trivial nf6 (ra6.app (.cons r6 .nil))
section
variable {X : Cx} {Z : KS} {W : WZ Z} {elt tg iter : Expr} {ifs : List Expr} {scope : Scope} {pos : Pos} {wi : FI} {g : FG} {tt : FT} {te : FE}
theorem d_lc (c : Bool) (own : List (Str × Nat)) (hc : X.calm = true) (hN : X.N.Nodup) (hi : DI X W tg iter wi) (ok : BlkOk X.N X.env.scope scope own)
    (hg : ∀ (s : Shared) (H : Hp) (C : Addr) (cl : List (Str × Addr)) (fp : List Addr), DG (X.blk s H scope (compEnvC scope cl C X.env) fp) W.no (own.map (·.2)) tg g) (ht : ∀ (s : Shared) (H : Hp) (C : Addr) (cl : List (Str × Addr)) (fp : List Addr), DTs (X.blk s H scope (compEnvC scope cl C X.env) fp) W.no ifs tt)
    (he : ∀ (s : Shared) (H : Hp) (C : Addr) (cl : List (Str × Addr)) (fp : List Addr), DE (X.blk s H scope (compEnvC scope cl C X.env) fp) W.no elt te) (hs : ∀ x, foldedSetIterable iter X.env x = pure x := by intro _; rfl) (hcs : ∀ v ∈ own.map (·.2), v ∉ W.cs := by exact not_css (by assumption) (by decide)) :
    DE X W (.ListComp elt [⟨tg, iter, ifs, 0⟩] scope pos) (eLc c wi g tt te (own.map (·.2))) := pe_imp (pe_lc hc hN hi ok hg ht he hs) fun _ _ _ => le_lc hcs
theorem le_setLc {K : KZ} {c : Bool} {vs : List Nat} {i : Nat} {D : Ends} {σ : L2.St} {H : Hp} (hcs : ∀ v ∈ vs, v ∉ W.cs) (hi : i ∉ W.cs) : LS K W (sSet i (eLc c wi g tt te vs)) D σ H → tAsg (tLc (LI K W wi) (LG K W.no vs g) (LT K W.no tt) (LE K W.no te) vs) (gName i) D σ H := fun ⟨fr, ms, ρ, st, w, g0⟩ =>
  le_lc (W := W) hcs ⟨fr, ms, ρ, st, w, (g0.to w).mono fun x st1 fr1 H1 ms1 _ _ ⟨e1, s1, w1, g1⟩ v rv => g1.nx (w1.put rv i) (gamOf_put hi)⟩
end
end FL
namespace FL
open PySem PySem.Spec PyProof.Rows L2
/-! ### what is walked -/
def lstAt (st : Store) (p : Nat) : Option (List Val) := match st[p]? with
  | some (.lst xs) => some xs
  | _ => none
def dicAt (st : Store) (p : Nat) : Option (List (Key × Val)) := match st[p]? with
  | some (.dic es) => some es
  | _ => none
def ditAt (st : Store) (p : Nat) : Option (List (List Key × Val)) := match st[p]? with
  | some (.dit es) => some es
  | _ => none
/-- a list's or tuple's items -/
def seqOf (st : Store) : Val → Option (List Val)
  | .tup xs => some xs
  | .ro xs => some xs
  | .wr xs => some xs
  | .ref p => lstAt st p
  | _ => none
/-- a list's items -/
def lstOf (st : Store) : Val → Option (List Val)
  | .ro xs => some xs
  | .wr xs => some xs
  | .ref p => lstAt st p
  | _ => none
/-- .. of one that stands by itself -/
def plOf (st : Store) : Val → Option (List Val)
  | .ro xs => some xs
  | .ref p => lstAt st p
  | _ => none
section
variable {K : KZ} {fr : Addr → Prop} {H : Hp} {ms : List Addr} {st : Store}
theorem lstAt_eq {p : Nat} {xs : List Val} (h : lstAt st p = some xs) : st[p]? = some (.lst xs) := by
  unfold lstAt at h
  split at h
  · next q =>
    cases h
    exact q
  · cases h
theorem dicAt_eq {p : Nat} {xs : List (Key × Val)} (h : dicAt st p = some xs) : st[p]? = some (.dic xs) := by
  unfold dicAt at h
  split at h
  · next q =>
    cases h
    exact q
  · cases h
theorem ditAt_eq {p : Nat} {xs : List (List Key × Val)} (h : ditAt st p = some xs) : st[p]? = some (.dit xs) := by
  unfold ditAt at h
  split at h
  · next q =>
    cases h
    exact q
  · cases h
theorem vr_ref {v : V} {p : Nat} (h : VR K fr H ms v (.ref p)) : ∃ a, v = .ref a ∧ ms[p]? = some a := by
  cases h with
  | ref h => exact ⟨_, rfl, h⟩
theorem vr_ro {v : V} {xs : List Val} (h : VR K fr H ms v (.ro xs)) : ∃ a ws, v = .ref a ∧ H a = some (.lst ws) ∧ VRs K fr H ms ws xs := by
  cases h with
  | ro h f r => exact ⟨_, _, rfl, h, r⟩
theorem vr_wr {v : V} {xs : List Val} (h : VR K fr H ms v (.wr xs)) : ∃ a ws, v = .ref a ∧ RoA K H a ws ∧ VRs K fr H ms ws xs := by
  cases h with
  | wr h r => exact ⟨_, _, rfl, h, r⟩
theorem RoA.sql {a : Addr} {ws : List V} (h : RoA K H a ws) : SqL K H a ws := by
  rcases h with ⟨o, h⟩ | h
  · exact .inl (.inr ⟨o, h⟩)
  · exact .inr h
theorem pl_at {x : Val} {v : V} {xs : List Val} (s : SR K fr H ms st) (r : VR K fr H ms v x) (h : plOf st x = some xs) : ∃ a ws, v = .ref a ∧ H a = some (.lst ws) ∧ VRs K fr H ms ws xs := by
  unfold plOf at h
  split at h
  · cases h
    exact vr_ro r
  · obtain ⟨a, e, _, ws, hw, hr⟩ := s.at r (lstAt_eq h)
    exact ⟨a, ws, e, hw, hr⟩
  · cases h
theorem lst_at {x : Val} {v : V} {xs : List Val} (s : SR K fr H ms st) (r : VR K fr H ms v x) (h : lstOf st x = some xs) : ∃ a ws, v = .ref a ∧ SqL K H a ws ∧ VRs K fr H ms ws xs := by
  unfold lstOf at h
  split at h
  · cases h
    obtain ⟨a, ws, e, h1, h2⟩ := vr_ro r
    exact ⟨a, ws, e, .inl (.inl h1), h2⟩
  · cases h
    obtain ⟨a, ws, e, h1, h2⟩ := vr_wr r
    exact ⟨a, ws, e, h1.sql, h2⟩
  · obtain ⟨a, e, _, ws, hw, hr⟩ := s.at r (lstAt_eq h)
    exact ⟨a, ws, e, .inl (.inl hw), hr⟩
  · cases h
theorem seq_at {x : Val} {v : V} {xs : List Val} (s : SR K fr H ms st) (r : VR K fr H ms v x) (h : seqOf st x = some xs) : ∃ a ws, v = .ref a ∧ (SqL K H a ws ∨ SqT K H a ws) ∧ VRs K fr H ms ws xs := by
  unfold seqOf at h
  split at h
  · cases h
    obtain ⟨a, ws, e, h1, h2⟩ := vr_tup r
    exact ⟨a, ws, e, .inr h1, h2⟩
  · next xs' =>
    obtain ⟨a, ws, e, h1, h2⟩ := lst_at (x := .ro xs') s r h
    exact ⟨a, ws, e, .inl h1, h2⟩
  · next xs' =>
    obtain ⟨a, ws, e, h1, h2⟩ := lst_at (x := .wr xs') s r h
    exact ⟨a, ws, e, .inl h1, h2⟩
  · next p =>
    obtain ⟨a, ws, e, h1, h2⟩ := lst_at (x := .ref p) s r h
    exact ⟨a, ws, e, .inl h1, h2⟩
  · cases h
end
def iTSeq (K : PySem.W.Frag) (tl : TE) : TI := fun σ H R => tl σ H fun x H1 => ∃ a, x = .ref a ∧ (((∃ xs, SqL K H1 a xs) ∧ R (Itl K a) H1) ∨ ((∃ xs, SqT K H1 a xs) ∧ R (Itt K a) H1))
theorem pi_seq {X : Cx} {tg l : Expr} {tl : TE} (hl : PE X l tl) : PI X tg l (iTSeq X.K tl) := by
  constructor
  intro pins s σ H R I h
  refine thn (hl.run pins s σ H _ I h) fun v s1 h1 => ?_
  obtain ⟨x, H1, I1, r1, a, rfl, q⟩ := h1
  obtain rfl : v = Value.ref a := r1
  have fin : ∀ b ∈ [s1.heap.objs.size], FpOk X pins H1 b := fun b hb => by
    have e : b = s1.heap.objs.size := by simpa using hb
    rw [e]
    exact I1.fpOk (Nat.le_refl _) (I1.hok.fresh (Nat.le_refl _))
  rcases q with ⟨⟨xs, hq⟩, q⟩ | ⟨⟨xs, hq⟩, q⟩
  · obtain ⟨its, rv, p, hz⟩ := I1.list hq
    exact wpAny_pyIter_list p.isList ⟨_, _, _, _, H1, rfl, I1.kept (t' := s1.toks) fun _ _ e => Heap.get?_push_of_some _ e, turn_list a _, ⟨_, Heap.get?_push_size _ rfl, rfl, rfl⟩, fin, q⟩
  · obtain ⟨its, rv, p, hz⟩ := I1.tuple hq
    exact wpAny_pyIter_tuple p ⟨_, _, _, _, H1, rfl, I1.kept (t' := s1.toks) fun _ _ e => Heap.get?_push_of_some _ e, turn_tuple a _, ⟨_, Heap.get?_push_size _ rfl, rfl, rfl⟩, fin, q⟩
/-- what a value has as items, seen from here on -/
def curOf (st : Store) (x : Val) : Option Its := match x with
  | .ref p => (match lstAt st p with
    | some _ => some fun s => lstAt s p
    | none => none)
  | .tup xs => some fun _ => some xs
  | .ro xs => some fun _ => some xs
  | .wr xs => some fun _ => some xs
  | _ => none
def iSeq (te : FE) : FI := fun ρ st => (te ρ st).bind fun x st1 => match curOf st1 x with
  | some cur => .ok cur st1
  | none => .bad
theorem itl_ok {K : KZ} {fr : Addr → Prop} {H : Hp} {ms : List Addr} {a : Addr} {cur : Its}
    (h : ∀ fr' H' ms' st' xs, Ext ms.length fr H ms fr' H' ms' → SR K fr' H' ms' st' → cur st' = some xs → ∃ ws, SqL K H' a ws ∧ VRs K fr' H' ms' ws xs) : ItOk K fr H ms (Itl K a) cur := fun i fr1 H1 ms1 st1 xs e1 s1 y1 => by
  obtain ⟨ws, hq, hr⟩ := h fr1 H1 ms1 st1 xs e1 s1 y1
  refine ⟨fun x hx => ?_, fun hi => ⟨ws, hq, by rw [hr.length]; exact hi⟩⟩
  obtain ⟨v, hv, rv⟩ := hr.get hx
  refine ⟨⟨ws, v, hq, hv⟩, fun u H2 y2 => ?_⟩
  obtain ⟨rfl, g⟩ := y2
  have e : u = v := Option.some.inj ((g ws hq).symm.trans hv)
  subst e
  exact ⟨fr1, Ext.refl _ _ _ _, s1, rv⟩
theorem itt_ok {K : KZ} {fr : Addr → Prop} {H : Hp} {ms : List Addr} {a : Addr} {cur : Its}
    (h : ∀ fr' H' ms' st' xs, Ext ms.length fr H ms fr' H' ms' → SR K fr' H' ms' st' → cur st' = some xs → ∃ ws, SqT K H' a ws ∧ VRs K fr' H' ms' ws xs) : ItOk K fr H ms (Itt K a) cur := fun i fr1 H1 ms1 st1 xs e1 s1 y1 => by
  obtain ⟨ws, hq, hr⟩ := h fr1 H1 ms1 st1 xs e1 s1 y1
  refine ⟨fun x hx => ?_, fun hi => ⟨ws, hq, by rw [hr.length]; exact hi⟩⟩
  obtain ⟨v, hv, rv⟩ := hr.get hx
  refine ⟨⟨ws, v, hq, hv⟩, fun u H2 y2 => ?_⟩
  obtain ⟨rfl, g⟩ := y2
  have e : u = v := Option.some.inj ((g ws hq).symm.trans hv)
  subst e
  exact ⟨fr1, Ext.refl _ _ _ _, s1, rv⟩
theorem RoA.sqx {K : KZ} {fr fr1 : Addr → Prop} {H H1 : Hp} {ms ms1 : List Addr} {st : Store} {a : Addr} {ws : List V} (h : RoA K H a ws) (s : SR K fr H ms st) (e : Ext ms.length fr H ms fr1 H1 ms1) : SqL K H1 a ws := (roa_ex s e h).sql
/-- an iterator over a value, list or tuple -/
theorem cur_it {K : KZ} {fr : Addr → Prop} {H : Hp} {ms : List Addr} {st : Store} {x : Val} {v : V} {cur : Its} (s : SR K fr H ms st) (r : VR K fr H ms v x) (h : curOf st x = some cur) :
    ∃ a, v = .ref a ∧ (((∃ xs, SqL K H a xs) ∧ ItOk K fr H ms (Itl K a) cur) ∨ ((∃ xs, SqT K H a xs) ∧ ItOk K fr H ms (Itt K a) cur)) := by
  unfold curOf at h
  split at h
  · next p =>
    split at h
    · next xs hx =>
      cases h
      obtain ⟨a, rfl, hm, ws, hw, hr⟩ := s.at r (lstAt_eq hx)
      refine ⟨a, rfl, .inl ⟨⟨ws, SqL.of hw⟩, itl_ok fun fr2 H2 ms2 st2 ys e2 s2 hy => ?_⟩⟩
      obtain ⟨b, eb, _, zs, hz, hr2⟩ := s2.at (r.ex s e2) (lstAt_eq hy)
      cases eb
      exact ⟨zs, SqL.of hz, hr2⟩
    · cases h
  · cases h
    obtain ⟨a, ws, rfl, h1, h2⟩ := vr_tup r
    refine ⟨a, rfl, .inr ⟨⟨ws, h1⟩, itt_ok fun fr2 H2 ms2 st2 ys e2 s2 hy => ?_⟩⟩
    cases hy
    exact ⟨ws, sqt_ex s e2 h1, h2.ex s e2⟩
  · cases h
    obtain ⟨a, ws, rfl, h1, h2⟩ := vr_ro r
    refine ⟨a, rfl, .inl ⟨⟨ws, SqL.of h1⟩, itl_ok fun fr2 H2 ms2 st2 ys e2 s2 hy => ?_⟩⟩
    cases hy
    obtain ⟨b, ws2, eb, h3, h4⟩ := vr_ro (r.ex s e2)
    cases eb
    exact ⟨ws2, SqL.of h3, h4⟩
  · cases h
    obtain ⟨a, ws, rfl, h1, h2⟩ := vr_wr r
    refine ⟨a, rfl, .inl ⟨⟨ws, h1.sql⟩, itl_ok fun fr2 H2 ms2 st2 ys e2 s2 hy => ?_⟩⟩
    cases hy
    exact ⟨ws, h1.sqx s e2, h2.ex s e2⟩
  · cases h
theorem i_seq {X : Cx} {Z : KS} {W : WZ Z} {tg e : Expr} {te : FE} (he : DE X W e te) : DI X W tg e (iSeq te) := pi_imp (pi_seq he) fun σ H R ⟨fr, ms, ρ, st, w, g⟩ =>
  ⟨fr, ms, ρ, st, w, g.bind.mono fun x st1 fr1 H1 ms1 _ _ ⟨e1, s1, g1⟩ v rv => by
    cases hc : curOf st1 x with
    | none =>
      rw [hc] at g1
      exact g1.elim
    | some cur =>
      rw [hc] at g1
      have k := g1.now s1
      obtain ⟨a, rfl, q⟩ := cur_it s1 rv hc
      refine ⟨a, rfl, q.imp (fun q => ⟨q.1, k _ q.2⟩) fun q => ⟨q.1, k _ q.2⟩⟩⟩
/-- range(n), range(a, b) -/
def rngs (lo : Int) (n : Nat) : List Val := (List.range n).map fun i => Val.int (lo + (i : Nat))
def okRg (a b : Int) : Bool := decide (-(2 ^ 62) ≤ a ∧ a < 2 ^ 62 ∧ -(2 ^ 62) ≤ b ∧ b < 2 ^ 62)
def iRg1 (ta : FA) : FI := fun ρ st => (ta ρ st).bind fun xs st1 => match xs with
  | [.int n] => bif okRg 0 n then .ok (fun _ => some (rngs 0 n.toNat)) st1 else .bad
  | _ => .bad
def iRg2 (ta : FA) : FI := fun ρ st => (ta ρ st).bind fun xs st1 => match xs with
  | [.int a, .int b] => bif okRg a b then .ok (fun _ => some (rngs a (b - a).toNat)) st1 else .bad
  | _ => .bad
theorem rngs_len (lo : Int) (n : Nat) : (rngs lo n).length = n := by unfold rngs; rw [List.length_map, List.length_range]
theorem rngs_get {lo : Int} {n i : Nat} {x : Val} (h : (rngs lo n)[i]? = some x) : i < n ∧ x = .int (lo + (i : Nat)) := by
  unfold rngs at h
  rw [List.getElem?_map] at h
  cases e : (List.range n)[i]? with
  | none =>
    rw [e] at h
    cases h
  | some j =>
    rw [e] at h
    have hl := (List.getElem?_eq_some_iff.mp e).1
    rw [List.length_range] at hl
    rw [List.getElem?_range hl] at e
    cases e
    cases h
    exact ⟨hl, rfl⟩
theorem itr_ok {K : KZ} {fr : Addr → Prop} {H : Hp} {ms : List Addr} {lo : Int} {n : Nat} : ItOk K fr H ms (Itr lo n) (fun _ => some (rngs lo n)) := fun i fr1 H1 ms1 st1 xs e1 s1 hx => by
  cases hx
  refine ⟨fun x hx => ?_, fun hi => by rw [rngs_len] at hi; exact hi⟩
  obtain ⟨hi, rfl⟩ := rngs_get hx
  refine ⟨hi, fun v H2 y => ?_⟩
  obtain ⟨rfl, rfl⟩ := y
  exact ⟨fr1, Ext.refl _ _ _ _, s1, .int _⟩
section
variable {X : Cx} {Z : KS} {W : WZ Z} {tg a b : Expr} {ta : FA} {p pos : Pos}
theorem i_rg1 (hm : X.mg "range" = none) (ha : DA X W [a] ta) (hg : Gl X "range" := by rfl) (hs : starEach [a] X.env = [(false, eval a X.env)] := by rfl) : DI X W tg (.Call (.Name "range" p) [a] [] pos) (iRg1 ta) :=
  pi_imp (pi_range1 hg hm ha hs) fun σ H R ⟨fr, ms, ρ, st, w, g⟩ => ⟨fr, ms, ρ, st, w, g.bind.mono fun xs st1 fr1 H1 ms1 _ _ ⟨e1, s1, g1⟩ vs rs => by
    split at g1
    · obtain ⟨v, rfl, r⟩ := vrs1 rs
      obtain ⟨ho, g2⟩ := g1.cond
      have ho := of_decide_eq_true ho
      exact ⟨_, by rw [vr_int r], ho.2.2.1, ho.2.2.2, g2.now s1 _ itr_ok⟩
    · exact g1.elim⟩
theorem i_rg2 (hm : X.mg "range" = none) (ha : DA X W [a, b] ta) (hg : Gl X "range" := by rfl) (hs : starEach [a, b] X.env = [(false, eval a X.env), (false, eval b X.env)] := by rfl) (hs2 : starEach [b] X.env = [(false, eval b X.env)] := by rfl) :
    DI X W tg (.Call (.Name "range" p) [a, b] [] pos) (iRg2 ta) := pi_imp (pi_range2 hg hm ha hs hs2) fun σ H R ⟨fr, ms, ρ, st, w, g⟩ => ⟨fr, ms, ρ, st, w, g.bind.mono fun xs st1 fr1 H1 ms1 _ _ ⟨e1, s1, g1⟩ vs rs => by
    split at g1
    · obtain ⟨v, u, rfl, r, r2⟩ := vrs2 rs
      obtain ⟨ho, g2⟩ := g1.cond
      have ho := of_decide_eq_true ho
      exact ⟨_, _, by rw [vr_int r, vr_int r2], ho, g2.now s1 _ itr_ok⟩
    · exact g1.elim⟩
end
theorem OpR.or {X : Cx} {f : Value → Value → Sem Value} {r r' : R2} (h : OpR X f r) (h' : OpR X f r') : OpR X f (fun x y H Q => r x y H Q ∨ r' x y H Q) := fun pins s σ H x y v u Q I rx ry q => q.elim (h pins s σ H x y v u Q I rx ry) (h' pins s σ H x y v u Q I rx ry)
end FL
namespace FL
open PySem PySem.Spec PyProof.Rows L2
theorem tm_one (l : Addr) (items : Array Value) (n : Nat) (dd : Option Addr) (sl : Array (Option Value)) (u : Tok) :
    Meets (Builtin.«tuple.__mul__» ⟨[.ref l, .int 1 u], []⟩) (fun _ R s => s.heap.get? l = some { cls := .type "tuple", dict := dd, data := .seq items n, slots := sl } ∧ R (.ok (.ret (Value.ref l))) s) :=
  .of_wp fun prog w A R s h => by
    obtain ⟨hp, g, d, tk, os⟩ := s; obtain ⟨hl, h⟩ := h
    have f1 := AutoSeq1.idx_int
    have c1 : (items.isEmpty || (1 : Int) == 1) = true := by simp
    wp_walk using wpAny_loadPart' hl
    repeat (first
      | (refine wpAny_ite_true (decide_eq_true (by rw [c1])) ?_; wp_walk using wpAny_loadPart' hl)
      | (rw [if_pos (by simp)]; wp_walk using wpAny_loadPart' hl))
    exact ⟨_, rfl, h⟩
theorem tm_zero (l : Addr) (items : Array Value) (n : Nat) (dd : Option Addr) (sl : Array (Option Value)) (u : Tok) (he : items.isEmpty = false) :
    Meets (Builtin.«tuple.__mul__» ⟨[.ref l, .int 0 u], []⟩) (fun _ R s => s.heap.get? l = some { cls := .type "tuple", dict := dd, data := .seq items n, slots := sl } ∧
      R (.ok (.ret (Value.ref s.heap.objs.size))) { s with heap := s.heap.push { cls := Value.type "tuple", data := Data.seq #[] }, toks := s.toks }) :=
  .of_wp fun prog w A R s h => by
    obtain ⟨hp, g, d, tk, os⟩ := s; obtain ⟨hl, h⟩ := h
    have f1 := AutoSeq1.idx_int
    have c1 : (items.isEmpty || (0 : Int) == 1) = false := by rw [he]; rfl
    wp_walk using wpAny_loadPart' hl
    exact ⟨_, rfl, h⟩
def rRepA (K : PySem.W.Frag) : R2 := fun x y H Q => ∃ l k xs, x = .ref l ∧ y = .int k ∧ SqT K H l xs ∧ xs ≠ [] ∧ 0 ≤ k ∧ k ≤ 1000 ∧ xs.length ≤ 1000 ∧ (k = 1 → Q (.ref l) H) ∧ ∀ p, H p = none → Q (.ref p) (upd H p (.tup (List.replicate k.toNat xs).flatten))
theorem op_repA {X : Cx} : OpR X (binaryOp .Mult) (rRepA X.K) := by
  intro pins s σ H x y v u Q I rx ry h
  obtain ⟨l, k, xs, rfl, rfl, hT, hne, h1, h2, hz, q1, q⟩ := h
  by_cases hk : 2 ≤ k
  · exact op_repT pins s σ H _ _ v u Q I rx ry ⟨l, k, xs, rfl, rfl, hT, hne, hk, h2, hz, q⟩
  cases rx
  obtain ⟨t, rfl⟩ := ry
  obtain ⟨its, r, ⟨⟨cls, dd, data, sl⟩, ho, hc, n, hd⟩, hs⟩ := I.tuple hT
  simp only at hc hd
  subst hc hd
  have hi : its.toArray.isEmpty = false := by
    cases its with
    | nil =>
      cases r
      exact absurd rfl hne
    | cons a b => rfl
  refine wpAny_binaryOp_repeat_ref (T := "tuple") (U := "int") (by decide) ⟨_, ho, rfl⟩ (fun s' => typeIs_int s' k t) noFill_tuple_mul F.fills_int_mul F.slot_int_rmul repeat_tuple F.slot_int_index.lookup
    (call_meets F.slot_int_rmul (typeIs_int s k t) F.entry_int_rmul (F.args_int_rmul_2 _ _) (int_rmul_tuple k t l its.toArray n dd sl) ⟨ho, rfl, ⟨_, ho, rfl⟩, ?_⟩)
  rcases (by omega : k = 0 ∨ k = 1) with rfl | rfl
  · refine call_meets F.slot_tuple_mul ⟨_, ho, rfl⟩ F.entry_tuple_mul (F.args_tuple_mul_2 _ _) (tm_zero l its.toArray n dd sl t hi) ⟨ho, ?_⟩
    exact ⟨.ref s.heap.objs.size, _, I.laid (t' := s.toks) (o := .tup []) (fun b ob q => Heap.get?_push_of_some _ q) (Nat.le_refl _) ⟨Nat.zero_le _, [], .nil, IsTup.new _ _⟩, rfl, q _ (I.hok.fresh (Nat.le_refl _))⟩
  · refine call_meets F.slot_tuple_mul ⟨_, ho, rfl⟩ F.entry_tuple_mul (F.args_tuple_mul_2 _ _) (tm_one l its.toArray n dd sl t) ⟨ho, ?_⟩
    exact ⟨.ref l, H, I, rfl, q1 rfl⟩
/-! ### operators by values -/
abbrev OV := Option (Val × Store)
def fAdd (c : Bool) : F2 := fun x y st => match x, y with
  | .int i, .int j => some (.int (i + j), st)
  | .tup xs, .tup ys => bif Nat.ble (xs.length + ys.length) sizeLine then some (.tup (xs ++ ys), st) else none
  | .str z, .str u => bif Nat.ble (z.length + u.length) sizeLine then some (.str (z ++ u), st) else none
  | x, y => (match plOf st x, plOf st y with
    | some xs, some ys => bif Nat.ble (xs.length + ys.length) sizeLine then some (newL c (xs ++ ys) st) else none
    | _, _ => none)
def rAddU (K : PySem.W.Frag) : R2 := fun x y H Q => ((rI0 fun i j => .int (i + j)) x y H Q ∨ rCatA K x y H Q) ∨ ((∃ i j, x = .str i ∧ y = .str j ∧ i.length + j.length ≤ sizeLine ∧ Q (.str (i ++ j)) H) ∨ rCat x y H Q)
theorem op_addU {X : Cx} : OpR X (binaryOp .Add) (rAddU X.K) := (op_add.or op_catA).or (op_add_str.or op_cat)
theorem cond_some {α : Type} {b : Bool} {o : Option α} {z : α} (h : (bif b then o else none) = some z) : b = true ∧ o = some z := by
  cases b with
  | true => exact ⟨rfl, h⟩
  | false => cases h
section
variable {K : KZ}
theorem r2_add (c : Bool) : R2F K (rAddU K) (fAdd c) := fun _ fr H ms st x y sx sy z st' Q s rx ry h q => by
  unfold fAdd at h
  split at h
  · cases h
    exact .inl (.inl ⟨_, _, vr_int rx, vr_int ry, q.now s (.int _)⟩)
  · obtain ⟨hb, h⟩ := cond_some h
    cases h
    obtain ⟨a, ws, rfl, h1, h2⟩ := vr_tup rx
    obtain ⟨b, zs, rfl, h3, h4⟩ := vr_tup ry
    have hl : ws.length + zs.length ≤ sizeLine := by rw [h2.length, h4.length]; exact Nat.le_of_ble_eq_true hb
    refine .inl (.inr ⟨a, b, ws, zs, rfl, rfl, h1, h3, hl, fun e => ?_, fun _ e => ?_, fun _ _ p n => q.tup s (h2.app h4) n⟩)
    · subst e
      cases h2
      exact q.now s (.tup h3 h4)
    · subst e
      cases h4
      rw [List.append_nil] at q
      exact q.now s (.tup h1 h2)
  · obtain ⟨hb, h⟩ := cond_some h
    cases h
    exact .inr (.inl ⟨_, _, vr_str rx, vr_str ry, Nat.le_of_ble_eq_true hb, q.now s (.str _)⟩)
  · split at h
    · next xs ys hx hy =>
      obtain ⟨hb, h⟩ := cond_some h
      obtain ⟨a, ws, rfl, h1, h2⟩ := pl_at s rx hx
      obtain ⟨b, zs, rfl, h3, h4⟩ := pl_at s ry hy
      have e := Option.some.inj h
      rw [← show (newL c (xs ++ ys) st).1 = z from congrArg Prod.fst e, ← show (newL c (xs ++ ys) st).2 = st' from congrArg Prod.snd e] at q
      exact .inr (.inr ⟨a, b, ws, zs, rfl, rfl, h1, h3, by rw [h2.length, h4.length]; exact Nat.le_of_ble_eq_true hb, fun p n => q.newl s (h2.app h4) n⟩)
    · cases h
def okMul (i j : Int) : Bool := decide ((-(2 ^ 64) < i ∧ i < 2 ^ 64) ∨ (-(2 ^ 64) < j ∧ j < 2 ^ 64)) || decide (i.natAbs.log2 + j.natAbs.log2 < 1000000)
def okDiv (j : Int) : Bool := decide (0 < j) && decide (j.natAbs.log2 < 9000)
def okPow (i j : Int) : Bool := decide (0 ≤ j ∧ j ≤ 1000000 ∧ i.natAbs < 2 ^ 64)
theorem okMul_at {i j : Int} (h : okMul i j = true) : CMul i j ∨ CMulW i j := (Bool.or_eq_true_iff.mp h).imp (fun q => by have r := of_decide_eq_true q; exact r) fun q => by have r := of_decide_eq_true q; exact r
theorem okDiv_at {i j : Int} (h : okDiv j = true) : CDivW i j := let q := Bool.and_eq_true_iff.mp h; ⟨of_decide_eq_true q.1, of_decide_eq_true q.2⟩
def fMul (c : Bool) : F2 := fun x y st => match x, y with
  | .int i, .int j => bif okMul i j then some (.int (i * j), st) else none
  | .tup ds, .int j => bif decide (ds.length ≠ 0 ∧ 0 ≤ j ∧ j ≤ 1000 ∧ ds.length ≤ 1000) then some (.tup (List.replicate j.toNat ds).flatten, st) else none
  | x, .int j => (match plOf st x with
    | some xs => bif decide (-(2 ^ 63) ≤ j ∧ j < 2 ^ 63 ∧ xs.length * j.toNat ≤ sizeLine) then some (newL c (List.replicate j.toNat xs).flatten st) else none
    | _ => none)
  | _, _ => none
def rMulU (K : PySem.W.Frag) : R2 := fun x y H Q => ((rI CMul fun i j => .int (i * j)) x y H Q ∨ (rI CMulW fun i j => .int (i * j)) x y H Q) ∨ (rRep x y H Q ∨ rRepA K x y H Q)
theorem op_mulU {X : Cx} : OpR X (binaryOp .Mult) (rMulU X.K) := (op_mul.or op_mulW).or (op_rep.or op_repA)
theorem r2_mul (c : Bool) : R2F K (rMulU K) (fMul c) := fun _ fr H ms st x y sx sy z st' Q s rx ry h q => by
  unfold fMul at h
  split at h
  · obtain ⟨hb, h⟩ := cond_some h
    cases h
    rcases okMul_at hb with c | c
    · exact .inl (.inl ⟨_, _, vr_int rx, vr_int ry, c, q.now s (.int _)⟩)
    · exact .inl (.inr ⟨_, _, vr_int rx, vr_int ry, c, q.now s (.int _)⟩)
  · obtain ⟨hb, h⟩ := cond_some h
    cases h
    obtain ⟨g0, g1, g2, g3⟩ := of_decide_eq_true hb
    obtain ⟨a, ws, rfl, h1, h2⟩ := vr_tup rx
    have hl := h2.length
    refine .inr (.inr ⟨a, _, ws, rfl, vr_int ry, h1, fun z => ?_, g1, g2, by rw [hl]; exact g3, fun z => ?_, fun p n => q.tup s (h2.rep _) n⟩)
    · rw [z] at hl
      exact g0 hl.symm
    · subst z
      rw [show (List.replicate (1 : Int).toNat _).flatten = _ from List.append_nil _] at q
      exact q.now s rx
  · split at h
    · next xs hx =>
      obtain ⟨hb, h⟩ := cond_some h
      obtain ⟨a, ws, rfl, h1, h2⟩ := pl_at s rx hx
      have e := Option.some.inj h
      obtain ⟨b1, b2, b3⟩ := of_decide_eq_true hb
      rw [← show (newL c _ st).1 = z from congrArg Prod.fst e, ← show (newL c _ st).2 = st' from congrArg Prod.snd e] at q
      exact .inr (.inl ⟨a, _, ws, rfl, vr_int ry, h1, b1, b2, by rw [h2.length]; exact b3, fun p n => q.newl s (h2.rep _) n⟩)
    · cases h
  · cases h
/-- two ints -/
def fI (C : Int → Int → Bool) (g : Int → Int → Val) : F2 := fun x y st => match x, y with
  | .int i, .int j => bif C i j then some (g i j, st) else none
  | _, _ => none
def fI0 (g : Int → Int → Val) : F2 := fun x y st => match x, y with
  | .int i, .int j => some (g i j, st)
  | _, _ => none
theorem r2_I0 {g : Int → Int → V} {g' : Int → Int → Val} (hg : ∀ (q : Addr → Option V) fr H ms i j, VR (K.gm q) fr H ms (g i j) (g' i j)) : R2F K (rI0 g) (fI0 g') := fun _ fr H ms st x y sx sy z st' Q s rx ry h q => by
  unfold fI0 at h
  split at h
  · cases h
    exact ⟨_, _, vr_int rx, vr_int ry, q.now s (hg _ _ _ _ _ _)⟩
  · cases h
theorem r2_I {C' : Int → Int → Prop} {C : Int → Int → Bool} {g : Int → Int → V} {g' : Int → Int → Val} (hC : ∀ i j, C i j = true → C' i j) (hg : ∀ (q : Addr → Option V) fr H ms i j, VR (K.gm q) fr H ms (g i j) (g' i j)) : R2F K (rI C' g) (fI C g') := fun _ fr H ms st x y sx sy z st' Q s rx ry h q => by
  unfold fI at h
  split at h
  · obtain ⟨hb, h⟩ := cond_some h
    cases h
    exact ⟨_, _, vr_int rx, vr_int ry, hC _ _ hb, q.now s (hg _ _ _ _ _ _)⟩
  · cases h
def fSub : F2 := fI0 fun i j => .int (i - j)
def fDiv : F2 := fI (fun _ j => okDiv j) fun i j => .int (i / j)
def fMod : F2 := fI (fun _ j => decide (0 < j)) fun i j => .int (i % j)
def fPow : F2 := fI okPow fun i j => .int (i ^ j.toNat)
def fLt : F2 := fI0 fun i j => .bl (decide (i < j))
def fLe : F2 := fI0 fun i j => .bl (decide (i ≤ j))
def fGt : F2 := fI0 fun i j => .bl (decide (j < i))
def fGe : F2 := fI0 fun i j => .bl (decide (j ≤ i))
theorem r2_sub : R2F K (rI0 fun i j => .int (i - j)) fSub := r2_I0 fun _ _ _ _ _ _ => .int _
theorem r2_div : R2F K (rI CDivW fun i j => .int (i / j)) fDiv := r2_I (fun _ _ h => okDiv_at h) fun _ _ _ _ _ _ => .int _
theorem r2_mod : R2F K (rI (fun _ j => 0 < j) fun i j => .int (i % j)) fMod := r2_I (fun _ _ h => of_decide_eq_true h) fun _ _ _ _ _ _ => .int _
theorem r2_pow : R2F K (rI CPow fun i j => .int (i ^ j.toNat)) fPow := r2_I (fun _ _ h => by have r := of_decide_eq_true h; exact r) fun _ _ _ _ _ _ => .int _
theorem r2_lt : R2F K (rI0 fun i j => .bl (decide (i < j))) fLt := r2_I0 fun _ _ _ _ _ _ => .bl _
theorem r2_le : R2F K (rI0 fun i j => .bl (decide (i ≤ j))) fLe := r2_I0 fun _ _ _ _ _ _ => .bl _
theorem r2_gt : R2F K (rI0 fun i j => .bl (decide (j < i))) fGt := r2_I0 fun _ _ _ _ _ _ => .bl _
theorem r2_ge : R2F K (rI0 fun i j => .bl (decide (j ≤ i))) fGe := r2_I0 fun _ _ _ _ _ _ => .bl _
/-! ### data -/
mutual
def toDV (lk : Nat → Option PyData) : Val → Option PyData
  | .non => some .none
  | .bl b => some (.bool b)
  | .int i => some (.int i)
  | .str x => some (.str x)
  | .tup xs => (match toDVs lk xs with
    | some ds => some (.tuple ds)
    | none => none)
  | .ro xs => (match toDVs lk xs with
    | some ds => some (.list ds)
    | none => none)
  | .wr xs => (match toDVs lk xs with
    | some ds => some (.list ds)
    | none => none)
  | .ref p => lk p
  | _ => none
def toDVs (lk : Nat → Option PyData) : List Val → Option (List PyData)
  | [] => some []
  | x :: xs => (match toDV lk x, toDVs lk xs with
    | some d, some ds => some (d :: ds)
    | _, _ => none)
end
def toDN (st : Store) : Nat → Nat → Option PyData
  | 0, _ => none
  | m + 1, p => (match lstAt st p with
    | some xs => (match toDVs (toDN st m) xs with
      | some ds => some (.list ds)
      | none => none)
    | none => none)
/-- how deep cells are followed -/
def deepN : Nat := 40
def toD (st : Store) (x : Val) : Option PyData := toDV (toDN st deepN) x
def LkOk (K : KZ) (fr : Addr → Prop) (H : Hp) (ms : List Addr) (lk : Nat → Option PyData) : Prop := ∀ p d v, lk p = some d → VR K fr H ms v (.ref p) → Dp K H v d
mutual
theorem toDV_at {fr : Addr → Prop} {H : Hp} {ms : List Addr} {lk : Nat → Option PyData} (s : LkOk K fr H ms lk) : ∀ {x : Val} {v : V} {d : PyData}, toDV lk x = some d → VR K fr H ms v x → Dp K H v d
  | .non, _, _, h, r => by unfold toDV at h; cases h; cases r; exact .non
  | .bl b, _, _, h, r => by unfold toDV at h; cases h; cases r; exact .bl b
  | .int i, _, _, h, r => by unfold toDV at h; cases h; cases r; exact .int i
  | .str i, _, _, h, r => by unfold toDV at h; cases h; cases r; exact .str i
  | .tup xs, _, _, h, r => by
    unfold toDV at h
    split at h
    · next ds hd =>
      cases h
      cases r with
      | tup h1 h2 => exact .tup h1 (toDVs_at s hd h2)
    · cases h
  | .ro xs, _, _, h, r => by
    unfold toDV at h
    split at h
    · next ds hd =>
      cases h
      cases r with
      | ro h1 f h2 => exact .lst (.inl (.inl h1)) (toDVs_at s hd h2)
    · cases h
  | .wr xs, _, _, h, r => by
    unfold toDV at h
    split at h
    · next ds hd =>
      cases h
      cases r with
      | wr h1 h2 => exact .lst h1.sql (toDVs_at s hd h2)
    · cases h
  | .ref p, _, _, h, r => by
    unfold toDV at h
    exact s p _ _ h r
  | .rd _ _, _, _, h, r => by unfold toDV at h; cases h
  | .ty _, _, _, h, r => by unfold toDV at h; cases h
  | .gl _, _, _, h, r => by unfold toDV at h; cases h
  | .ex0 _, _, _, h, r => by unfold toDV at h; cases h
  | .ex1 _ _ _, _, _, h, r => by unfold toDV at h; cases h
theorem toDVs_at {fr : Addr → Prop} {H : Hp} {ms : List Addr} {lk : Nat → Option PyData} (s : LkOk K fr H ms lk) : ∀ {x : List Val} {v : List V} {d : List PyData}, toDVs lk x = some d → VRs K fr H ms v x → DpAll K H v d
  | [], _, _, h, r => by unfold toDVs at h; cases h; cases r; exact .nil
  | x :: xs, _, _, h, r => by
    unfold toDVs at h
    split at h
    · next d ds h1 h2 =>
      cases h
      cases r with
      | cons a b => exact .cons (toDV_at s h1 a) (toDVs_at s h2 b)
    · cases h
end
theorem toDN_ok {fr : Addr → Prop} {H : Hp} {ms : List Addr} {st : Store} (s : SR K fr H ms st) : ∀ m : Nat, LkOk K fr H ms (toDN st m)
  | 0 => fun p d v h _ => by cases h
  | m + 1 => fun p d v h r => by
    unfold toDN at h
    split at h
    · next xs hx =>
      split at h
      · next ds hd =>
        cases h
        obtain ⟨a, rfl, _, ws, h1, h2⟩ := s.at r (lstAt_eq hx)
        exact .lst (.inl (.inl h1)) (toDVs_at (toDN_ok s m) hd h2)
      · cases h
    · cases h
theorem toD_at {fr : Addr → Prop} {H : Hp} {ms : List Addr} {st : Store} (s : SR K fr H ms st) {x : Val} {v : V} {d : PyData} (h : toD st x = some d) (r : VR K fr H ms v x) : Dp K H v d := toDV_at (toDN_ok s _) h r
def eqF (st : Store) (x y : Val) : Option Bool := match x, y with
  | .int i, .int j => some (decide (i = j))
  | .str i, .str j => some (decide (i = j))
  | x, y => (match toD st x, toD st y with
    | some d, some e => bif SeqAt.shaped d && SeqAt.shaped e then some (PyData.eqv d e) else none
    | _, _ => none)
def fEq (neg : Bool) : F2 := fun x y st => match eqF st x y with
  | some b => some (.bl (bif neg then !b else b), st)
  | none => none
theorem dec_vi {i j : Int} : decide (V.int i = V.int j) = decide (i = j) := by
  by_cases h : i = j
  · rw [h]
    simp
  · rw [decide_eq_false h, decide_eq_false fun z => h (V.int.inj z)]
theorem dec_vs {i j : Str} : decide (V.str i = V.str j) = decide (i = j) := by
  by_cases h : i = j
  · rw [h]
    simp
  · rw [decide_eq_false h, decide_eq_false fun z => h (V.str.inj z)]
def rEqU (K : PySem.W.Frag) : R2 := fun x y H Q => rEq x y H Q ∨ rEqD K x y H Q
def rNeU (K : PySem.W.Frag) : R2 := fun x y H Q => rNe x y H Q ∨ rNeD K x y H Q
theorem op_eqU {X : Cx} (hu : X.A.units + 64 < cLine) : OpR X (compareOp .Eq) (rEqU X.K) := op_eq.or (op_eqD hu)
theorem op_neU {X : Cx} (hu : X.A.units + 64 < cLine) : OpR X (compareOp .NotEq) (rNeU X.K) := op_ne.or (op_neD hu)
theorem eqF_at {fr : Addr → Prop} {H : Hp} {ms : List Addr} {st : Store} {x y : Val} {v u : V} {b : Bool} (s : SR K fr H ms st) (rx : VR K fr H ms v x) (ry : VR K fr H ms u y) (h : eqF st x y = some b) :
    (scal v u = true ∧ decide (v = u) = b) ∨ ∃ d e, Dp K H v d ∧ Dp K H u e ∧ SeqAt.shaped d = true ∧ SeqAt.shaped e = true ∧ PyData.eqv d e = b := by
  unfold eqF at h
  split at h
  · cases h
    rw [vr_int rx, vr_int ry]
    exact .inl ⟨rfl, dec_vi⟩
  · cases h
    rw [vr_str rx, vr_str ry]
    exact .inl ⟨rfl, dec_vs⟩
  · split at h
    · next d e h1 h2 =>
      obtain ⟨hb, h⟩ := cond_some h
      cases h
      have hb := Bool.and_eq_true_iff.mp hb
      exact .inr ⟨d, e, toD_at s h1 rx, toD_at s h2 ry, hb.1, hb.2, rfl⟩
    · cases h
theorem r2_eq : R2F K (rEqU K) (fEq false) := fun _ fr H ms st x y sx sy z st' Q s rx ry h q => by
  unfold fEq at h
  split at h
  · next b hb =>
    cases h
    have qq := q.now s (.bl _)
    rcases eqF_at s rx ry hb with ⟨h1, h2⟩ | ⟨d, e, h1, h2, h3, h4, h5⟩
    · exact .inl ⟨h1, by rw [h2]; exact qq⟩
    · exact .inr ⟨d, e, h1, h2, h3, h4, by rw [h5]; exact qq⟩
  · cases h
theorem r2_ne : R2F K (rNeU K) (fEq true) := fun _ fr H ms st x y sx sy z st' Q s rx ry h q => by
  unfold fEq at h
  split at h
  · next b hb =>
    cases h
    have qq := q.now s (.bl _)
    rcases eqF_at s rx ry hb with ⟨h1, h2⟩ | ⟨d, e, h1, h2, h3, h4, h5⟩
    · exact .inl ⟨h1, by rw [h2]; exact qq⟩
    · exact .inr ⟨d, e, h1, h2, h3, h4, by rw [h5]; exact qq⟩
  · cases h
end
end FL
namespace FL
open PySem PySem.Spec PyProof.Rows L2
/-! ### dicts over data -/
section
variable {κ α : Type} [DecidableEq κ]
def valS (es : List (κ × α)) (k : κ) : Option α := (es.find? fun e => decide (e.1 = k)).map (·.2)
def putS (es : List (κ × α)) (k : κ) (v : α) : List (κ × α) := if (es.any fun e => decide (e.1 = k)) = true then es.map (fun e => if e.1 = k then (e.1, v) else e) else es ++ [(k, v)]
theorem valS_nil {k : κ} : valS ([] : List (κ × α)) k = none := rfl
theorem valS_pos {p : κ × α} {r : List (κ × α)} {k : κ} (e : p.1 = k) : valS (p :: r) k = some p.2 := by simp [valS, List.find?_cons, e]
theorem valS_neg {p : κ × α} {r : List (κ × α)} {k : κ} (e : ¬ p.1 = k) : valS (p :: r) k = valS r k := by simp [valS, List.find?_cons, e]
theorem valS_any (k : κ) : ∀ es : List (κ × α), (es.any fun kv => decide (kv.1 = k)) = (valS es k).isSome
  | [] => rfl
  | p :: r => by
    rw [List.any_cons]
    by_cases e : p.1 = k
    · rw [valS_pos e, decide_eq_true e]
      rfl
    · rw [valS_neg e, decide_eq_false e, valS_any k r]
      rfl
theorem putS_new {es : List (κ × α)} {k : κ} {v : α} (h : valS es k = none) : putS es k v = es ++ [(k, v)] := by
  unfold putS
  rw [valS_any, h]
  rfl
theorem putS_old {es : List (κ × α)} {k : κ} {v : α} (h : (valS es k).isSome = true) : putS es k v = es.map (fun e => if e.1 = k then (e.1, v) else e) := by
  unfold putS
  rw [valS_any, if_pos h]
theorem valS_map (k j : κ) (y : α) : ∀ es : List (κ × α), valS (es.map fun e => if e.1 = k then (e.1, y) else e) j = (valS es j).map fun x => if j = k then y else x
  | [] => rfl
  | p :: r => by
    rw [List.map_cons]
    by_cases e : p.1 = j
    · subst e
      by_cases e2 : p.1 = k
      · rw [if_pos e2, valS_pos rfl, valS_pos rfl, Option.map_some, if_pos e2]
      · rw [if_neg e2, valS_pos rfl, valS_pos rfl, Option.map_some, if_neg e2]
    · rw [valS_neg e, ← valS_map k j y r]
      by_cases e2 : p.1 = k
      · rw [if_pos e2, valS_neg (p := (p.1, y)) e]
      · rw [if_neg e2, valS_neg e]
theorem valS_snoc (k j : κ) (y : α) : ∀ es : List (κ × α), valS es k = none → valS (es ++ [(k, y)]) j = if j = k then some y else valS es j
  | [], _ => by
    by_cases e : k = j
    · rw [if_pos e.symm, List.nil_append, valS_pos e]
    · rw [if_neg (fun z => e z.symm), List.nil_append, valS_neg e]
  | p :: r, h => by
    have ek : ¬ p.1 = k := fun z => by
      rw [valS_pos z] at h
      cases h
    rw [valS_neg ek] at h
    rw [List.cons_append]
    by_cases e : p.1 = j
    · rw [valS_pos e, valS_pos e, if_neg fun z => ek (e.trans z)]
    · rw [valS_neg e, valS_neg e, valS_snoc k j y r h]
theorem valS_put (es : List (κ × α)) (k j : κ) (y : α) : valS (putS es k y) j = if j = k then some y else valS es j := by
  cases h : valS es k with
  | none => rw [putS_new h, valS_snoc k j y es h]
  | some v =>
    rw [putS_old (by rw [h]; rfl), valS_map]
    by_cases e : j = k
    · subst e
      rw [h, if_pos rfl, Option.map_some, if_pos rfl]
    · rw [if_neg e]
      cases valS es j with
      | none => rfl
      | some x => rw [Option.map_some, if_neg e]
theorem length_putS (es : List (κ × α)) (k : κ) (v : α) : (putS es k v).length ≤ es.length + 1 := by
  unfold putS
  split
  · rw [List.length_map]
    omega
  · rw [List.length_append]
    exact Nat.le_refl _
variable {K : KZ} {fr : Addr → Prop} {H : Hp} {ms : List Addr}
theorem VRk.val {ws : List (κ × V)} {es : List (κ × Val)} (r : VRk K fr H ms ws es) (k : κ) : ∀ {x : Val}, valS es k = some x → ∃ v, valV ws k = some v ∧ VR K fr H ms v x := by
  induction r with
  | nil => intro x h; cases h
  | @cons k' v vs y ys a b ih =>
    intro x h
    by_cases e : k' = k
    · rw [valS_pos (p := (k', y)) e] at h
      cases h
      exact ⟨v, valV_pos (p := (k', v)) e, a⟩
    · rw [valS_neg (p := (k', y)) e] at h
      obtain ⟨u, h1, h2⟩ := ih h
      exact ⟨u, (valV_neg (p := (k', v)) e).trans h1, h2⟩
theorem VRk.noval {ws : List (κ × V)} {es : List (κ × Val)} (r : VRk K fr H ms ws es) (k : κ) (h : valS es k = none) : valV ws k = none := by
  induction r with
  | nil => rfl
  | @cons k' v vs y ys a b ih =>
    by_cases e : k' = k
    · rw [valS_pos (p := (k', y)) e] at h
      cases h
    · rw [valS_neg (p := (k', y)) e] at h
      exact (valV_neg (p := (k', v)) e).trans (ih h)
theorem VRk.isSome {ws : List (κ × V)} {es : List (κ × Val)} (r : VRk K fr H ms ws es) (k : κ) : (valV ws k).isSome = (valS es k).isSome := by
  cases h : valS es k with
  | none => rw [r.noval k h]; rfl
  | some x =>
    obtain ⟨v, h1, _⟩ := r.val k h
    rw [h1]
    rfl
theorem VRk.map_put {ws : List (κ × V)} {es : List (κ × Val)} (r : VRk K fr H ms ws es) (k : κ) {v : V} {x : Val} (h : VR K fr H ms v x) :
    VRk K fr H ms (ws.map fun kv => if kv.1 = k then (kv.1, v) else kv) (es.map fun e => if e.1 = k then (e.1, x) else e) := by
  induction r with
  | nil => exact .nil
  | @cons k' u vs y ys a b ih =>
    rw [List.map_cons, List.map_cons]
    by_cases e : k' = k
    · rw [if_pos (show ((k', u) : κ × V).1 = k from e), if_pos (show ((k', y) : κ × Val).1 = k from e)]
      exact .cons h ih
    · rw [if_neg (show ¬ ((k', u) : κ × V).1 = k from e), if_neg (show ¬ ((k', y) : κ × Val).1 = k from e)]
      exact .cons a ih
theorem VRk.app {ws us : List (κ × V)} {es ds : List (κ × Val)} (r : VRk K fr H ms ws es) (r' : VRk K fr H ms us ds) : VRk K fr H ms (ws ++ us) (es ++ ds) := by
  induction r with
  | nil => exact r'
  | cons a b ih => exact .cons a ih
theorem VRk.put {ws : List (κ × V)} {es : List (κ × Val)} (r : VRk K fr H ms ws es) (k : κ) {v : V} {x : Val} (h : VR K fr H ms v x) : VRk K fr H ms (putK ws k v) (putS es k x) := by
  unfold putK putS
  rw [valV_any, valS_any, r.isSome]
  split
  · exact r.map_put k h
  · exact r.app (.cons h .nil)
end
def keyOf : Val → Option Key
  | .int i => some (.inl i)
  | .str x => some (.inr x)
  | _ => none
def keysOf : List Val → Option (List Key)
  | [] => some []
  | d :: r => (match keyOf d, keysOf r with
    | some k, some ks => some (k :: ks)
    | _, _ => none)
/-- a tuple as a key -/
def tkeyOf : Val → Option (List Key)
  | .tup ds => keysOf ds
  | _ => none
def keyV : Key → Val
  | .inl i => .int i
  | .inr x => .str x
section
variable {K : KZ} {fr : Addr → Prop} {H : Hp} {ms : List Addr} {st : Store}
theorem key_at {v : V} {x : Val} {k : Key} (r : VR K fr H ms v x) (h : keyOf x = some k) : v = kV k := by
  unfold keyOf at h
  split at h
  · cases h
    exact vr_int r
  · cases h
    exact vr_str r
  · cases h
theorem keys_at : ∀ {vs : List V} {ds : List Val} {ks : List Key}, VRs K fr H ms vs ds → keysOf ds = some ks → vs = ks.map kV
  | [], [], ks, .nil, h => by
    cases h
    rfl
  | v :: vs, d :: ds, ks, .cons a b, h => by
    unfold keysOf at h
    split at h
    · next k ks' h1 h2 =>
      cases h
      rw [List.map_cons, ← key_at a h1, ← keys_at b h2]
    · cases h
theorem VRs.zip {ks : List Key} : ∀ {ks : List Key} {ws : List V} {xs : List Val}, ks.length = ws.length → VRs K fr H ms ws xs → VRk K fr H ms (ks.zip ws) (ks.zip xs)
  | [], _, _, _, .nil => .nil
  | [], _, _, h, .cons _ _ => by simp at h
  | _ :: _, _, _, h, .nil => by simp at h
  | k :: ks, _, _, h, .cons a b => .cons a (VRs.zip (ks := ks) (by simpa using h) b)
/-- a dict's entries -/
def dictOf (st : Store) : Val → Option (List (Key × Val))
  | .ref p => dicAt st p
  | .rd ks xs => some (ks.zip xs)
  | _ => none
theorem dct_at {x : Val} {v : V} {es : List (Key × Val)} (s : SR K fr H ms st) (r : VR K fr H ms v x) (h : dictOf st x = some es) : ∃ a ws, v = .ref a ∧ H a = some (.dK ws) ∧ VRk K fr H ms ws es := by
  unfold dictOf at h
  split at h
  · obtain ⟨a, e, _, ws, hw, hr⟩ := s.at r (dicAt_eq h)
    exact ⟨a, ws, e, hw, hr⟩
  · cases h
    cases r with
    | rd h l f r => exact ⟨_, _, rfl, h, VRs.zip (ks := []) l r⟩
  · cases h
/-- what a dict holds at a key: none where it is no dict, no key -/
def dGet (st : Store) (x y : Val) : Option (Option Val) := match dictOf st x, keyOf y with
  | some es, some k => some (valS es k)
  | _, _ => none
theorem dget_at {x y : Val} {v u : V} {o : Option Val} (s : SR K fr H ms st) (rx : VR K fr H ms v x) (ry : VR K fr H ms u y) (h : dGet st x y = some o) :
    ∃ a w, v = .ref a ∧ DGet H a u w ∧ (∀ z, o = some z → ∃ r, w = some r ∧ VR K fr H ms r z) ∧ (o = none → w = none) := by
  unfold dGet at h
  split at h
  · next es k h1 h2 =>
    cases h
    obtain ⟨a, ws, rfl, hw, hr⟩ := dct_at s rx h1
    obtain rfl := key_at ry h2
    exact ⟨a, _, rfl, DGet.k hw, fun z e => hr.val k e, fun e => hr.noval k e⟩
  · cases h
end
section
variable {X : Cx}
def rIxDct : R2 := fun x y H Q => ∃ a v, x = .ref a ∧ DGet H a y (some v) ∧ Q v H
theorem ix_dct (hu : X.A.units + 1 < cLine) : IxR X rIxDct := by
  intro value slice pins s σ H x y v u Q I rx ry h hs
  obtain ⟨a, z, rfl, g, q⟩ := h
  obtain rfl : v = Value.ref a := rx
  exact tail_any (dict_typeIs I g) PySem.F.slot_dict_getitem.lookup (d_getItem hu I g ry fun w' s' I' rw' => ⟨z, H, I', rw', q⟩) hs
def rInDct : R2 := fun y x H Q => ∃ a o, x = .ref a ∧ DGet H a y o ∧ Q (.bl o.isSome) H
def rNinDct : R2 := fun y x H Q => ∃ a o, x = .ref a ∧ DGet H a y o ∧ Q (.bl (!o.isSome)) H
theorem op_inDct (hu : X.A.units + 1 < cLine) : OpR X (compareOp .In) rInDct := by
  intro pins s σ H y x u v Q I ry rx h
  obtain ⟨a, o, rfl, g, q⟩ := h
  obtain rfl : v = Value.ref a := rx
  exact d_in hu I g ry fun s' I' => ⟨.bl o.isSome, H, I', rfl, q⟩
theorem op_ninDct (hu : X.A.units + 1 < cLine) : OpR X (compareOp .NotIn) rNinDct := by
  intro pins s σ H y x u v Q I ry rx h
  obtain ⟨a, o, rfl, g, q⟩ := h
  obtain rfl : v = Value.ref a := rx
  exact d_notIn hu I g ry fun s' I' => ⟨.bl (!o.isSome), H, I', rfl, q⟩
def rSetDct : TSet := fun o i v H Q => ∃ a H', o = .ref a ∧ DPut H a i v H' ∧ Q H'
theorem set_dct (hu : X.A.units + 1 < cLine) : PSet X rSetDct := by
  intro pins s σ H x y v ov iv u Q I rx ry rv h
  obtain ⟨a, H', rfl, g, q⟩ := h
  obtain rfl : ov = Value.ref a := rx
  exact d_setItem hu I g ry rv fun s' I' => ⟨H', I', q⟩
theorem PSet.or {t t' : TSet} (h : PSet X t) (h' : PSet X t') : PSet X (fun o i v H Q => t o i v H Q ∨ t' o i v H Q) := by
  intro pins s σ H x y v ov iv u Q I rx ry rv q
  rcases q with q | q
  · exact h pins s σ H x y v ov iv u Q I rx ry rv q
  · exact h' pins s σ H x y v ov iv u Q I rx ry rv q
end
/-! ### in, not in: flat things in a list or tuple, keys of a dict -/
def flatF : Val → Option V
  | .non => some .non
  | .bl b => some (.bl b)
  | .int i => some (.int i)
  | .str x => some (.str x)
  | _ => none
def flatFs : List Val → Option (List V)
  | [] => some []
  | x :: r => (match flatF x, flatFs r with
    | some v, some vs => some (v :: vs)
    | _, _ => none)
theorem flat_vr {K : KZ} {fr : Addr → Prop} {H : Hp} {ms : List Addr} {d : Val} {v u : V} (h : flatF d = some u) (r : VR K fr H ms v d) : v = u ∧ flatV u = true := by
  cases r <;> first
    | (cases h; exact ⟨rfl, rfl⟩)
    | cases h
theorem flat_vrs {K : KZ} {fr : Addr → Prop} {H : Hp} {ms : List Addr} : ∀ {xs : List Val} {vs us : List V}, flatFs xs = some us → VRs K fr H ms vs xs → vs = us ∧ us.all flatV = true
  | [], _, _, h, .nil => by
    cases h
    exact ⟨rfl, rfl⟩
  | x :: r, _, _, h, .cons a b => by
    unfold flatFs at h
    split at h
    · next v vs h1 h2 =>
      cases h
      obtain ⟨e1, f1⟩ := flat_vr h1 a
      obtain ⟨e2, f2⟩ := flat_vrs h2 b
      exact ⟨by rw [e1, e2], by rw [List.all_cons, f1, f2]; rfl⟩
    · cases h
def inF (st : Store) (x y : Val) : Option Bool := match y with
  | .str z => (match x with
    | .str u => some (!(Builtin.Str.occurrences z u 0 z.length 1).isEmpty)
    | _ => none)
  | y => (match seqOf st y with
    | some ys => (match flatF x, flatFs ys with
      | some v, some vs => some (inV v vs)
      | _, _ => none)
    | none => (match dGet st y x with
      | some o => some o.isSome
      | none => none))
def fIn (neg : Bool) : F2 := fun x y st => match inF st x y with
  | some b => some (.bl (bif neg then !b else b), st)
  | none => none
def rInU (K : PySem.W.Frag) (neg : Bool) : R2 := fun x y H Q => (rIn K neg x y H Q ∨ (match neg with
  | true => rNinDct x y H Q
  | false => rInDct x y H Q)) ∨ ∃ i j, x = .str i ∧ y = .str j ∧ Q (.bl (bif neg then !(!(Builtin.Str.occurrences j i 0 j.length 1).isEmpty) else !(Builtin.Str.occurrences j i 0 j.length 1).isEmpty)) H
theorem op_inU {X : Cx} (hu : X.A.units + 1 < cLine) : OpR X (compareOp .In) (rInU X.K false) := (op_in_seq.or (op_inDct hu)).or op_in_str
theorem op_notInU {X : Cx} (hu : X.A.units + 1 < cLine) : OpR X (compareOp .NotIn) (rInU X.K true) := (op_notIn_seq.or (op_ninDct hu)).or op_notin_str
theorem r2_in {K : KZ} (neg : Bool) : R2F K (rInU K neg) (fIn neg) := fun _ fr H ms st x y sx sy z st' Q s rx ry h q => by
  unfold fIn at h
  split at h
  · next b hb =>
    cases h
    have qq := q.now s (.bl _)
    unfold inF at hb
    split at hb
    · split at hb
      · cases hb
        exact .inr ⟨_, _, vr_str rx, vr_str ry, qq⟩
      · cases hb
    · split at hb
      · next ys hy =>
        split at hb
        · next v vs h1 h2 =>
          cases hb
          obtain ⟨a, ws, rfl, hs, hr⟩ := seq_at s ry hy
          obtain ⟨e1, f1⟩ := flat_vr h1 rx
          obtain ⟨e2, f2⟩ := flat_vrs h2 hr
          subst e1 e2
          exact .inl (.inl ⟨a, _, rfl, hs, f1, f2, by cases neg <;> exact qq⟩)
        · cases hb
      · split at hb
        · next o ho =>
          cases hb
          obtain ⟨a, w, rfl, g, g1, g2⟩ := dget_at s ry rx ho
          have e : w.isSome = o.isSome := by
            cases o with
            | none => rw [g2 rfl]; rfl
            | some z =>
              obtain ⟨r, h1, _⟩ := g1 z rfl
              rw [h1]
              rfl
          refine .inl (.inr ?_)
          cases neg with
          | true => exact ⟨a, w, rfl, g, by rw [e]; exact qq⟩
          | false => exact ⟨a, w, rfl, g, by rw [e]; exact qq⟩
        · cases hb
  · cases h
/-- is None, is not None -/
def isN : Val → Bool
  | .non => true
  | _ => false
def fIsN (neg : Bool) : F2 := fun x y st => match y with
  | .non => some (.bl (bif neg then !isN x else isN x), st)
  | _ => none
theorem isN_vr {K : KZ} {fr : Addr → Prop} {H : Hp} {ms : List Addr} {x : Val} {v : V} (r : VR K fr H ms v x) : decide (v = .non) = isN x := by
  cases r <;> rfl
theorem r2_isN {K : KZ} : R2F K (fun x y H Q => y = .non ∧ Q (.bl (decide (x = .non))) H) (fIsN false) := fun _ fr H ms st x y sx sy z st' Q s rx ry h q => by
  unfold fIsN at h
  split at h
  · cases h
    exact ⟨vr_non ry, q.now s (by rw [isN_vr rx]; exact .bl _)⟩
  · cases h
theorem r2_notN {K : KZ} : R2F K (fun x y H Q => y = .non ∧ Q (.bl (!decide (x = .non))) H) (fIsN true) := fun _ fr H ms st x y sx sy z st' Q s rx ry h q => by
  unfold fIsN at h
  split at h
  · cases h
    exact ⟨vr_non ry, q.now s (by rw [isN_vr rx]; exact .bl _)⟩
  · cases h
/-! ### x[i], x[a:b] -/
def ixF (st : Store) (x y : Val) : Option Val := match x, y with
  | .str z, .int i => bif Nat.ble z.length sizeLine then (match atI z.cps.toList i with
    | some c => some (.str ⟨#[c]⟩)
    | none => none) else none
  | x, y => (match seqOf st x with
    | some xs => (match y with
      | .int i => atI xs i
      | _ => none)
    | none => (match dGet st x y with
      | some (some z) => some z
      | _ => none))
def fIx : F2 := fun x y st => match ixF st x y with
  | some z => some (z, st)
  | none => none
theorem vrs_atI {K : KZ} {fr : Addr → Prop} {H : Hp} {ms : List Addr} {vs : List V} {xs : List Val} {i : Int} {x : Val} (r : VRs K fr H ms vs xs) (h : atI xs i = some x) : ∃ v, atI vs i = some v ∧ VR K fr H ms v x := by
  have h' : ((ixN xs.length i).bind fun j => xs[j]?) = some x := h
  show ∃ v, ((ixN vs.length i).bind fun j => vs[j]?) = some v ∧ _
  rw [r.length]
  cases e : ixN xs.length i with
  | none =>
    rw [e] at h'
    cases h'
  | some j =>
    rw [e] at h'
    exact r.get h'
def rIxU (K : KZ) : R2 := fun x y H Q => rIx K x y H Q ∨ rIxDct x y H Q
theorem r2_ix {K : KZ} : R2F K (rIxU K) fIx := fun _ fr H ms st x y sx sy z st' Q s rx ry h q => by
  unfold fIx at h
  split at h
  · next u hu =>
    cases h
    unfold ixF at hu
    split at hu
    · obtain ⟨hb, hu⟩ := cond_some hu
      split at hu
      · next c hc =>
        cases hu
        exact .inl (.inr (.inr ⟨_, _, c, vr_str rx, vr_int ry, Nat.le_of_ble_eq_true hb, hc, q.now s (.str _)⟩))
      · cases hu
    · split at hu
      · next xs hx =>
        split at hu
        · obtain ⟨a, ws, rfl, hs, hr⟩ := seq_at s rx hx
          obtain ⟨v, hv, rv⟩ := vrs_atI hr hu
          rcases hs with hs | hs
          · exact .inl (.inl ⟨a, ws, _, v, rfl, vr_int ry, hs, hv, q.now s rv⟩)
          · exact .inl (.inr (.inl ⟨a, ws, _, v, rfl, vr_int ry, hs, hv, q.now s rv⟩))
        · cases hu
      · split at hu
        · next z hz =>
          cases hu
          obtain ⟨a, w, rfl, g, g1, _⟩ := dget_at s rx ry hz
          obtain ⟨r, rfl, rr⟩ := g1 _ rfl
          exact .inr ⟨a, r, rfl, g, q.now s rr⟩
        · cases hu
  · cases h
section
variable {X : Cx} {Z : KS} {W : WZ Z} {pos : Pos} {a b c : Expr} {ta tb tc : FE}
theorem d_ix (hu : X.A.units + 1 < cLine) (ha : DE X W a ta) (hb : DE X W b tb) (hs : PlainIx b := by exact fun _ _ => rfl) : DE X W (.Subscript a b pos) (eOp fIx ta tb) := pe_imp (pe_ix (ix_seq.or (ix_dct hu)) ha hb hs) fun _ _ _ => le_op r2_ix
theorem d_add (c : Bool) (ha : DE X W a ta) (hb : DE X W b tb) : DE X W (.BinOp a .Add b pos) (eOp (fAdd c) ta tb) := d_op (X := X) op_addU (r2_add c) ha hb
theorem d_sub (ha : DE X W a ta) (hb : DE X W b tb) : DE X W (.BinOp a .Sub b pos) (eOp fSub ta tb) := d_op (X := X) op_sub r2_sub ha hb
theorem d_mul (c : Bool) (ha : DE X W a ta) (hb : DE X W b tb) : DE X W (.BinOp a .Mult b pos) (eOp (fMul c) ta tb) := d_op (X := X) op_mulU (r2_mul c) ha hb
theorem d_div (ha : DE X W a ta) (hb : DE X W b tb) : DE X W (.BinOp a .FloorDiv b pos) (eOp fDiv ta tb) := d_op (X := X) op_fdivW r2_div ha hb
theorem d_mod (ha : DE X W a ta) (hb : DE X W b tb) : DE X W (.BinOp a .Mod b pos) (eOp fMod ta tb) := d_op (X := X) op_mod r2_mod ha hb
theorem d_pow (ha : DE X W a ta) (hb : DE X W b tb) : DE X W (.BinOp a .Pow b pos) (eOp fPow ta tb) := d_op (X := X) op_pow r2_pow ha hb
def fNeg : F1 := fun x st => match x with
  | .int i => some (.int (-i), st)
  | _ => none
theorem d_neg (ha : DE X W a ta) : DE X W (.UnaryOp .USub a pos) (eUn fNeg ta) := d_un (X := X) un_neg (fun _ fr H ms st x sx z st' Q s rx h q => by
  unfold fNeg at h
  split at h
  · cases h
    exact ⟨_, vr_int rx, q.now s (.int _)⟩
  · cases h) ha
end
/-! slices -/
def cutL (xs : List Val) (lo hi : Option Int) : List Val := (xs.drop (HT.sIx xs.length 0 lo)).take (HT.sIx xs.length xs.length hi - HT.sIx xs.length 0 lo)
theorem vrs_cut {K : KZ} {fr : Addr → Prop} {H : Hp} {ms : List Addr} {vs : List V} {xs : List Val} (r : VRs K fr H ms vs xs) (lo hi : Option Int) : VRs K fr H ms (cutV vs lo hi) (cutL xs lo hi) := by
  unfold cutV cutL
  rw [r.length]
  exact (r.off _).cut _
def oNo : FO := fun _ st => .ok none st
def oAt (te : FE) : FO := fun ρ st => (te ρ st).bind fun x st1 => match x with
  | .int i => .ok (some i) st1
  | _ => .bad
theorem o_none {X : Cx} {Z : KS} {W : WZ Z} : DO X W none oNo := po_imp po_none fun σ H Q ⟨fr, ms, ρ, st, w, g⟩ => g.now w.sr
theorem o_some {X : Cx} {Z : KS} {W : WZ Z} {e : Expr} {te : FE} (he : DE X W e te) : DO X W (some e) (oAt te) := po_imp (po_some he) fun σ H Q ⟨fr, ms, ρ, st, w, g⟩ =>
  ⟨fr, ms, ρ, st, w, g.bind.mono fun x st1 fr1 H1 ms1 _ _ ⟨e1, s1, g1⟩ v rv => by
    split at g1
    · exact ⟨_, vr_int rv, g1.now s1⟩
    · exact g1.elim⟩
def slF (c : Bool) (x : Val) (l h : Option Int) (st : Store) : OV := match x with
  | .tup xs => some (.tup (cutL xs l h), st)
  | .str z => bif Nat.ble z.length sizeLine then some (.str (cutS z l h), st) else none
  | x => (match lstOf st x with
    | some xs => some (newL c (cutL xs l h) st)
    | none => none)
/-- x[lo:hi] -/
def eSl (c : Bool) (te : FE) (lo hi : FO) : FE := fun ρ st => (te ρ st).bind fun x st1 => (lo ρ st1).bind fun l st2 => (hi ρ st2).bind fun h st3 => R.opt (slF c x l h st3)
def rSlU (K : KZ) : V → Option Int → Option Int → Hp → VK → Prop := fun x lo hi H Q => (rSlL K x lo hi H Q ∨ rSlA K x lo hi H Q) ∨ rSlS x lo hi H Q
theorem cut_all {xs : List Val} {lo hi : Option Int} (h : HT.sIx xs.length 0 lo = 0 ∧ HT.sIx xs.length xs.length hi = xs.length) : cutL xs lo hi = xs := by
  unfold cutL
  rw [h.1, h.2, List.drop_zero, Nat.sub_zero, List.take_length]
theorem newl_out {c : Bool} {xs : List Val} {st st' : Store} {z : Val} (h : some (newL c xs st) = some (z, st')) : (newL c xs st).1 = z ∧ (newL c xs st).2 = st' := ⟨congrArg Prod.fst (Option.some.inj h), congrArg Prod.snd (Option.some.inj h)⟩
theorem d_sl (c : Bool) {X : Cx} {Z : KS} {W : WZ Z} {e : Expr} {lo hi : Option Expr} {te : FE} {tl th : FO} {p2 pos : Pos} (he : DE X W e te) (hl : DO X W lo tl) (hh : DO X W hi th) : DE X W (.Subscript e (.Slice lo hi none p2) pos) (eSl c te tl th) :=
  pe_imp (pe_slice ((sl_list.or sl_tupA).or sl_str) he hl hh) fun σ H Q ⟨fr, ms, ρ, st, w, g⟩ => by
    refine ⟨fr, ms, ρ, st, w, g.bind.mono fun x st1 fr1 H1 ms1 _ _ ⟨e1, s1, g1⟩ v rv => ?_⟩
    have w1 := w.on e1 s1
    refine ⟨fr1, ms1, ρ, st1, w1, g1.bind.mono fun l st2 fr2 H2 ms2 _ _ ⟨e2, s2, g2⟩ => ?_⟩
    refine ⟨fr2, ms2, ρ, st2, w1.on e2 s2, g2.bind.mono fun u st3 fr3 H3 ms3 _ _ ⟨e3, s3, g3⟩ => ?_⟩
    have r3 := rv.ex s1 (e2.then e3)
    obtain ⟨z, st4, hz, q⟩ := g3.opt
    unfold slF at hz
    split at hz
    · next xs =>
      cases hz
      obtain ⟨a, ws, rfl, h1, h2⟩ := vr_tup r3
      have hc := vrs_cut h2 l u
      refine .inl (.inr ⟨a, ws, rfl, h1, fun c => ?_, fun c p n => q.tup s3 hc n⟩)
      rw [h2.length] at c
      rw [cut_all c] at q
      exact q.now s3 (.tup h1 h2)
    · obtain ⟨hb, hz⟩ := cond_some hz
      cases hz
      exact .inr ⟨_, vr_str r3, Nat.le_of_ble_eq_true hb, q.now s3 (.str _)⟩
    · split at hz
      · next xs hx =>
        obtain ⟨e5, e6⟩ := newl_out hz
        rw [← e5, ← e6] at q
        obtain ⟨a, ws, rfl, hs, hr⟩ := lst_at s3 r3 hx
        exact .inl (.inl ⟨a, ws, rfl, hs, fun p n => q.newl s3 (vrs_cut hr l u) n⟩)
      · cases hz
/-! ### anything as a test -/
def truF (st : Store) : Val → Option Bool
  | .non => some false
  | .bl b => some b
  | .int i => some (i != 0)
  | .str z => bif Nat.ble z.length sizeLine then some ((z.length : Int) != 0) else none
  | x => (match seqOf st x with
    | some xs => some (!xs.isEmpty)
    | none => (match dictOf st x with
      | some es => some (!es.isEmpty)
      | none => none))
def tTru (t : FE) : FT := fun ρ st => (t ρ st).bind fun x st1 => match truF st1 x with
  | some b => .ok b st1
  | none => .bad
theorem tru_at {K : KZ} {fr : Addr → Prop} {H : Hp} {ms : List Addr} {st : Store} {x : Val} {v : V} {b : Bool} (s : SR K fr H ms st) (r : VR K fr H ms v x) (h : truF st x = some b) : TruV K v H b := by
  unfold truF at h
  split at h
  · cases h; cases r; rfl
  · cases h; cases r; rfl
  · cases h; cases r; rfl
  · obtain ⟨hb, h⟩ := cond_some h
    cases h
    cases r
    exact ⟨Nat.le_of_ble_eq_true hb, rfl⟩
  · split at h
    · next xs hx =>
      cases h
      obtain ⟨a, ws, rfl, hs, hr⟩ := seq_at s r hx
      have e : (!xs.isEmpty) = !ws.isEmpty := by cases hr <;> rfl
      rw [e]
      rcases hs with hs | hs
      · exact .inl ⟨ws, hs, rfl⟩
      · exact .inr (.inl ⟨ws, hs, rfl⟩)
    · split at h
      · next es he =>
        cases h
        obtain ⟨a, ws, rfl, hs, hr⟩ := dct_at s r he
        have e : (!es.isEmpty) = !ws.isEmpty := by cases hr <;> rfl
        rw [e]
        exact .inr (.inr ⟨ws, hs, rfl⟩)
      · cases h
end FL
namespace FL
open PySem PySem.Spec PyProof.Rows L2
theorem t_tru {X : Cx} {Z : KS} {W : WZ Z} {a : Expr} {t : FE} (ha : DE X W a t) (he : ∀ whole, isTrue a X.env whole = (do let v ← whole; standAt a.pos; holding [v] (truthy v)) := by intro _; rfl) : DT X W a (tTru t) :=
  pt_imp (pt_truth ha he) fun σ H Q ⟨fr, ms, ρ, st, w, g⟩ => ⟨fr, ms, ρ, st, w, g.bind.mono fun x st1 fr1 H1 ms1 _ _ ⟨e1, s1, g1⟩ v rv => by
    cases hb : truF st1 x with
    | none =>
      rw [hb] at g1
      exact g1.elim
    | some b =>
      rw [hb] at g1
      exact ⟨b, tru_at s1 rv hb, g1.now s1⟩⟩
/-! ### what a def hands back -/
mutual
/-- all cells that it speaks of lie below n -/
def below (n : Nat) : Val → Bool
  | .ref p => Nat.blt p n
  | .tup xs => belows n xs
  | .ro xs => belows n xs
  | .wr xs => belows n xs
  | .rd _ xs => belows n xs
  | .ex1 _ _ x => below n x
  | .fn _ xs => belows n xs
  | _ => true
def belows (n : Nat) : List Val → Bool
  | [] => true
  | x :: xs => below n x && belows n xs
end
def cellBelow (n : Nat) : Cell → Bool
  | .lst xs => belows n xs
  | .dic es => belows n (es.map (·.2))
  | .dit es => belows n (es.map (·.2))
  | .ins _ fs => belows n (fs.map (·.2))
/-- a store whose cells speak of cells of it alone -/
def closed (n : Nat) (st : Store) : Bool := st.all (cellBelow n)
mutual
def eqVal : Val → Val → Bool
  | .non, y => (match y with | .non => true | _ => false)
  | .bl a, y => (match y with | .bl b => a == b | _ => false)
  | .int a, y => (match y with | .int b => decide (a = b) | _ => false)
  | .str a, y => (match y with | .str b => decide (a = b) | _ => false)
  | .tup xs, y => (match y with | .tup ys => eqVals xs ys | _ => false)
  | .ro xs, y => (match y with | .ro ys => eqVals xs ys | _ => false)
  | .wr xs, y => (match y with | .wr ys => eqVals xs ys | _ => false)
  | .rd ks xs, y => (match y with | .rd ls ys => decide (ks = ls) && eqVals xs ys | _ => false)
  | .ref n, y => (match y with | .ref m => decide (n = m) | _ => false)
  | .ty n, y => (match y with | .ty m => decide (n = m) | _ => false)
  | .gl n, y => (match y with | .gl m => decide (n = m) | _ => false)
  | .ex0 n, y => (match y with | .ex0 m => decide (n = m) | _ => false)
  | .ex1 n f x, y => (match y with | .ex1 m g z => decide (n = m) && decide (f = g) && eqVal x z | _ => false)
  | .fn n xs, y => (match y with | .fn m ys => decide (n = m) && eqVals xs ys | _ => false)
def eqVals : List Val → List Val → Bool
  | [], ys => ys.isEmpty
  | x :: xs, ys => (match ys with | y :: ys => eqVal x y && eqVals xs ys | [] => false)
end
mutual
theorem eqVal_eq : ∀ {x y : Val}, eqVal x y = true → x = y
  | .non, y, h => by unfold eqVal at h; split at h <;> first | rfl | cases h
  | .bl a, y, h => by unfold eqVal at h; split at h <;> first | (rw [eq_of_beq h]) | cases h
  | .int a, y, h => by unfold eqVal at h; split at h <;> first | (rw [of_decide_eq_true h]) | cases h
  | .str a, y, h => by unfold eqVal at h; split at h <;> first | (rw [of_decide_eq_true h]) | cases h
  | .tup xs, y, h => by unfold eqVal at h; split at h <;> first | (rw [eqVals_eq h]) | cases h
  | .ro xs, y, h => by unfold eqVal at h; split at h <;> first | (rw [eqVals_eq h]) | cases h
  | .wr xs, y, h => by unfold eqVal at h; split at h <;> first | (rw [eqVals_eq h]) | cases h
  | .rd ks xs, y, h => by
    unfold eqVal at h; split at h
    · obtain ⟨h1, h2⟩ := Bool.and_eq_true_iff.mp h
      rw [of_decide_eq_true h1, eqVals_eq h2]
    · cases h
  | .ref n, y, h => by unfold eqVal at h; split at h <;> first | (rw [of_decide_eq_true h]) | cases h
  | .ty n, y, h => by unfold eqVal at h; split at h <;> first | (rw [of_decide_eq_true h]) | cases h
  | .gl n, y, h => by unfold eqVal at h; split at h <;> first | (rw [of_decide_eq_true h]) | cases h
  | .ex0 n, y, h => by unfold eqVal at h; split at h <;> first | (rw [of_decide_eq_true h]) | cases h
  | .ex1 n f x, y, h => by
    unfold eqVal at h; split at h
    · obtain ⟨h1, h2⟩ := Bool.and_eq_true_iff.mp h
      obtain ⟨h3, h4⟩ := Bool.and_eq_true_iff.mp h1
      rw [of_decide_eq_true h3, of_decide_eq_true h4, eqVal_eq h2]
    · cases h
  | .fn n xs, y, h => by
    unfold eqVal at h; split at h
    · obtain ⟨h1, h2⟩ := Bool.and_eq_true_iff.mp h
      rw [of_decide_eq_true h1, eqVals_eq h2]
    · cases h
theorem eqVals_eq : ∀ {xs ys : List Val}, eqVals xs ys = true → xs = ys
  | [], ys, h => by
    unfold eqVals at h
    cases ys with
    | nil => rfl
    | cons _ _ => cases h
  | x :: xs, ys, h => by
    unfold eqVals at h
    split at h
    · obtain ⟨h1, h2⟩ := Bool.and_eq_true_iff.mp h
      rw [eqVal_eq h1, eqVals_eq h2]
    · cases h
end
mutual
theorem eqVal_refl : ∀ x : Val, eqVal x x = true
  | .non => rfl
  | .bl a => by simp [eqVal]
  | .int a => by simp [eqVal]
  | .str a => by simp [eqVal]
  | .tup xs => eqVals_refl xs
  | .ro xs => eqVals_refl xs
  | .wr xs => eqVals_refl xs
  | .rd ks xs => by simp [eqVal, eqVals_refl xs]
  | .ref n => by simp [eqVal]
  | .ty n => by simp [eqVal]
  | .gl n => by simp [eqVal]
  | .ex0 n => by simp [eqVal]
  | .ex1 n f x => by simp [eqVal, eqVal_refl x]
  | .fn n xs => by simp [eqVal, eqVals_refl xs]
theorem eqVals_refl : ∀ xs : List Val, eqVals xs xs = true
  | [] => rfl
  | x :: xs => by simp [eqVals, eqVal_refl x, eqVals_refl xs]
end
mutual
/-- a thing with its new lists and dicts frozen -/
def frzV (lk : Nat → Option Val) : Val → Option Val
  | .ref p => lk p
  | .tup xs => (match frzVs lk xs with
    | some ys => some (.tup ys)
    | none => none)
  | .ro xs => (match frzVs lk xs with
    | some ys => some (.ro ys)
    | none => none)
  | .wr xs => (match frzVs lk xs with
    | some ys => some (.wr ys)
    | none => none)
  | .rd ks xs => (match frzVs lk xs with
    | some ys => some (.rd ks ys)
    | none => none)
  | .ex1 C f x => (match frzV lk x with
    | some y => some (.ex1 C f y)
    | none => none)
  | .fn C xs => (match frzVs lk xs with
    | some ys => bif eqVals xs ys then some (.fn C ys) else none
    | none => none)
  | x => some x
def frzVs (lk : Nat → Option Val) : List Val → Option (List Val)
  | [] => some []
  | x :: xs => (match frzV lk x, frzVs lk xs with
    | some y, some ys => some (y :: ys)
    | _, _ => none)
end
def frzN (n : Nat) (st : Store) : Nat → Nat → Option Val
  | 0, p => bif Nat.blt p n then some (.ref p) else none
  | m + 1, p => bif Nat.blt p n then some (.ref p) else (match st[p]? with
    | some (.lst xs) => (match frzVs (frzN n st m) xs with
      | some ys => some (.ro ys)
      | none => none)
    | some (.dic es) => (match frzVs (frzN n st m) (es.map (·.2)) with
      | some ys => some (.rd (es.map (·.1)) ys)
      | none => none)
    | _ => none)
def frz (n : Nat) (st : Store) (x : Val) : Option Val := frzV (frzN n st deepN) x
def eqPairs {κ : Type} [DecidableEq κ] (xs ys : List (κ × Val)) : Bool := decide (xs.map (·.1) = ys.map (·.1)) && eqVals (xs.map (·.2)) (ys.map (·.2))
theorem eqPairs_eq {κ : Type} [DecidableEq κ] : ∀ {xs ys : List (κ × Val)}, eqPairs xs ys = true → xs = ys
  | [], [], _ => rfl
  | [], y :: ys, h => by simp [eqPairs, eqVals] at h
  | x :: xs, [], h => by simp [eqPairs, eqVals] at h
  | (k, x) :: xs, (l, y) :: ys, h => by
    unfold eqPairs at h
    obtain ⟨h1, h2⟩ := Bool.and_eq_true_iff.mp h
    have h1 := of_decide_eq_true h1
    rw [List.map_cons, List.map_cons] at h1 h2
    obtain ⟨e1, e2⟩ := List.cons.inj h1
    have e3 := eqVals_eq h2
    obtain ⟨e4, e5⟩ := List.cons.inj e3
    have r := eqPairs_eq (xs := xs) (ys := ys) (by unfold eqPairs; rw [decide_eq_true e2, e5, eqVals_refl]; rfl)
    have e1' : k = l := e1
    have e4' : x = y := e4
    rw [e1', e4', r]
theorem eqPairs_refl {κ : Type} [DecidableEq κ] (xs : List (κ × Val)) : eqPairs xs xs = true := by
  unfold eqPairs
  rw [eqVals_refl, decide_eq_true rfl]
  rfl
def eqCell : Cell → Cell → Bool
  | .lst xs, y => (match y with | .lst ys => eqVals xs ys | _ => false)
  | .dic es, y => (match y with | .dic fs => eqPairs es fs | _ => false)
  | .dit es, y => (match y with | .dit fs => eqPairs es fs | _ => false)
  | .ins C es, y => (match y with | .ins D fs => decide (C = D) && eqPairs es fs | _ => false)
theorem eqCell_eq {x y : Cell} (h : eqCell x y = true) : x = y := by
  unfold eqCell at h
  split at h <;> split at h <;> first
    | (rw [eqVals_eq h]; done)
    | (rw [eqPairs_eq h]; done)
    | (obtain ⟨h1, h2⟩ := Bool.and_eq_true_iff.mp h; rw [of_decide_eq_true h1, eqPairs_eq h2]; done)
    | cases h
theorem eqCell_refl (x : Cell) : eqCell x x = true := by
  cases x <;> simp [eqCell, eqVals_refl, eqPairs_refl]
def eqStore : Store → Store → Bool
  | [], ys => ys.isEmpty
  | x :: xs, ys => (match ys with | y :: ys => eqCell x y && eqStore xs ys | [] => false)
theorem eqStore_eq : ∀ {xs ys : Store}, eqStore xs ys = true → xs = ys
  | [], ys, h => by
    unfold eqStore at h
    cases ys with
    | nil => rfl
    | cons _ _ => cases h
  | x :: xs, ys, h => by
    unfold eqStore at h
    split at h
    · obtain ⟨h1, h2⟩ := Bool.and_eq_true_iff.mp h
      rw [eqCell_eq h1, eqStore_eq h2]
    · cases h
theorem eqStore_refl : ∀ xs : Store, eqStore xs xs = true
  | [] => rfl
  | x :: xs => by simp [eqStore, eqCell_refl x, eqStore_refl xs]
/-- what is left of the store that a def began with -/
def leftB (st0 st : Store) : Bool := eqStore (st.take st0.length) st0 || closed st0.length (st.take st0.length)
theorem leftB_same {st0 st : Store} (h : st.take st0.length = st0) : leftB st0 st = true := by
  unfold leftB
  rw [h, eqStore_refl]
  rfl
/-- the end of a def: what was made within is given up, where that can be -/
def retV (st0 : Store) (x : Val) (st : Store) : Val × Store := match frz st0.length st x with
  | some y => bif leftB st0 st then (y, st.take st0.length) else (x, st)
  | none => (x, st)
def retX (st0 : Store) (x : XV) (st : Store) : XV × Store := match x with
  | (c, none) => bif leftB st0 st then ((c, none), st.take st0.length) else ((c, none), st)
  | (c, some (f, v)) => (match frz st0.length st v with
    | some y => bif leftB st0 st then ((c, some (f, y)), st.take st0.length) else ((c, some (f, v)), st)
    | none => ((c, some (f, v)), st))
def retF (z : Bool) (st0 : Store) (r : S) : R Val := match r with
  | .rt x st => bif z then .ok (retV st0 x st).1 (retV st0 x st).2 else .ok x st
  | .nx _ st => bif z then .ok (retV st0 .non st).1 (retV st0 .non st).2 else .ok .non st
  | .ex x _ st => bif z then .exc (retX st0 x st).1 (retX st0 x st).2 else .exc x st
  | _ => .bad
section
variable {K : KZ} {fr fr0 : Addr → Prop} {H H0 : Hp} {ms ms0 : List Addr} {st : Store} {n : Nat}
/-- what is frozen when a def gives up what it made -/
def frF (fr : Addr → Prop) (ms : List Addr) (n : Nat) : Addr → Prop := fun a => fr a ∨ a ∈ ms.drop n
mutual
theorem VR.blw : ∀ {x : Val} {v : V}, below n x = true → VR K fr H ms v x → VR K (frF fr ms n) H (ms.take n) v x
  | .non, _, _, r => by cases r; exact .non
  | .bl b, _, _, r => by cases r; exact .bl b
  | .int i, _, _, r => by cases r; exact .int i
  | .str z, _, _, r => by cases r; exact .str z
  | .ty z, _, _, r => by cases r; exact .ty z
  | .gl a, _, _, r => by cases r; exact .gl a
  | .ex0 a, _, _, r => by
    cases r with
    | ex0 h => exact .ex0 h
  | .ex1 a f x, _, h, r => by
    cases r with
    | ex1 h1 h2 r => exact .ex1 h1 h2 (VR.blw (by simpa [FL.below] using h) r)
  | .fn a xs, _, h, r => by
    cases r with
    | fn a i c k b => exact .fn a i c k (VRs.blws (by simpa [FL.below] using h) b)
  | .ref p, _, h, r => by
    cases r with
    | ref e =>
      have hp : p < n := by simpa [FL.below] using h
      exact .ref (by rw [List.getElem?_take, if_pos hp]; exact e)
  | .tup xs, _, h, r => by
    cases r with
    | tup a b => exact .tup a (VRs.blws (by simpa [FL.below] using h) b)
  | .ro xs, _, h, r => by
    cases r with
    | ro a f b => exact .ro a (.inl f) (VRs.blws (by simpa [FL.below] using h) b)
  | .wr xs, _, h, r => by
    cases r with
    | wr a b => exact .wr a (VRs.blws (by simpa [FL.below] using h) b)
  | .rd ks xs, _, h, r => by
    cases r with
    | rd a l f b => exact .rd a l (.inl f) (VRs.blws (by simpa [FL.below] using h) b)
theorem VRs.blws : ∀ {xs : List Val} {vs : List V}, belows n xs = true → VRs K fr H ms vs xs → VRs K (frF fr ms n) H (ms.take n) vs xs
  | [], _, _, r => by cases r; exact .nil
  | x :: xs, _, h, r => by
    cases r with
    | cons a b =>
      have h' := Bool.and_eq_true_iff.mp (show (FL.below n x && FL.belows n xs) = true by simpa [FL.belows] using h)
      exact .cons (VR.blw h'.1 a) (VRs.blws h'.2 b)
end
theorem VRk.blws {κ : Type} : ∀ {es : List (κ × Val)} {ws : List (κ × V)}, FL.belows n (es.map (·.2)) = true → VRk K fr H ms ws es → VRk K (frF fr ms n) H (ms.take n) ws es
  | _, _, _, .nil => .nil
  | (_, x) :: xs, _, h, .cons a b => by
    have h' := Bool.and_eq_true_iff.mp (show (FL.below n x && FL.belows n (xs.map (·.2))) = true by simpa [FL.belows] using h)
    exact .cons (VR.blw h'.1 a) (VRk.blws h'.2 b)
theorem CR.blw {p : Addr} : ∀ {c : Cell}, cellBelow n c = true → CR K fr H ms p c → CR K (frF fr ms n) H (ms.take n) p c
  | .lst _, h, ⟨ws, a, b⟩ => ⟨ws, a, VRs.blws h b⟩
  | .dic _, h, ⟨ws, a, b⟩ => ⟨ws, a, VRk.blws h b⟩
  | .dit _, h, ⟨ws, a, b⟩ => ⟨ws, a, VRk.blws h b⟩
  | .ins _ _, h, ⟨dx, ws, a, d, b⟩ => ⟨dx, ws, a, d, VRk.blws h b⟩
theorem VRk.vals : ∀ {es : List (Key × Val)} {ws : List (Key × V)}, VRk K fr H ms ws es → VRs K fr H ms (ws.map (·.2)) (es.map (·.2))
  | _, _, .nil => .nil
  | _, _, .cons a b => .cons a (VRk.vals b)
theorem zip_fst_snd {α β : Type} : ∀ l : List (α × β), (l.map (·.1)).zip (l.map (·.2)) = l
  | [] => rfl
  | p :: r => by
    rw [List.map_cons, List.map_cons, List.zip_cons_cons, zip_fst_snd r]
def FkOk (K : KZ) (fr : Addr → Prop) (H : Hp) (ms : List Addr) (n : Nat) (lk : Nat → Option Val) : Prop := ∀ p y v, lk p = some y → VR K fr H ms v (.ref p) → VR K (frF fr ms n) H (ms.take n) v y
mutual
theorem frzV_at {lk : Nat → Option Val} (s : FkOk K fr H ms n lk) : ∀ {x y : Val} {v : V}, frzV lk x = some y → VR K fr H ms v x → VR K (frF fr ms n) H (ms.take n) v y
  | .ref p, y, v, h, r => by unfold frzV at h; exact s p _ _ h r
  | .tup xs, _, _, h, r => by
    unfold frzV at h
    split at h
    · next ys hy =>
      cases h
      cases r with
      | tup a b => exact .tup a (frzVs_at s hy b)
    · cases h
  | .ro xs, _, _, h, r => by
    unfold frzV at h
    split at h
    · next ys hy =>
      cases h
      cases r with
      | ro a f b => exact .ro a (.inl f) (frzVs_at s hy b)
    · cases h
  | .wr xs, _, _, h, r => by
    unfold frzV at h
    split at h
    · next ys hy =>
      cases h
      cases r with
      | wr a b => exact .wr a (frzVs_at s hy b)
    · cases h
  | .rd ks xs, _, _, h, r => by
    unfold frzV at h
    split at h
    · next ys hy =>
      cases h
      cases r with
      | rd a l f b => exact .rd a l (.inl f) (frzVs_at s hy b)
    · cases h
  | .ex1 C f x, _, _, h, r => by
    unfold frzV at h
    split at h
    · next y hy =>
      cases h
      cases r with
      | ex1 a l r => exact .ex1 a l (frzV_at s hy r)
    · cases h
  | .fn C xs, _, _, h, r => by
    unfold frzV at h
    split at h
    · next ys hy =>
      cases e : eqVals xs ys with
      | true =>
        rw [e] at h
        cases h
        cases r with
        | fn a i c k b => exact .fn a i c k (frzVs_at s hy b)
      | false =>
        rw [e] at h
        cases h
    · cases h
  | .ex0 C, _, _, h, r => by
    unfold frzV at h
    cases h
    cases r with
    | ex0 a => exact .ex0 a
  | .non, _, _, h, r => by unfold frzV at h; cases h; cases r; exact .non
  | .bl b, _, _, h, r => by unfold frzV at h; cases h; cases r; exact .bl b
  | .int i, _, _, h, r => by unfold frzV at h; cases h; cases r; exact .int i
  | .str z, _, _, h, r => by unfold frzV at h; cases h; cases r; exact .str z
  | .ty z, _, _, h, r => by unfold frzV at h; cases h; cases r; exact .ty z
  | .gl z, _, _, h, r => by unfold frzV at h; cases h; cases r; exact .gl z
theorem frzVs_at {lk : Nat → Option Val} (s : FkOk K fr H ms n lk) : ∀ {xs ys : List Val} {vs : List V}, frzVs lk xs = some ys → VRs K fr H ms vs xs → VRs K (frF fr ms n) H (ms.take n) vs ys
  | [], _, _, h, r => by unfold frzVs at h; cases h; cases r; exact .nil
  | x :: xs, _, _, h, r => by
    unfold frzVs at h
    split at h
    · next d ds h1 h2 =>
      cases h
      cases r with
      | cons a b => exact .cons (frzV_at s h1 a) (frzVs_at s h2 b)
    · cases h
end
theorem frzN_low {p : Nat} {y : Val} {v : V} (hb : Nat.blt p n = true) (h : some (Val.ref p) = some y) (r : VR K fr H ms v (.ref p)) : VR K (frF fr ms n) H (ms.take n) v y := by
  cases h
  obtain ⟨a, rfl, hm⟩ := vr_ref r
  exact .ref (by rw [List.getElem?_take, if_pos (show p < n from Nat.le_of_ble_eq_true hb)]; exact hm)
theorem frzN_ok (s : SR K fr H ms st) (hn : n ≤ ms.length) : ∀ m : Nat, FkOk K fr H ms n (frzN n st m)
  | 0 => fun p y v h r => by
    unfold frzN at h
    cases hb : Nat.blt p n with
    | true =>
      rw [hb] at h
      exact frzN_low hb h r
    | false =>
      rw [hb] at h
      cases h
  | m + 1 => fun p y v h r => by
    unfold frzN at h
    cases hb : Nat.blt p n with
    | true =>
      rw [hb] at h
      exact frzN_low hb h r
    | false =>
      rw [hb] at h
      obtain ⟨a, rfl, hm⟩ := vr_ref r
      have hp : n ≤ p := Nat.le_of_not_lt fun z => by
        have : Nat.blt p n = true := Nat.ble_eq_true_of_le z
        rw [hb] at this
        cases this
      have hd : a ∈ ms.drop n := by
        refine List.mem_of_getElem? (i := p - n) ?_
        rw [List.getElem?_drop, Nat.add_sub_cancel' hp]
        exact hm
      dsimp only [cond_false] at h
      split at h
      · next xs hc =>
        split at h
        · next ys hy =>
          cases h
          obtain ⟨ws, h1, h2⟩ := s.cell p a _ hm hc
          exact .ro h1 (.inr hd) (frzVs_at (frzN_ok s hn m) hy h2)
        · cases h
      · next es hc =>
        split at h
        · next ys hy =>
          cases h
          obtain ⟨ws, h1, h2⟩ := s.cell p a _ hm hc
          refine .rd (ws := ws.map (·.2)) ?_ ?_ (.inr hd) (frzVs_at (frzN_ok s hn m) hy h2.vals)
          · rw [← h2.keys, zip_fst_snd]
            exact h1
          · rw [List.length_map, List.length_map, h2.length]
        · cases h
      · cases h
theorem frz_at (s : SR K fr H ms st) (hn : n ≤ ms.length) {x y : Val} {v : V} (h : frz n st x = some y) (r : VR K fr H ms v x) : VR K (frF fr ms n) H (ms.take n) v y := frzV_at (frzN_ok s hn _) h r
mutual
theorem VR.low : ∀ {v : V} {x : Val}, VR K fr H ms v x → FL.below ms.length x = true
  | _, _, .non => rfl
  | _, _, .bl b => rfl
  | _, _, .int i => rfl
  | _, _, .str x => rfl
  | _, _, .tup h r => VRs.lows r
  | _, _, .ro h f r => VRs.lows r
  | _, _, .wr h r => VRs.lows r
  | _, _, .rd h l f r => VRs.lows r
  | _, _, .ref h => Nat.ble_eq_true_of_le (List.getElem?_eq_some_iff.mp h).1
  | _, _, .ty n => rfl
  | _, _, .gl a => rfl
  | _, _, .ex0 h => rfl
  | _, _, .ex1 _ _ r => (VR.low r :)
  | _, _, .fn _ _ _ _ r => (VRs.lows r :)
theorem VRs.lows : ∀ {v : List V} {x : List Val}, VRs K fr H ms v x → FL.belows ms.length x = true
  | _, _, .nil => rfl
  | _, _, .cons a b => by
    show (FL.below ms.length _ && FL.belows ms.length _) = true
    rw [VR.low a, VRs.lows b]
    rfl
end
theorem VRk.lows {κ : Type} : ∀ {es : List (κ × Val)} {ws : List (κ × V)}, VRk K fr H ms ws es → FL.belows ms.length (es.map (·.2)) = true
  | _, _, .nil => rfl
  | _, _, .cons a b => by
    show (FL.below ms.length _ && FL.belows ms.length _) = true
    rw [VR.low a, VRk.lows b]
    rfl
theorem CR.low {p : Addr} : ∀ {c : Cell}, CR K fr H ms p c → cellBelow ms.length c = true
  | .lst _, ⟨_, _, r⟩ => r.lows
  | .dic _, ⟨_, _, r⟩ => r.lows
  | .dit _, ⟨_, _, r⟩ => r.lows
  | .ins _ _, ⟨_, _, _, _, r⟩ => r.lows
theorem SR.allLow (s : SR K fr H ms st) : FL.closed st.length st = true := by
  refine List.all_eq_true.mpr fun c hc => ?_
  obtain ⟨i, hi, rfl⟩ := List.getElem_of_mem hc
  have hm : i < ms.length := by rw [s.len]; exact hi
  rw [← s.len]
  exact (s.cell i ms[i] st[i] (List.getElem?_eq_getElem hm) (List.getElem?_eq_getElem hi)).low
mutual
theorem VR.twice : ∀ {x : Val} {v : V}, VR K (frF (frF fr ms n) ms n) H (ms.take n) v x → VR K (frF fr ms n) H (ms.take n) v x
  | _, _, .non => .non
  | _, _, .bl b => .bl b
  | _, _, .int i => .int i
  | _, _, .str x => .str x
  | _, _, .tup h r => .tup h (VRs.twice r)
  | _, _, .ro h f r => .ro h (f.elim id .inr) (VRs.twice r)
  | _, _, .wr h r => .wr h (VRs.twice r)
  | _, _, .rd h l f r => .rd h l (f.elim id .inr) (VRs.twice r)
  | _, _, .ref h => .ref h
  | _, _, .ty n => .ty n
  | _, _, .gl a => .gl a
  | _, _, .ex0 h => .ex0 h
  | _, _, .ex1 h d r => .ex1 h d (VR.twice r)
  | _, _, .fn h i c k r => .fn h i c k (VRs.twice r)
theorem VRs.twice : ∀ {x : List Val} {v : List V}, VRs K (frF (frF fr ms n) ms n) H (ms.take n) v x → VRs K (frF fr ms n) H (ms.take n) v x
  | _, _, .nil => .nil
  | _, _, .cons a b => .cons (VR.twice a) (VRs.twice b)
end
theorem SR.give (s : SR K fr H ms st) (hn : n ≤ ms.length) (hc : closed n (st.take n) = true) : SR K (frF fr ms n) H (ms.take n) (st.take n) := by
  have hdis : ∀ a ∈ ms.take n, a ∉ ms.drop n := fun a h1 h2 => by
    have nd := s.nd
    rw [← List.take_append_drop n ms, List.nodup_append] at nd
    exact nd.2.2 a h1 a h2 rfl
  refine ⟨by rw [List.length_take, List.length_take, s.len], s.nd.sublist (List.take_sublist n ms), fun i a c h1 h2 => ?_, fun a h => ?_, fun a h => ?_, s.tab⟩
  · have h1' : ms[i]? = some a := by
      rw [List.getElem?_take] at h1
      split at h1
      · exact h1
      · cases h1
    have h2' : st[i]? = some c := by
      rw [List.getElem?_take] at h2
      split at h2
      · exact h2
      · cases h2
    exact CR.blw (List.all_eq_true.mp hc c (List.mem_of_getElem? h2)) (s.cell i a c h1' h2')
  · exact fun z => z.elim (s.nfr a (List.mem_of_mem_take h)) (hdis a h)
  · rcases h with h | h
    · exact s.lo a h
    · exact s.ow (List.mem_of_mem_drop h)
theorem Ext.give (e : Ext ms0.length fr0 H0 ms0 fr H ms) : Ext ms0.length fr0 H0 ms0 (frF fr ms ms0.length) H (ms.take ms0.length) :=
  ⟨by rw [List.take_take, Nat.min_self]; exact e.pre, e.keep, e.there, fun a h => e.tk a (List.mem_of_mem_take h), fun a h => .inl (e.frk a h), fun a h => by
    rcases h with h | h
    · exact e.frn a h
    · rcases e.tk a (List.mem_of_mem_drop h) with q | q
      · exact .inr (.inr q)
      · exact .inr (.inl q)⟩
theorem left_cl {st0 st : Store} (s : SR K fr0 H0 ms0 st0) (h : leftB st0 st = true) : FL.closed st0.length (st.take st0.length) = true := by
  rcases Bool.or_eq_true_iff.mp h with h | h
  · rw [eqStore_eq h]
    exact s.allLow
  · exact h
/-- the end of a def, seen from its start -/
theorem ret_rt {st0 : Store} {Q : VK} {x : Val} {v : V} (s0 : SR K fr0 H0 ms0 st0) (q : QV K fr0 H0 ms0 (retV st0 x st).1 (retV st0 x st).2 Q) (e : Ext ms0.length fr0 H0 ms0 fr H ms) (s : SR K fr H ms st) (r : VR K fr H ms v x) : Q v H := by
  unfold retV at q
  split at q
  · next y hy =>
    cases hb : leftB st0 st with
    | true =>
      rw [hb] at q; dsimp only [cond_true] at q
      have hc := left_cl s0 hb
      rw [← s0.len] at hc hy q
      exact q _ _ _ _ e.give (s.give e.len hc) (frz_at s e.len hy r)
    | false =>
      rw [hb] at q; dsimp only [cond_false] at q
      exact q _ _ _ _ e s r
  · exact q _ _ _ _ e s r
end
/-! ### the running frame's captured cells, told to a callee -/
def invV : Value → Option V
  | .none => some .non
  | .bool b => some (.bl b)
  | .int i _ => some (.int i)
  | .str x _ => some (.str x)
  | .bytes b _ => some (.byt b)
  | .float b _ => some (.flt b)
  | .ref a => some (.ref a)
  | .type n => some (.ty n)
  | _ => none
theorem relV_inv {v : V} {u : Value} (h : L2.RelV v u) : invV u = some v := by
  cases v <;> simp only [L2.RelV] at h <;> first
    | (subst h; rfl)
    | (obtain ⟨t, rfl⟩ := h; rfl)
theorem relV_fun {v v' : V} {u : Value} (h : L2.RelV v u) (h' : L2.RelV v' u) : v = v' := Option.some.inj ((relV_inv h).symm.trans (relV_inv h'))
/-- the frame's captured cells are where they are told to be -/
structure ZOk (X : Cx) {Z : KS} (W : WZ Z) : Prop where
  at_ : ∀ c i, W.z c = some i → ∃ y, X.N[i]? = some y ∧ X.env.cells.lookup y = some c ∧ (X.env.scope.names.lookup y = some .cell ∨ X.env.scope.names.lookup y = some .free)
  nb : ∀ c i, W.z c = some i → X.base.get? c = none
  nf : ∀ c i, W.z c = some i → c ∉ X.fs
theorem ZOk.none {X : Cx} {Z : KS} {W : WZ Z} (h : W.z = fun _ => none) : ZOk X W :=
  ⟨fun c i e => (by rw [h] at e; cases e), fun c i e => (by rw [h] at e; cases e), fun c i e => (by rw [h] at e; cases e)⟩
def Hplus (g : Addr → Option V) (h : Heap) (H : Hp) : Hp := fun c => match g c, h.get? c with
  | some _, some o => some (CellO c o)
  | _, _ => H c
def Hminus (g : Addr → Option V) (H : Hp) : Hp := fun c => match g c with
  | some _ => none
  | none => H c
section
variable {g : Addr → Option V} {h : Heap} {H H' : Hp} {a c : Addr} {o : HO}
theorem hplus_off (e : g c = none) : Hplus g h H c = H c := by
  unfold Hplus
  rw [e]
theorem hminus_off (e : g c = none) : Hminus g H c = H c := by
  unfold Hminus
  rw [e]
theorem hminus_on {v : V} (e : g c = some v) : Hminus g H c = none := by
  unfold Hminus
  rw [e]
theorem hplus_on {v : V} {ob : Obj} (e : g c = some v) (e2 : h.get? c = some ob) : Hplus g h H c = some (CellO c ob) := by
  unfold Hplus
  rw [e, e2]
/-- the cells stand in the heap, untracked -/
def GOk (g : Addr → Option V) (h : Heap) (H : Hp) : Prop := ∀ c v, g c = some v → H c = none ∧ ∃ ob u, h.get? c = some ob ∧ ob.data = .cell (some u) ∧ L2.RelV v u
theorem hplus_keep (G : GOk g h H) (e : H a = some o) : Hplus g h H a = some o := by
  cases eg : g a with
  | none => rw [hplus_off eg]; exact e
  | some v =>
    rw [(G a v eg).1] at e
    cases e
theorem hplus_some (G : GOk g h H) (e : Hplus g h H a = some o) : H a = some o ∨ ∃ v ob, g a = some v ∧ h.get? a = some ob ∧ o = CellO a ob := by
  cases eg : g a with
  | none =>
    rw [hplus_off eg] at e
    exact .inl e
  | some v =>
    obtain ⟨n, ob, u, h1, h2, h3⟩ := G a v eg
    rw [hplus_on eg h1] at e
    cases e
    exact .inr ⟨v, ob, rfl, h1, rfl⟩
theorem hok_plus {P : Program} {w : World} (G : GOk g h H) (ok : HOk P w H h) : HOk P w (Hplus g h H) h := fun a o e => by
  rcases hplus_some G e with e | ⟨v, ob, eg, h1, rfl⟩
  · exact (ok a o e).stay (fun _ _ _ q => q) (fun b q => hplus_keep G q) fun b xs q => hplus_keep G q
  · exact ⟨h1, ⟨ob, h1⟩, ⟨ob, h1⟩, fun h1 h2 ⟨o', e⟩ st => ⟨o', st _ e⟩⟩
theorem hminus_some (e : Hminus g H a = some o) : H a = some o ∧ g a = none := by
  cases eg : g a with
  | none =>
    rw [hminus_off eg] at e
    exact ⟨e, rfl⟩
  | some v =>
    rw [hminus_on eg] at e
    cases e
theorem hok_minus {P : Program} {w : World} {h' : Heap} (ok : HOk P w H' h') (k : ∀ c v, g c = some v → ∃ ob, H' c = some (CellO c ob)) : HOk P w (Hminus g H') h' := fun a o e => by
  obtain ⟨e, eg⟩ := hminus_some e
  have ne : ∀ {b : Addr} {u : HO}, H' b = some u → (∀ ob, u ≠ CellO b ob) → Hminus g H' b = some u := fun {b u} q n => by
    cases eb : g b with
    | none => rw [hminus_off eb]; exact q
    | some v =>
      obtain ⟨ob, hb⟩ := k b v eb
      rw [q] at hb
      exact absurd (Option.some.inj hb) (n ob)
  exact (ok a o e).stay (fun _ _ _ q => q) (fun b q => ne q fun ob z => (by unfold CellO at z; cases z)) fun b xs q => ne q fun ob z => (by unfold CellO at z; cases z)
end
section
variable {K : KZ} {g : Addr → Option V} {h : Heap} {fr fr' : Addr → Prop} {H H' : Hp} {ms ms' : List Addr} {st : Store}
theorem kn_plus (G : GOk g h H) {cl : List (Str × Addr)} {fs : List Str} {vs : List V} (k : KnAll (K.gm g) H cl fs vs) : KnAll (K.gm fun _ => none) (Hplus g h H) cl fs vs :=
  ⟨k.len, fun i y v a b => let ⟨c, hc, hk⟩ := k.at_ i y v a b; ⟨c, hc, .inr (hk.elim (fun eg => let ⟨_, ob, u, h1, h2, h3⟩ := G c v eg; ⟨ob, u, hplus_on eg h1, h2, h3⟩) fun ⟨o, u, z, q⟩ => ⟨o, u, hplus_keep G z, q⟩)⟩, k.inj, k.sub⟩
theorem sqt_plus {Kf : PySem.W.Frag} (G : GOk g h H) {a : Addr} {xs : List V} (q : SqT Kf H a xs) : SqT Kf (Hplus g h H) a xs := by
  rcases q with (q | ⟨o, q⟩) | q
  · exact .inl (.inl (hplus_keep G q))
  · exact .inl (.inr ⟨o, hplus_keep G q⟩)
  · exact .inr q
theorem roa_plus {Kf : PySem.W.Frag} (G : GOk g h H) {a : Addr} {xs : List V} (q : RoA Kf H a xs) : RoA Kf (Hplus g h H) a xs := by
  rcases q with ⟨o, q⟩ | q
  · exact .inl ⟨o, hplus_keep G q⟩
  · exact .inr q
mutual
theorem VR.plus (G : GOk g h H) : ∀ {v : V} {x : Val}, VR (K.gm g) fr H ms v x → VR (K.gm fun _ => none) fr (Hplus g h H) ms v x
  | _, _, .non => .non
  | _, _, .bl b => .bl b
  | _, _, .int i => .int i
  | _, _, .str x => .str x
  | _, _, .tup h r => .tup (sqt_plus G h) (VRs.plus G r)
  | _, _, .ro h f r => .ro (hplus_keep G h) f (VRs.plus G r)
  | _, _, .wr h r => .wr (roa_plus G h) (VRs.plus G r)
  | _, _, .rd h l f r => .rd (hplus_keep G h) l f (VRs.plus G r)
  | _, _, .ref h => .ref h
  | _, _, .ty n => .ty n
  | _, _, .gl a => .gl a
  | _, _, .ex0 h => .ex0 (hplus_keep G h)
  | _, _, .ex1 h d r => .ex1 (hplus_keep G h) (hplus_keep G d) (VR.plus G r)
  | _, _, .fn h i c k r => .fn (hplus_keep G h) i (hplus_keep G c) (kn_plus G k) (VRs.plus G r)
theorem VRs.plus (G : GOk g h H) : ∀ {v : List V} {x : List Val}, VRs (K.gm g) fr H ms v x → VRs (K.gm fun _ => none) fr (Hplus g h H) ms v x
  | _, _, .nil => .nil
  | _, _, .cons a b => .cons (VR.plus G a) (VRs.plus G b)
end
theorem VRk.plus {κ : Type} (G : GOk g h H) : ∀ {vs : List (κ × V)} {xs : List (κ × Val)}, VRk (K.gm g) fr H ms vs xs → VRk (K.gm fun _ => none) fr (Hplus g h H) ms vs xs
  | _, _, .nil => .nil
  | _, _, .cons a b => .cons (a.plus G) (VRk.plus G b)
theorem CR.plus (G : GOk g h H) {p : Addr} : ∀ {c : Cell}, CR (K.gm g) fr H ms p c → CR (K.gm fun _ => none) fr (Hplus g h H) ms p c
  | .lst _, ⟨ws, a, b⟩ => ⟨ws, hplus_keep G a, b.plus G⟩
  | .dic _, ⟨ws, a, b⟩ => ⟨ws, hplus_keep G a, b.plus G⟩
  | .dit _, ⟨ws, a, b⟩ => ⟨ws, hplus_keep G a, b.plus G⟩
  | .ins _ _, ⟨dx, ws, a, d, b⟩ => ⟨dx, ws, hplus_keep G a, hplus_keep G d, b.plus G⟩
theorem tabs_plus (G : GOk g h H) {T : List NdefX.NTab} (t : NdefX.TabsN T H) : NdefX.TabsN T (Hplus g h H) := t.ext fun _ _ q => hplus_keep G q
theorem SR.plus (G : GOk g h H) (s : SR (K.gm g) fr H ms st) : SR (K.gm fun _ => none) fr (Hplus g h H) ms st :=
  ⟨s.len, s.nd, fun i a c x y => (s.cell i a c x y).plus G, s.nfr, fun a q => let ⟨o, e, ho⟩ := s.lo a q; ⟨o, hplus_keep G e, ho⟩, tabs_plus G s.tab⟩
/-- what stands behind the call: the cells as they were -/
def Kept (g : Addr → Option V) (h : Heap) (H' : Hp) : Prop := ∀ c v, g c = some v → ∃ ob u, h.get? c = some ob ∧ H' c = some (CellO c ob) ∧ ob.data = .cell (some u) ∧ L2.RelV v u
theorem kept_ext (G : GOk g h H) (s : SR (K.gm fun _ => none) fr (Hplus g h H) ms st) {n : Nat} (e : Ext n fr (Hplus g h H) ms fr' H' ms') : Kept g h H' := fun c v eg => by
  obtain ⟨n, ob, u, h1, h2, h3⟩ := G c v eg
  have q : Hplus g h H c = some (CellO c ob) := hplus_on eg h1
  exact ⟨ob, u, h1, e.keep c _ q (s.non q fun z => z) trivial, h2, h3⟩
theorem minus_keep (k : Kept g h H') {a : Addr} {o : HO} (e : H' a = some o) (n : ∀ ob, o ≠ CellO a ob) : Hminus g H' a = some o := by
  cases eg : g a with
  | none => rw [hminus_off eg]; exact e
  | some v =>
    obtain ⟨ob, u, h1, h2, _⟩ := k a v eg
    rw [e] at h2
    exact absurd (Option.some.inj h2) (n ob)
theorem cellO_fz {a : Addr} {ob o : Obj} {xs : List V} : HO.frz o (.lst xs) ≠ CellO a ob := fun z => by
  unfold CellO at z
  injection z with z1 z2
  cases z2
theorem cellO_ft {a : Addr} {ob o : Obj} {xs : List V} : HO.frz o (.tup xs) ≠ CellO a ob := fun z => by
  unfold CellO at z
  injection z with z1 z2
  cases z2
theorem cellO_ext {a : Addr} {ob : Obj} {φ : Heap → Prop} : HO.ext φ ≠ CellO a ob := fun z => by
  unfold CellO at z
  cases z
theorem kn_minus (k : Kept g h H') {cl : List (Str × Addr)} {fs : List Str} {vs : List V} (q : KnAll (K.gm fun _ => none) H' cl fs vs) : KnAll (K.gm g) (Hminus g H') cl fs vs :=
  ⟨q.len, fun i y v a b => by
    obtain ⟨c, hc, hk⟩ := q.at_ i y v a b
    refine ⟨c, hc, ?_⟩
    rcases hk with hk | ⟨o, u, h1, h2, h3⟩
    · cases hk
    · cases eg : g c with
      | none => exact .inr ⟨o, u, by rw [hminus_off eg]; exact h1, h2, h3⟩
      | some v0 =>
        obtain ⟨ob, u0, k1, k2, k3, k4⟩ := k c v0 eg
        rw [h1] at k2
        have z : CellO c o = CellO c ob := Option.some.inj k2
        unfold CellO at z
        injection z with z1 _
        subst z1
        rw [h2] at k3
        cases k3
        left
        show g c = some v
        rw [eg, relV_fun k4 h3], q.inj, q.sub⟩
theorem sqt_minus {Kf : PySem.W.Frag} (k : Kept g h H') {a : Addr} {xs : List V} (q : SqT Kf H' a xs) : SqT Kf (Hminus g H') a xs := by
  rcases q with (q | ⟨o, q⟩) | q
  · exact .inl (.inl (minus_keep k q fun ob z => (by unfold CellO at z; cases z)))
  · exact .inl (.inr ⟨o, minus_keep k q fun ob => cellO_ft⟩)
  · exact .inr q
theorem roa_minus {Kf : PySem.W.Frag} (k : Kept g h H') {a : Addr} {xs : List V} (q : RoA Kf H' a xs) : RoA Kf (Hminus g H') a xs := by
  rcases q with ⟨o, q⟩ | q
  · exact .inl ⟨o, minus_keep k q fun ob => cellO_fz⟩
  · exact .inr q
mutual
theorem VR.minus (k : Kept g h H') : ∀ {v : V} {x : Val}, VR (K.gm fun _ => none) fr H' ms v x → VR (K.gm g) fr (Hminus g H') ms v x
  | _, _, .non => .non
  | _, _, .bl b => .bl b
  | _, _, .int i => .int i
  | _, _, .str x => .str x
  | _, _, .tup h r => .tup (sqt_minus k h) (VRs.minus k r)
  | _, _, .ro h f r => .ro (minus_keep k h fun ob z => (by unfold CellO at z; cases z)) f (VRs.minus k r)
  | _, _, .wr h r => .wr (roa_minus k h) (VRs.minus k r)
  | _, _, .rd h l f r => .rd (minus_keep k h fun ob z => (by unfold CellO at z; cases z)) l f (VRs.minus k r)
  | _, _, .ref h => .ref h
  | _, _, .ty n => .ty n
  | _, _, .gl a => .gl a
  | _, _, .ex0 h => .ex0 (minus_keep k h fun ob => cellO_ext)
  | _, _, .ex1 h d r => .ex1 (minus_keep k h fun ob => cellO_ext) (minus_keep k d fun ob z => (by unfold CellO at z; cases z)) (VR.minus k r)
  | _, _, .fn h i c q r => .fn (minus_keep k h fun ob => cellO_ext) i (minus_keep k c fun ob => cellO_ext) (kn_minus k q) (VRs.minus k r)
theorem VRs.minus (k : Kept g h H') : ∀ {v : List V} {x : List Val}, VRs (K.gm fun _ => none) fr H' ms v x → VRs (K.gm g) fr (Hminus g H') ms v x
  | _, _, .nil => .nil
  | _, _, .cons a b => .cons (VR.minus k a) (VRs.minus k b)
end
theorem VRk.minus {κ : Type} (k : Kept g h H') : ∀ {vs : List (κ × V)} {xs : List (κ × Val)}, VRk (K.gm fun _ => none) fr H' ms vs xs → VRk (K.gm g) fr (Hminus g H') ms vs xs
  | _, _, .nil => .nil
  | _, _, .cons a b => .cons (a.minus k) (VRk.minus k b)
theorem CR.minus (k : Kept g h H') {p : Addr} : ∀ {c : Cell}, CR (K.gm fun _ => none) fr H' ms p c → CR (K.gm g) fr (Hminus g H') ms p c
  | .lst _, ⟨ws, a, b⟩ => ⟨ws, minus_keep k a fun ob z => (by unfold CellO at z; cases z), b.minus k⟩
  | .dic _, ⟨ws, a, b⟩ => ⟨ws, minus_keep k a fun ob z => (by unfold CellO at z; cases z), b.minus k⟩
  | .dit _, ⟨ws, a, b⟩ => ⟨ws, minus_keep k a fun ob z => (by unfold CellO at z; cases z), b.minus k⟩
  | .ins _ _, ⟨dx, ws, a, d, b⟩ => ⟨dx, ws, minus_keep k a fun ob z => (by unfold CellO at z; cases z), minus_keep k d fun ob z => (by unfold CellO at z; cases z), b.minus k⟩
theorem tabs_minus (k : Kept g h H') {T : List NdefX.NTab} (t : NdefX.TabsN T H') : NdefX.TabsN T (Hminus g H') := fun p hp => by
  obtain ⟨ps, h1, h2, h3⟩ := t p hp
  refine ⟨ps, minus_keep k h1 fun ob z => (by unfold CellO at z; cases z), h2, fun pos cv hc => ?_⟩
  obtain ⟨c, e1, e2⟩ := h3 pos cv hc
  exact ⟨c, e1, minus_keep k e2 fun ob => cellO_ext⟩
theorem SR.minus (k : Kept g h H') (s : SR (K.gm fun _ => none) fr' H' ms' st) : SR (K.gm g) fr' (Hminus g H') ms' st :=
  ⟨s.len, s.nd, fun i a c x y => (s.cell i a c x y).minus k, s.nfr, fun a q => let ⟨o, e, ho⟩ := s.lo a q; ⟨o, minus_keep k e fun ob z => (by rw [z] at ho; exact ho), ho⟩, tabs_minus k s.tab⟩
theorem Ext.minus (G : GOk g h H) (k : Kept g h H') (e : Ext ms.length fr (Hplus g h H) ms fr' H' ms') : Ext ms.length fr H ms fr' (Hminus g H') ms' := by
  have un : ∀ {c : Addr}, Hplus g h H c = none → H c = none := fun {c} q => by
    cases z : H c with
    | none => rfl
    | some o =>
      rw [hplus_keep G z] at q
      cases q
  have mn : ∀ {c : Addr}, H c ≠ none → g c = none := fun {c} q => by
    cases z : g c with
    | none => rfl
    | some v => exact absurd (G c v z).1 q
  refine ⟨e.pre, fun a o q n b => ?_, fun a q => ?_, fun a q => (e.tk a q).imp id un, e.frk, fun a q => (e.frn a q).imp id fun z => z.imp un id⟩
  · rw [hminus_off (mn (by rw [q]; simp))]
    exact e.keep a o (hplus_keep G q) n b
  · rw [hminus_off (mn q)]
    refine e.there a ?_
    cases z : H a with
    | none => exact absurd z q
    | some o => rw [hplus_keep G z]; simp
end
/-- what a call comes to, seen by its caller -/
def spF (K : KZ) (F : List Val → Store → R Val) : Sp := fun vs H Q E => ∃ fr ms st xs, SR K fr H ms st ∧ VRs K fr H ms vs xs ∧ G K (fun c d _ H => E c d H) [] fr H ms (F xs st) (PV K Q)
abbrev k0 (K : PySem.W.Frag) (Z : KS) : KZ := ⟨K, Z, fun _ => none⟩
structure FnF (Z : KS) (P : Program) (w : World) (K : PySem.W.Frag) (mg : Str → Option Value) (base : Heap) (lv : Nat) (f : Addr) (fd : FuncData) (ps : List Str) (F : List Val → Store → R Val) : Prop where
  len : ∀ xs st, F xs st ≠ .bad → xs.length = ps.length
  go : ∀ (A : Around) (outer : List PySem.Env) (s : Shared) (H : Hp) (args : Args) (us : List Value) (vs : List V) (Q : VK) (E : XK), Room lv A → A.guards = some [] → Env0 P w K mg base A outer s H → BindsTo s fd args (ps.zip us) →
    Vals vs us → spF (k0 K Z) F vs H Q E → codeAny (model P w) A (.call (.ref f) args) (L2.CR (L2.CX P w) outer P w H s Q E) s
theorem FnF.mono {Z : KS} {P : Program} {w : World} {K : PySem.W.Frag} {mg : Str → Option Value} {base : Heap} {j lv : Nat} {f : Addr} {fd : FuncData} {ps : List Str} {F : List Val → Store → R Val} (h0 : FnF Z P w K mg base j f fd ps F) (h : j ≤ lv) : FnF Z P w K mg base lv f fd ps F :=
  ⟨h0.len, fun A outer s H args us vs Q E hr => h0.go A outer s H args us vs Q E (hr.mono h)⟩
theorem G.nb {K : KZ} {W : WX} {σ : L2.St} {fr : Addr → Prop} {H : Hp} {ms : List Addr} {α : Type} {r : R α} {P : α → (Addr → Prop) → Hp → List Addr → Store → Prop} (g : G K W σ fr H ms r P) : r ≠ .bad := fun z => by
  rw [z] at g
  exact g.elim
theorem spF_len {K : KZ} {F : List Val → Store → R Val} {ps : List Str} (h : ∀ xs st, F xs st ≠ .bad → xs.length = ps.length) {vs : List V} {H : Hp} {Q : VK} {E : XK} (q : spF K F vs H Q E) : vs.length = ps.length := by
  obtain ⟨fr, ms, st, xs, s, r, g⟩ := q
  rw [r.length]
  exact h xs st g.nb
theorem guards_deeper {A : Around} (env : PySem.Env) (h : A.guards = some []) : (A.deeper env).guards = some [] := by
  first
    | exact h
    | (show _ = _; simpa [Around.deeper] using h)
/-- an expression's result as a call's -/
theorem G.call {K : KZ} {W : WX} {σ : L2.St} {fr : Addr → Prop} {H : Hp} {ms : List Addr} {r : R Val} {Q : VK} (g : G K W σ fr H ms r (PV K Q)) : G K (fun c d _ H => W c d σ H) [] fr H ms r (PV K Q) := by
  cases r with
  | ok a st => exact g
  | exc x st => exact g
  | bad => exact g
section
variable {X : Cx} {Z : KS} {W : WZ Z} {pins : List (Addr × Obj)} {σ : L2.St} {H : Hp} {s s' : Shared}
theorem gok_of (I : Inv X pins σ H s) (hz : ZOk X W) : GOk (gamOf W σ) s.heap H := fun c v e => by
  unfold gamOf at e
  cases hi : W.z c with
  | none =>
    rw [hi] at e
    cases e
  | some i =>
    rw [hi] at e
    obtain ⟨y, hy, hc, hk⟩ := hz.at_ c i hi
    refine ⟨I.freeC y c hc, ?_⟩
    obtain ⟨m, hn, hl⟩ := I.loc
    obtain ⟨u, r, l⟩ := hl i y v hy (NdefX.slotAt_some e) (hk.elim (fun z => .inr (.inl z)) fun z => .inr (.inr z))
    rcases l with ⟨z, _⟩ | ⟨_, c', hc', o, ho, hd⟩
    · have z' : X.env.scope.names.lookup y = some .local := z
      rcases hk with k | k <;> rw [k] at z' <;> cases z'
    · rw [hc] at hc'
      cases hc'
      exact ⟨o, u, ho, hd, r⟩
theorem gam_z {c : Addr} {v : V} (e : gamOf W σ c = some v) : ∃ i, W.z c = some i := by
  unfold gamOf at e
  cases hi : W.z c with
  | none =>
    rw [hi] at e
    cases e
  | some i => exact ⟨i, rfl⟩
theorem gam_nst (I : Inv X pins σ H s) (hz : ZOk X W) {c : Addr} (hc : c ∈ frs X.stack) : gamOf W σ c = none := by
  cases e : gamOf W σ c with
  | none => rfl
  | some v =>
    obtain ⟨i, hi⟩ := gam_z e
    obtain ⟨y, _, hy, _⟩ := hz.at_ c i hi
    rcases List.mem_cons.mp (I.stkSub c hc) with z | z
    · exact absurd z (I.cne y c hy)
    · exact absurd z (hz.nf c i hi)
theorem env_plus (I : Inv X pins σ H s) (hz : ZOk X W) : Env0 X.prog X.w X.K X.mg X.base X.A X.stack s (Hplus (gamOf W σ) s.heap H) := by
  have e0 := I.env0
  refine ⟨e0.frames, e0.mod, fun b o e => ⟨(e0.bs b o e).1, ?_⟩, e0.bsz, e0.funs, fun b hb => ?_, hok_plus (gok_of I hz) e0.hok, e0.bare⟩
  · cases eg : gamOf W σ b with
    | none =>
      rw [hplus_off eg]
      exact (e0.bs b o e).2
    | some v =>
      obtain ⟨i, hi⟩ := gam_z eg
      rw [hz.nb b i hi] at e
      cases e
  · rw [hplus_off (gam_nst I hz hb)]
    exact e0.frf b hb
theorem sp_plus {K : KZ} {g : Addr → Option V} {h : Heap} (Gk : GOk g h H) {F : List Val → Store → R Val} {vs : List V} {Q : VK} {E : XK} (q : spF (K.gm g) F vs H Q E) : spF (K.gm fun _ => none) F vs (Hplus g h H) (fun v H' => Q v (Hminus g H')) (fun c d H' => E c d (Hminus g H')) := by
  obtain ⟨fr, ms, st, xs, s, r, q⟩ := q
  refine ⟨fr, ms, st, xs, s.plus Gk, VRs.plus Gk r, ?_⟩
  cases hr : F xs st with
  | ok a st' =>
    rw [hr] at q
    intro fr' H' ms' e' s' v rv
    have k := kept_ext Gk (s.plus Gk) e'
    exact q fr' (Hminus g H') ms' (e'.minus Gk k) (s'.minus k) v (VR.minus k rv)
  | exc x st' =>
    rw [hr] at q
    intro fr' H' ms' d e' s' x'
    have k := kept_ext Gk (s.plus Gk) e'
    refine q fr' (Hminus g H') ms' d (e'.minus Gk k) (s'.minus k) ?_
    unfold XR at x' ⊢
    split at x'
    · exact x'
    · obtain ⟨dd, v, h1, h2, h3⟩ := x'
      exact ⟨dd, v, h1, minus_keep k h2 fun ob z => (by unfold CellO at z; cases z), VR.minus k h3⟩
  | bad =>
    rw [hr] at q
    exact q
theorem cr_minus {P : Program} {w : World} {outer : List PySem.Env} {g : Addr → Option V} (Gk : GOk g s.heap H) (ns : ∀ c, c ∈ frs outer → g c = none) {Q : VK} {E : XK} {r : Result} (q : L2.CR (L2.CX P w) outer P w (Hplus g s.heap H) s (fun v H' => Q v (Hminus g H')) (fun c d H' => E c d (Hminus g H')) r s') : L2.CR (L2.CX P w) outer P w H s Q E r s' := by
  have mn : ∀ {c : Addr} {u : HO}, H c = some u → g c = none := fun {c u} q => by
    cases z : g c with
    | none => rfl
    | some v =>
      rw [(Gk c v z).1] at q
      cases q
  match r, q with
  | .ok (.ret u), ⟨v, H', os, bare, un, hok, rv, q⟩ =>
    have kc : ∀ c v, g c = some v → ∃ ob, s.heap.get? c = some ob ∧ H' c = some (CellO c ob) := fun c v eg => by
      obtain ⟨_, ob, u, h1, _⟩ := Gk c v eg
      exact ⟨ob, h1, un.frzs c ob _ (hplus_on eg h1)⟩
    refine ⟨v, Hminus g H', os, bare, ⟨fun b o e n hb hx => ?_, fun b o e n hb hx => ?_, fun b o e n hx => ?_, un.there, fun b xs e => ?_, fun b o xs e => ?_, fun b ps e => ?_⟩, hok_minus hok fun c v eg => let ⟨ob, _, z⟩ := kc c v eg; ⟨ob, z⟩, rv, q⟩
    · cases eg : g b with
      | none => exact un.keep b o e ((hplus_off eg).trans n) hb hx
      | some v =>
        obtain ⟨ob, h1, h2⟩ := kc b v eg
        rw [e] at h1
        cases h1
        exact (hok b _ h2).1
    · exact un.slot b o e ((hplus_off (ns b hb)).trans n) hb hx
    · cases eg : g b with
      | none =>
        rw [hminus_off eg]
        exact un.free b o e ((hplus_off eg).trans n) hx
      | some v => exact hminus_on eg
    · rw [hminus_off (mn e)]
      exact un.tups b xs ((hplus_off (mn e)).trans e)
    · rw [hminus_off (mn e)]
      exact un.frzs b o xs ((hplus_off (mn e)).trans e)
    · rw [hminus_off (mn e)]
      exact un.tbls b ps ((hplus_off (mn e)).trans e)
  | .error e, ⟨a, B, H', cls, d, ea, fly, hok, ub, na, os, bare, q⟩ =>
    have kc : ∀ c v, g c = some v → ∃ ob, s.heap.get? c = some ob ∧ H' c = some (CellO c ob) := fun c v eg => by
      obtain ⟨_, ob, u, h1, _⟩ := Gk c v eg
      exact ⟨ob, h1, ub.frzs c ob _ (hplus_on eg h1)⟩
    refine ⟨a, B, Hminus g H', cls, d, ea, fly, hok_minus hok fun c v eg => let ⟨ob, _, z⟩ := kc c v eg; ⟨ob, z⟩, ⟨fun b o e n hb => ?_, ub.slot, fun b o e n => ?_, ub.there, fun b xs e => ?_, fun b o xs e => ?_, fun b ps e => ?_⟩, ?_, os, bare, q⟩
    · cases eg : g b with
      | none => exact ub.keep b o e ((hplus_off eg).trans n) hb
      | some v =>
        obtain ⟨ob, h1, h2⟩ := kc b v eg
        rw [e] at h1
        cases h1
        exact (hok b _ h2).1
    · cases eg : g b with
      | none =>
        rw [hminus_off eg]
        exact ub.free b o e ((hplus_off eg).trans n)
      | some v => exact hminus_on eg
    · rw [hminus_off (mn e)]
      exact ub.tups b xs ((hplus_off (mn e)).trans e)
    · rw [hminus_off (mn e)]
      exact ub.frzs b o xs ((hplus_off (mn e)).trans e)
    · rw [hminus_off (mn e)]
      exact ub.tbls b ps ((hplus_off (mn e)).trans e)
    · cases eg : g a with
      | none =>
        rw [hminus_off eg]
        exact na
      | some v => exact hminus_on eg
end
def eCall (F : List Val → Store → R Val) (ds : List Val) (ta : FA) : FE := fun ρ st => (ta ρ st).bind fun xs st1 => F (xs ++ ds) st1
section
variable {X : Cx} {Z : KS} {W : WZ Z} {lv : Nat} {f : Addr} {fd : FuncData} {ps : List Str} {F : List Val → Store → R Val} {x : Str} {p pos : Pos} {e : Expr} {es : List Expr} {t : FA}
theorem run_g {pins : List (Addr × Obj)} {σ : L2.St} {H : Hp} {s : Shared} {Q : VK} {args : Args} {us : List Value} {vs : List V} (h0 : FnF Z X.prog X.w X.K X.mg X.base lv f fd ps F) (hr : Room lv X.A) (hg : X.A.guards = some []) (tk : Takes X W) (hz : ZOk X W)
    (I : Inv X pins σ H s) (hb : us.length = ps.length → BindsTo s fd args (ps.zip us)) (r : Vals vs us) (h : spF ((kx X Z).to W σ) F vs H Q (fun c d H => W c d σ H)) : codeAny (model X.prog X.w) X.A (.call (.ref f) args) (fun r s' => match r with
      | .ok (.ret u) => EP X pins σ Q u s'
      | .ok _ => False
      | .error e => X.xe e s') s := by
  have hl : us.length = ps.length := by
    rw [← r.length]
    exact spF_len h0.len h
  have Gk := gok_of I hz
  refine codeAny_mono (h0.go X.A X.stack s (Hplus (gamOf W σ) s.heap H) args us vs _ _ hr hg (env_plus I hz) (hb hl) r (sp_plus (K := kx X Z) Gk h)) fun z s' hz' => ?_
  have hz2 := cr_minus (Q := Q) (E := fun c d H => W c d σ H) Gk (fun c hc => gam_nst I hz hc) hz'
  match z, hz2 with
  | .error e, hz => exact tk e s' (XE.of_call I (fun _ _ _ h => h) hz)
  | .ok (.ret u), hz => exact I.after hz
theorem call_g {pins : List (Addr × Obj)} {σ : L2.St} {H : Hp} {s : Shared} {Q : VK} {us us' : List Value} {kws : List (Str × Value)} {vs : List V} (h0 : FnF Z X.prog X.w X.K X.mg X.base lv f fd ps F) (hr : Room lv X.A) (hg : X.A.guards = some []) (tk : Takes X W) (hz : ZOk X W)
    (I : Inv X pins σ H s) (hb : us.length = ps.length → BindsTo s fd ⟨us', kws⟩ (ps.zip us)) (r : Vals vs us) (h : spF ((kx X Z).to W σ) F vs H Q (fun c d H => W c d σ H)) : wpAny (model X.prog X.w) X.A (PySem.call (.ref f) us' kws) (EP X pins σ Q) X.xe s :=
  wpAny_call (codeAny_mono (run_g h0 hr hg tk hz I hb r h) fun z s' hz => by
    match z, hz with
    | .error e, hz => exact hz
    | .ok (.ret u), hz => exact hz)

theorem d_call {ds : List Val} {dvs : List V} {dus : List Value} (h0 : FnF Z X.prog X.w X.K X.mg X.base lv f fd ps F) (hr : Room lv X.A) (hg : X.A.guards = some []) (tk : Takes X W) (hm : X.mg x = some (.ref f)) (hk : PySem.W.keepIn X.K (.ref f) = true) (hb : Binds X.K fd ps dus) (hd : Vals dvs dus) (hs : ∀ g fr H ms, VRs ((kx X Z).gm g) fr H ms dvs ds)
    (ha : DA X W (e :: es) t) (hgl : Gl X x := by rfl) (hdb : (x == ("__debug__" : Str)) = false := by decide) (he : starEach (e :: es) X.env = (false, eval e X.env) :: starEach es X.env := by rfl) (hpl : (backTo pos (starEach es X.env)).any (·.1) = false := by rfl) (hz : ZOk X W := by first | assumption | exact ZOk.none (by assumption)) :
    DE X W (.Call (.Name x p) (e :: es) [] pos) (eCall F ds t) := by
  constructor
  intro pins s σ H Q I h
  obtain ⟨fr, ms, ρ, st, w, g⟩ := h
  refine wpAny_Call_Name_kw (ld_glob I hgl hm ?_ hdb)
  refine PySem.W.callWith_K (h₀ := X.base) I.ok.mod.kin hk (thn (ha.run pos pins s σ H (fun vs H1 => spF ((kx X Z).to W σ) F (vs ++ dvs) H1 Q (fun c d H => W c d σ H)) I ⟨fr, ms, ρ, st, w, g.bind.mono fun xs st1 fr1 H1 ms1 _ _ ⟨e1, s1, g1⟩ vs rs => ?_⟩) fun us s1 z => ?_) he hpl
  · exact ⟨fr1, ms1, st1, xs ++ ds, s1, rs.app (hs _ _ _ _), g1.call⟩
  · obtain ⟨vs, H1, I1, r, z⟩ := z
    exact ⟨I1.kIn, call_g (us := us ++ dus) h0 hr hg tk hz I1 (fun hl => hb s1 us I1.kIn hl) (r.append hd) z⟩
/-- f() -/
theorem d_call0 {ds : List Val} {dvs : List V} {dus : List Value} (h0 : FnF Z X.prog X.w X.K X.mg X.base lv f fd ps F) (hr : Room lv X.A) (hg : X.A.guards = some []) (tk : Takes X W) (hm : X.mg x = some (.ref f)) (hk : PySem.W.keepIn X.K (.ref f) = true) (hb : Binds X.K fd ps dus) (hd : Vals dvs dus) (hs : ∀ g fr H ms, VRs ((kx X Z).gm g) fr H ms dvs ds)
    (hgl : Gl X x := by rfl) (hdb : (x == ("__debug__" : Str)) = false := by decide) (hz : ZOk X W := by first | assumption | exact ZOk.none (by assumption)) : DE X W (.Call (.Name x p) [] [] pos) (eCall F ds aNil) := by
  constructor
  intro pins s σ H Q I h
  obtain ⟨fr, ms, ρ, st, w, g⟩ := h
  refine wpAny_Call_Name_kw (ld_glob I hgl hm ?_ hdb)
  exact PySem.W.callWith_K0 I.kIn hk (call_g (us := [] ++ dus) (us' := []) h0 hr hg tk hz I (fun hl => hb s [] I.kIn hl) (Vals.append .nil hd) ⟨fr, ms, st, ds, w.sr, hs _ _ _ _, (show G ((kx X Z).to W σ) W σ fr H ms (F ([] ++ ds) st) (PV ((kx X Z).to W σ) Q) from g).call⟩)
/-! ### keywords -/
abbrev DK (X : Cx) {Z : KS} (W : WZ Z) (ks : List Keyword) (t : FA) : Prop := PK X ks (LA (kx X Z) W t)
theorem pk_imp {X : Cx} {e : List Keyword} {t t' : TA} (h : PK X e t) (i : ∀ σ H Q, t' σ H Q → t σ H Q) : PK X e t' := ⟨fun pos pins s σ H Q I q => h.run pos pins s σ H Q I (i _ _ _ q)⟩
theorem k_nil : DK X W [] aNil := pk_imp pk_nil fun σ H Q ⟨fr, ms, ρ, st, w, g⟩ => g.now w.sr [] .nil
theorem k_cons {te : FE} {kws : List Keyword} {tk : FA} {nm : Option Str} {kpos : Pos} (ha : DE X W e te) (hr : DK X W kws tk) : DK X W (⟨nm, e, kpos⟩ :: kws) (aCons te tk) := pk_imp (pk_cons ha hr) fun σ H Q ⟨fr, ms, ρ, st, w, g⟩ =>
  ⟨fr, ms, ρ, st, w, g.bind.mono fun x st1 fr1 H1 ms1 _ _ ⟨e1, s1, g1⟩ v rv => ⟨fr1, ms1, ρ, st1, w.on e1 s1, g1.bind.mono fun xs st2 fr2 H2 ms2 _ _ ⟨e2, s2, g2⟩ vs rs => g2.now s2 _ (.cons (rv.ex s1 e2) rs)⟩⟩
/-- f(k = v, ..): how the keywords' values come to the parameters' places: by a list of places -/
def byPl {α : Type} (pl : List Nat) (ws : List α) : List α := pl.filterMap fun i => ws[i]?
theorem vrs_byPl {K : KZ} {fr : Addr → Prop} {H : Hp} {ms : List Addr} {vs : List V} {xs : List Val} (r : VRs K fr H ms vs xs) : ∀ pl : List Nat, VRs K fr H ms (byPl pl vs) (byPl pl xs)
  | [] => .nil
  | i :: l => by
    have ih := vrs_byPl r l
    unfold byPl at ih ⊢
    cases e : xs[i]? with
    | none =>
      have e2 : vs[i]? = none := by
        rw [List.getElem?_eq_none_iff] at e ⊢
        rw [r.length]
        exact e
      rw [List.filterMap_cons_none e, List.filterMap_cons_none e2]
      exact ih
    | some x =>
      obtain ⟨v, hv, rv⟩ := r.get e
      rw [List.filterMap_cons_some e, List.filterMap_cons_some hv]
      exact .cons rv ih
theorem vals_byPl {vs : List V} {us : List Value} (r : Vals vs us) : ∀ pl : List Nat, Vals (byPl pl vs) (byPl pl us)
  | [] => .nil
  | i :: l => by
    have ih := vals_byPl r l
    unfold byPl at ih ⊢
    cases e : vs[i]? with
    | none =>
      rw [List.filterMap_cons_none e, List.filterMap_cons_none (r.none_of e)]
      exact ih
    | some x =>
      obtain ⟨v, hv, rv⟩ := r.get e
      rw [List.filterMap_cons_some e, List.filterMap_cons_some hv]
      exact .cons rv ih
/-- how a call by keywords alone binds -/
def KwBinds (K : PySem.W.Frag) (fd : FuncData) (ps ks : List Str) (pl : List Nat) : Prop := ∀ (s : Shared) (ws : List Value), K.In s.heap → ws.length = ks.length → BindsTo s fd ⟨[], ks.zip ws⟩ (ps.zip (byPl pl ws))
def eCallK (F : List Val → Store → R Val) (pl : List Nat) (tk : FA) : FE := fun ρ st => (tk ρ st).bind fun xs st1 => bif xs.length == pl.length then F (byPl pl xs) st1 else .bad
theorem beq_nat {a b : Nat} (h : (a == b) = true) : a = b := by simpa using h
theorem d_callK {ks : List Str} (pl : List Nat) {kws : List Keyword} {tkw : FA} (h0 : FnF Z X.prog X.w X.K X.mg X.base lv f fd ps F) (hr : Room lv X.A) (hg : X.A.guards = some []) (tk : Takes X W) (hm : X.mg x = some (.ref f)) (hk : PySem.W.keepIn X.K (.ref f) = true) (hb : KwBinds X.K fd ps ks pl)
    (hn : pl.length = ks.length) (hkw : DK X W kws tkw) (hall : (backToKw pos (keywordEach kws X.env)).all (·.1.isSome) = true := by rfl) (hks : (backToKw pos (keywordEach kws X.env)).filterMap (·.1) = ks := by rfl) (hgl : Gl X x := by rfl)
    (hdb : (x == ("__debug__" : Str)) = false := by decide) (hpl : ((backTo pos (starEach [] X.env)).any (·.1) || (backToKw pos (keywordEach kws X.env)).any (·.1.isNone)) = false := by rfl) (hz : ZOk X W := by first | assumption | exact ZOk.none (by assumption)) :
    DE X W (.Call (.Name x p) [] kws pos) (eCallK F pl tkw) := by
  constructor
  intro pins s σ H Q I h
  obtain ⟨fr, ms, ρ, st, w, g⟩ := h
  refine wpAny_Call_Name_kw (ld_glob I hgl hm ?_ hdb)
  refine PySem.W.callWith_KW0 (h₀ := X.base) I.ok.mod.kin hk hall (thn (hkw.run pos pins s σ H (fun vs H1 => vs.length = pl.length ∧ spF ((kx X Z).to W σ) F (byPl pl vs) H1 Q (fun c d H => W c d σ H)) I ⟨fr, ms, ρ, st, w, g.bind.mono fun xs st1 fr1 H1 ms1 _ _ ⟨e1, s1, g1⟩ vs rs => ?_⟩) fun us s1 z => ?_) hpl
  · obtain ⟨hl, g2⟩ := g1.cond
    exact ⟨rs.length.trans (beq_nat hl), fr1, ms1, st1, byPl pl xs, s1, vrs_byPl rs pl, g2.call⟩
  · obtain ⟨vs, H1, I1, r, hv, z⟩ := z
    refine ⟨I1.kIn, ?_⟩
    rw [hks]
    exact call_g (us := byPl pl us) (us' := []) h0 hr hg tk hz I1 (fun _ => hb s1 us I1.kIn (by rw [← r.length, hv, hn])) (vals_byPl r pl) z
/-- f(.., k = v, ..): n values by place, the lacking ones' ds, then the keywords', put in the parameters' order by pl -/
def eCallM (F : List Val → Store → R Val) (n m : Nat) (ds : List Val) (pl : List Nat) (ta tk : FA) : FE := fun ρ st => (ta ρ st).bind fun xs st1 => (tk ρ st1).bind fun zs st2 => bif (xs.length == n) && (zs.length == m) then F (byPl pl (xs ++ (ds ++ zs))) st2 else .bad
/-- what such a call binds -/
def MBinds (K : PySem.W.Frag) (fd : FuncData) (ps : List Str) (n : Nat) (dvs : List V) (ks : List Str) (pl : List Nat) : Prop := ∃ dus, Vals dvs dus ∧ ∀ (s : Shared) (us ws : List Value), K.In s.heap → us.length = n → ws.length = ks.length → BindsTo s fd ⟨us, ks.zip ws⟩ (ps.zip (byPl pl (us ++ (dus ++ ws))))
theorem d_callM {ds : List Val} {dvs : List V} {ks : List Str} {kws : List Keyword} {tkw : FA} (n : Nat) (pl : List Nat) (h0 : FnF Z X.prog X.w X.K X.mg X.base lv f fd ps F) (hr : Room lv X.A) (hg : X.A.guards = some []) (tk : Takes X W) (hm : X.mg x = some (.ref f)) (hk : PySem.W.keepIn X.K (.ref f) = true) (hb : MBinds X.K fd ps n dvs ks pl) (hs : ∀ g fr H ms, VRs ((kx X Z).gm g) fr H ms dvs ds)
    (ha : DA X W (e :: es) t) (hkw : DK X W kws tkw) (hall : (backToKw pos (keywordEach kws X.env)).all (·.1.isSome) = true := by rfl) (hks : (backToKw pos (keywordEach kws X.env)).filterMap (·.1) = ks := by rfl) (hgl : Gl X x := by rfl)
    (hdb : (x == ("__debug__" : Str)) = false := by decide) (he : starEach (e :: es) X.env = (false, eval e X.env) :: starEach es X.env := by rfl)
    (hpl : ((backTo pos (starEach (e :: es) X.env)).any (·.1) || (backToKw pos (keywordEach kws X.env)).any (·.1.isNone)) = false := by rfl) (hz : ZOk X W := by first | assumption | exact ZOk.none (by assumption)) :
    DE X W (.Call (.Name x p) (e :: es) kws pos) (eCallM F n ks.length ds pl t tkw) := by
  obtain ⟨dus, hd, hb⟩ := hb
  constructor
  intro pins s σ H Q I h
  obtain ⟨fr, ms, ρ, st, w, g⟩ := h
  refine wpAny_Call_Name_kw (ld_glob I hgl hm ?_ hdb)
  refine PySem.W.callWith_KW (h₀ := X.base) I.ok.mod.kin hk hall (thn (ha.run pos pins s σ H (fun vs H1 => LA (kx X Z) W tkw σ H1 fun zs H2 => vs.length = n ∧ zs.length = ks.length ∧ spF ((kx X Z).to W σ) F (byPl pl (vs ++ (dvs ++ zs))) H2 Q (fun c d H => W c d σ H)) I ⟨fr, ms, ρ, st, w, g.bind.mono fun xs st1 fr1 H1 ms1 _ _ ⟨e1, s1, g1⟩ vs rs => ?_⟩) fun us s1 z => ?_) hpl he
  · refine ⟨fr1, ms1, ρ, st1, w.on e1 s1, g1.bind.mono fun zs st2 fr2 H2 ms2 _ _ ⟨e2, s2, g2⟩ us rz => ?_⟩
    obtain ⟨hl, g3⟩ := g2.cond
    have hl := Bool.and_eq_true_iff.mp hl
    exact ⟨rs.length.trans (beq_nat hl.1), rz.length.trans (beq_nat hl.2), fr2, ms2, st2, _, s2, vrs_byPl ((rs.ex s1 e2).app ((hs _ _ _ _).app rz)) pl, g3.call⟩
  · obtain ⟨vs, H1, I1, r, z⟩ := z
    refine thn (hkw.run pos pins s1 σ H1 _ I1 z) fun ws s2 ⟨zs, H2, I2, rz, l1, l2, q2⟩ => ⟨I2.kIn, ?_⟩
    rw [hks]
    have rr : Vals (byPl pl (vs ++ (dvs ++ zs))) (byPl pl (us ++ (dus ++ ws))) := vals_byPl (r.append (hd.append rz)) pl
    exact call_g h0 hr hg tk hz I2 (fun _ => hb s2 us ws I2.kIn (r.length.symm.trans l1) (rz.length.symm.trans l2)) rr q2
end
/-! ### a def's body -/
def startF (n : Nat) (xs : List Val) : Env := xs.map some ++ List.replicate (n - xs.length) none
theorem start_wd {K : KZ} {fr : Addr → Prop} {H : Hp} {ms : List Addr} {st : Store} {N : List Str} {vs : List V} {xs : List Val} (s : SR K fr H ms st) (r : VRs K fr H ms vs xs) : Wd K fr H ms (L2.start N vs) (startF N.length xs) st := by
  have hl := r.length
  refine ⟨by unfold L2.start startF; rw [List.length_append, List.length_append, List.length_map, List.length_map, List.length_replicate, List.length_replicate, hl], fun i x h => ?_, s⟩
  unfold startF at h
  by_cases hi : i < xs.length
  · rw [List.getElem?_append_left (by rw [List.length_map]; exact hi), List.getElem?_map] at h
    cases e : xs[i]? with
    | none =>
      rw [e] at h
      cases h
    | some y =>
      rw [e] at h
      cases h
      obtain ⟨v, hv, rv⟩ := r.get e
      refine ⟨v, ?_, rv⟩
      unfold L2.start
      rw [List.getElem?_append_left (by rw [List.length_map, hl]; exact hi), List.getElem?_map, hv]
      rfl
  · rw [List.getElem?_append_right (by rw [List.length_map]; omega), List.getElem?_replicate] at h
    split at h <;> cases h
/-- a def as a function: k parameters, n names; z: what it makes is given up -/
def fnF (z : Bool) (k n : Nat) (t : FS) : List Val → Store → R Val := fun xs st => bif xs.length == k then retF z st (t (startF n xs) st) else .bad
section
variable {P : Program} {w : World} {K : PySem.W.Frag} {mg : Str → Option Value} {base : Heap}
/-- the frame of a call: the body's run gives the call's end -/
theorem enter_g {x qual : Str} {params : Arguments} {body : List Stmt} {scope : Scope} {dvs : List V} {kws : List (Str × V)} {f : Addr} {fd : FuncData} {N ps : List Str} {lv : Nat} {sp : Sp} (F : FunD K x qual params body scope dvs kws f fd) (S : FnScope N ps scope) (len : ∀ vs H Q E, sp vs H Q E → vs.length = ps.length)
    {A : Around} {outer : List PySem.Env} {s : Shared} {H : Hp} {args : Args} {us : List Value} {vs : List V} {Q : VK} {E : XK} (hr : Room (lv + 1) A) (e0 : Env0 P w K mg base A outer s H) (hb : BindsTo s fd args (ps.zip us)) (r : Vals vs us) (hsp : sp vs H Q E)
    (hbody : ∀ cdv, ∃ t, PSs (cxOf (L2.CX P w) P w K mg base N qual scope f cdv A outer s H E) body t ∧ t { nx := fun _ H' => Q .non H', rt := Q } (start N vs) H) :
    codeAny (model P w) A (.call (.ref f) args) (L2.CR (L2.CX P w) outer P w H s Q E) s := by
  obtain ⟨oc, od, dV, kV, doc, pm, an, cdv, ct, osl, rfl, lk, hcd, _, _⟩ := F.ex
  have sees : K.In s.heap := e0.mod.kin.keeps fun b o q => (e0.bs b o q).1
  have kinds : ∀ y ∈ ps.zip us, scope.names.lookup y.1 = some .local ∨ (scope.names.lookup y.1 = some .cell ∧ ((cellsFrom (s.heap.objs.size + 1) scope.names []).lookup y.1).isSome = true) := by
    rintro ⟨n, v⟩ hy
    exact (S.par n (List.of_mem_zip hy).1).imp id fun q => ⟨q, PySem.W.cellsFrom_some _ _ _ (.inl q)⟩
  have hl := len _ _ _ _ hsp
  refine codeAny_call_function hr.depth (sees _ _ lk) rfl S.co S.gen rfl (PySem.W.codeRec_of sees hcd) (hb _ _ _ _ (wpAny_newFunctionEnv_cells S.kind kinds fun env he s1 X1 => ?_))
  subst he
  have lim : s.heap.NoLimit := e0.mod.nolimit.keeps fun b o q => (e0.bs b o q).1
  refine ⟨lim.keeps X1.toInCall.keep, codeAny_func ?_⟩
  obtain ⟨t, ht, hq⟩ := hbody cdv
  have I := inv_start (CX := L2.CX P w) (E := E) S hr.hd e0 hl r X1
  refine wpAny_mono (ht.run [] s1 _ H _ I hq) (fun fl s' hs => ?_) fun _ _ z => z
  match fl, hs with
  | .ret u, ⟨v, σ', H', J, rv, q⟩ => exact ⟨v, H', J.os, J.bare, J.base, J.hok, rv, q⟩
  | .next, ⟨σ', H', J, q⟩ => exact ⟨.non, H', J.os, J.bare, J.base, J.hok, rfl, q⟩
  | .brk, ⟨_, _, _, q⟩ => exact q.elim
  | .cont, ⟨_, _, _, q⟩ => exact q.elim
theorem retX_at {K : KZ} {fr fr0 : Addr → Prop} {H H0 : Hp} {ms ms0 : List Addr} {st st0 : Store} {x : XV} {E : XK} {d : Option Addr} (s0 : SR K fr0 H0 ms0 st0) (q : ∀ fr' H' ms' d, Ext ms0.length fr0 H0 ms0 fr' H' ms' → SR K fr' H' ms' (retX st0 x st).2 → XR K fr' H' ms' d (retX st0 x st).1 → E (.ref (cA K (retX st0 x st).1.1)) d H')
    (e : Ext ms0.length fr0 H0 ms0 fr H ms) (s : SR K fr H ms st) (r : XR K fr H ms d x) : E (.ref (cA K x.1)) d H := by
  obtain ⟨c, o⟩ := x
  cases o with
  | none =>
    unfold retX at q
    dsimp only at q
    cases hb : leftB st0 st with
    | true =>
      rw [hb] at q; dsimp only [cond_true] at q
      have hc := left_cl s0 hb
      rw [← s0.len] at hc q
      exact q _ _ _ d e.give (s.give e.len hc) r
    | false =>
      rw [hb] at q; dsimp only [cond_false] at q
      exact q _ _ _ d e s r
  | some p =>
    obtain ⟨f, v⟩ := p
    unfold retX at q
    dsimp only at q
    split at q
    · next y hy =>
      cases hb : leftB st0 st with
      | true =>
        rw [hb] at q; dsimp only [cond_true] at q
        have hc := left_cl s0 hb
        rw [← s0.len] at hc hy q
        obtain ⟨dd, w, h1, h2, h3⟩ := r
        exact q _ _ _ d e.give (s.give e.len hc) ⟨dd, w, h1, h2, frz_at s e.len hy h3⟩
      | false =>
        rw [hb] at q; dsimp only [cond_false] at q
        exact q _ _ _ d e s r
    · exact q _ _ _ d e s r
/-- THE RULE for a def -/
theorem okF {x qual : Str} {params : Arguments} {body : List Stmt} {scope : Scope} {dvs : List V} {kws : List (Str × V)} {f : Addr} {fd : FuncData} {N ps : List Str} {lv : Nat} {t : FS} {Z : KS} (z : Bool) (F : FunD K x qual params body scope dvs kws f fd) (S : FnScope N ps scope)
    (walk : ∀ (cdv : Value) (A : Around) (outer : List PySem.Env) (s : Shared) (H : Hp) (E : XK), Room lv (cxOf (L2.CX P w) P w K mg base N qual scope f cdv A outer s H E).A → (cxOf (L2.CX P w) P w K mg base N qual scope f cdv A outer s H E).A.guards = some [] →
      ∀ W : WZ Z, Takes (cxOf (L2.CX P w) P w K mg base N qual scope f cdv A outer s H E) W → W.z = (fun _ => none) → W.cs = [] → DSs (cxOf (L2.CX P w) P w K mg base N qual scope f cdv A outer s H E) W body t) : FnF Z P w K mg base (lv + 1) f fd ps (fnF z ps.length N.length t) := by
  have len : ∀ xs st, fnF z ps.length N.length t xs st ≠ .bad → xs.length = ps.length := fun xs st h => by
    unfold fnF at h
    cases e : (xs.length == ps.length) with
    | true => exact beq_nat e
    | false =>
      rw [e] at h
      exact absurd rfl h
  refine ⟨len, fun A outer s H args us vs Q E hr hg e0 hb r hsp => enter_g (sp := spF (k0 K Z) (fnF z ps.length N.length t)) F S (fun vs H Q E q => spF_len len q) hr e0 hb r hsp fun cdv => ⟨_, walk cdv A outer s H E (hr.deeper _) (guards_deeper _ hg) (zN Z fun cls d _ H => E cls d H) (takes_of rfl rfl rfl rfl) rfl rfl, ?_⟩⟩
  obtain ⟨fr, ms, st, xs, sr, rx, g⟩ := hsp
  have hlx := len xs st g.nb
  have g' : G (k0 K Z) (fun c d _ H => E c d H) [] fr H ms (retF z st (t (startF N.length xs) st)) (PV (k0 K Z) Q) := by
    unfold fnF at g
    rw [show (xs.length == ps.length) = true by simp [hlx]] at g
    exact g
  refine ⟨fr, ms, startF N.length xs, st, start_wd sr rx, ?_⟩
  unfold retF at g'
  split at g'
  · next x st' he =>
    rw [he]
    cases z with
    | true => exact fun fr' H' ms' v e' s' r' => ret_rt sr (QV.of g') e' s' r'
    | false => exact fun fr' H' ms' v e' s' r' => QV.of g' _ _ _ _ e' s' r'
  · next ρ st' he =>
    rw [he]
    cases z with
    | true =>
      exact fun fr' H' ms' σ' e' _ w' => ret_rt (x := .non) (v := .non) (st := st') sr (QV.of g') e' w'.sr .non
    | false => exact fun fr' H' ms' σ' e' _ w' => QV.of g' _ _ _ _ e' w'.sr .non
  · next x ρ st' he =>
    rw [he]
    cases z with
    | true => exact fun fr' H' ms' σ' d e' _ w' x' => retX_at sr (x := x) (st := st') g' e' w'.sr x'
    | false => exact fun fr' H' ms' σ' d e' _ w' x' => g' _ _ _ d e' w'.sr x'
  · exact g'.elim
end
end FL
/-! rules of the hand layer's own kind that it lacks -/
namespace FL
open PySem PySem.Spec PyProof.Rows L2

section
variable {prog : Program} {w : World} {A : Around} {E : Value → Shared → Prop} {s : Shared}
theorem rev_adj (n : Nat) : Builtin.Slice.sliceAdjust none none (-1) (n : Int) = ((n : Int) - 1, -1) := by
  unfold Builtin.Slice.sliceAdjust
  simp
theorem rev_places (n : Nat) : Builtin.Slice.slicePlaces ((n : Int) - 1) (-1) (-1) = n := by
  unfold Builtin.Slice.slicePlaces
  have h : ¬ ((-1 : Int) > 0) := by omega
  simp only [h, if_false, Int.neg_neg, Int.ediv_one]
  split <;> omega
theorem rev_pick (xs : Array Value) : ((List.range xs.size).filterMap fun (m : Nat) => xs[((xs.size : Int) - 1 + (m : Int) * (-1)).toNat]?).toArray = xs.toList.reverse.toArray := by
  have e : ((List.range xs.size).filterMap fun (m : Nat) => xs[((xs.size : Int) - 1 + (m : Int) * (-1)).toNat]?) = xs.toList.reverse := by
    have h1 : ((List.range xs.size).filterMap fun (m : Nat) => xs[((xs.size : Int) - 1 + (m : Int) * (-1)).toNat]?) = ((List.range xs.size).map fun m => xs.size - 1 - m).filterMap fun m => xs[m]? := by
      rw [List.filterMap_map]
      congr 1
      funext m
      have e2 : ((xs.size : Int) - 1 + (m : Int) * (-1)).toNat = xs.size - 1 - m := by omega
      show xs[((xs.size : Int) - 1 + (m : Int) * (-1)).toNat]? = xs[xs.size - 1 - m]?
      rw [e2]
    rw [h1, PySem.W.krv_range, List.filterMap_reverse, PySem.W.krv_all]
  rw [e]
theorem getItem_tuple_rev {t sl : Addr} {items : Array Value} {vs : Value} {Q : Value → Shared → Prop} (ht : IsTup s.heap t items) (hs : s.heap.IsSliceOf sl .none .none vs) (ps : IsPart vs (some (-1)))
    (h : Q (.ref s.heap.objs.size) { s with heap := s.heap.push { cls := .type "tuple", data := .seq items.toList.reverse.toArray } }) (hsz : items.size ≤ sizeLine) : wpAny (model prog w) A (getItem (.ref t) (.ref sl)) Q E s := by
  have hfit : sizeOk (.seq items.toList.reverse.toArray) := by
    show items.toList.reverse.toArray.size ≤ sizeLine
    rw [List.size_toArray, List.length_reverse, Array.length_toList]
    exact hsz
  obtain ⟨os, hos, hcs, hds⟩ := id hs
  have isSl : s.TypeIs (.ref sl) "slice" := ⟨os, hos, hcs⟩
  unfold getItem
  try with_reducible refine wpAny_holding ?_
  first | refine wpAny_bind (wpAny_pure ?_) | skip
  refine wpAny_bind (wpAny_sequenceKey ht.typeIs (by decide) ?_)
  refine wpAny_bind (wpAny_callSpecial?_slot (name := Str.ofString "__getitem__") ht.typeIs slot_tuple_getitem (wpAny_call_entry slot_tuple_getitem ht.typeIs entry_tuple_getitem ?_ (args_tuple_getitem _ _)))
  show wpAny _ _ (Builtin.Tuple.tupleItemsOf (.ref t) >>= _) _ _ s
  refine wpAny_bind (tupleItemsOf_ ht (wpAny_bind (wpAny_typeOf isSl ?_)))
  rw [if_pos (by decide)]
  have inner : ∀ {A : Around} {E : Value → Shared → Prop} {Q : Int × Int × Nat → Shared → Prop}, Q ((items.size : Int) - 1, -1, items.size) s → wpAny (model prog w) A (Builtin.Slice.sliceApplied (.ref sl) (pure (items.size : Int))) Q E s := fun {A E Q} hq => by
    unfold Builtin.Slice.sliceApplied Builtin.Slice.sliceFields
    refine wpAny_bind (wpAny_bind (wpAny_field hos hds (x := .none) rfl (wpAny_bind (wpAny_field hos hds (x := .none) rfl (wpAny_bind (wpAny_field hos hds (x := vs) rfl (wpAny_pure ?_)))))))
    refine wpAny_bind (HT.slicePart_ ps ?_)
    show wpAny _ _ (if ((-1 : Int) == 0) = true then _ else _) _ _ s
    rw [if_neg (by decide)]
    refine wpAny_bind (slicePart_none (wpAny_bind (slicePart_none (wpAny_bind (wpAny_pure ?_)))))
    show wpAny _ _ (match Builtin.Slice.sliceAdjust none none (-1) (items.size : Int) with | (lo, hi) => pure (lo, (-1 : Int), Builtin.Slice.slicePlaces lo hi (-1))) _ _ s
    rw [rev_adj]
    show wpAny _ _ (pure ((items.size : Int) - 1, (-1 : Int), Builtin.Slice.slicePlaces ((items.size : Int) - 1) (-1) (-1))) _ _ s
    rw [rev_places]
    exact wpAny_pure hq
  refine wpAny_bind (inner ?_)
  have no : ¬ ((((items.size : Int) - 1) == 0 && (-1 : Int) == 1 && items.size == items.size) = true) := by
    intro q
    rw [Bool.and_eq_true, Bool.and_eq_true] at q
    exact absurd q.1.2 (by decide)
  show wpAny _ _ (if (((items.size : Int) - 1) == 0 && (-1 : Int) == 1 && items.size == items.size) = true then _ else _) _ _ s
  rw [if_neg no, rev_pick]
  first
    | exact wpAny_bind (m := Builtin.Tuple.tupleExact _) (wpAny_newObj_type (wpAny_pure ⟨_, rfl, wpAny_pure h⟩) hfit)
    | exact wpAny_bind (m := Builtin.Tuple.tupleExact _) (wpAny_newObj_type (wpAny_bind (wpAny_pure (wpAny_pure ⟨_, rfl, wpAny_pure h⟩))) hfit)
    | exact wpAny_bind (wpAny_bind (m := Builtin.Tuple.tupleExact _) (wpAny_newObj_type (wpAny_pure (wpAny_pure ⟨_, rfl, wpAny_pure h⟩)) hfit))
    | exact wpAny_bind (wpAny_bind (m := Builtin.Tuple.tupleExact _) (wpAny_newObj_type (wpAny_pure ⟨_, rfl, wpAny_pure h⟩) hfit))
end
def tRevU (K : PySem.W.Frag) (te : TE) : TE := fun σ H Q => te σ H fun x H1 => ∃ a xs, x = .ref a ∧ ((SqL K H1 a xs ∧ ∀ p, H1 p = none → Q (.ref p) (upd H1 p (.lst xs.reverse))) ∨ (SqT K H1 a xs ∧ ∀ p, H1 p = none → Q (.ref p) (upd H1 p (.tup xs.reverse))))
theorem pe_revU {X : Cx} {e : Expr} {te : TE} {k : Nat} {p1 p2 p3 pos : Pos} (he : PE X e te) : PE X (.Subscript e (.Slice none none (some (.UnaryOp .USub (.Constant (.int 1) k p1) p2)) p3) pos) (tRevU X.K te) := by
  constructor
  intro pins s σ H Q I h
  refine Subscript_ (thn (he.run pins s σ H _ I h) fun v s1 z1 => ?_)
  obtain ⟨x, H1, I1, r1, a, xs, rfl, q⟩ := z1
  obtain rfl : v = Value.ref a := r1
  have step : PO X (some (.UnaryOp .USub (.Constant (.int 1) k p1) p2)) (tPart (tUn (rU fun i => .int (-i)) (tC (.int 1)))) := po_some (pe_un un_neg pe_int)
  refine wpAny_Slice (thn (po_none.run pins s1 σ H1 (fun o H2 => o = none ∧ H2 = H1) I1 ⟨rfl, rfl⟩) fun vl s2 ⟨l, H2, I2, pl, el, e2⟩ => ?_)
  subst el e2
  refine thn (po_none.run pins s2 σ H2 (fun o H3 => o = none ∧ H3 = H2) I2 ⟨rfl, rfl⟩) fun vu s3 ⟨u, H3, I3, pu, eu, e3⟩ => ?_
  subst eu e3
  refine thn (step.run pins s3 σ H3 (fun o H4 => o = some (-1) ∧ H4 = H3) I3 ⟨1, rfl, -1, rfl, rfl, rfl⟩) fun vs s4 ⟨o, H4, I4, ps, eo, e4⟩ => ?_
  subst eo e4
  have I5 : Inv X pins σ H4 { s4 with heap := s4.heap.push { cls := .type "slice", data := .fields #[vl, vu, vs] } } := I4.kept (t' := s4.toks) fun b ob z => Heap.get?_push_of_some _ z
  have new : ∀ o : HO, ∀ ob : Obj, ObjOk X.prog X.w (upd H4 ((s4.heap.push { cls := .type "slice", data := .fields #[vl, vu, vs] }).objs.size) o) ((s4.heap.push { cls := .type "slice", data := .fields #[vl, vu, vs] }).push ob) ((s4.heap.push { cls := .type "slice", data := .fields #[vl, vu, vs] }).objs.size) o →
      Q (.ref ((s4.heap.push { cls := .type "slice", data := .fields #[vl, vu, vs] }).objs.size)) (upd H4 ((s4.heap.push { cls := .type "slice", data := .fields #[vl, vu, vs] }).objs.size) o) →
      EP X pins σ Q (.ref ((s4.heap.push { cls := .type "slice", data := .fields #[vl, vu, vs] }).objs.size)) { s4 with heap := (s4.heap.push { cls := .type "slice", data := .fields #[vl, vu, vs] }).push ob } := fun o ob ho hq =>
    ⟨.ref _, _, I5.laid (t' := s4.toks) (fun b u z => Heap.get?_push_of_some _ z) (Nat.le_refl _) ho, rfl, hq⟩
  rcases q with ⟨hx, q⟩ | ⟨hx, q⟩
  · obtain ⟨its, r, ht, hz⟩ := I5.list hx
    have hlen := r.length
    show wpAny (model X.prog X.w) X.A (subscriptTail e (.Slice none none (some (.UnaryOp .USub (.Constant (.int 1) k p1) p2)) p3) (.ref a) (.ref s4.heap.objs.size)) _ X.xe _
    refine tail_any (ops := [.ref a, .ref s4.heap.objs.size]) ht.isList.typeIs (PySem.slot_list_getitem.lookup) ?_ (by with_unfolding_all rfl)
    refine wpAny_getItem_list_slice ht.isList (Heap.IsSliceOf.new _ vl vu vs) pl pu ps (by decide) ?_ (by rw [List.size_toArray]; omega)
    rw [PySem.W.krv_pick]
    exact new (.lst xs.reverse) _ ⟨by rw [List.length_reverse]; exact hz, _, 0, r.reverse, Heap.get?_push_size _ rfl⟩ (q _ (I5.hok.fresh (Nat.le_refl _)))
  · obtain ⟨its, r, ht, hz⟩ := I5.tuple hx
    have hlen := r.length
    show wpAny (model X.prog X.w) X.A (subscriptTail e (.Slice none none (some (.UnaryOp .USub (.Constant (.int 1) k p1) p2)) p3) (.ref a) (.ref s4.heap.objs.size)) _ X.xe _
    refine tail_any (ops := [.ref a, .ref s4.heap.objs.size]) ht.typeIs (slot_tuple_getitem.lookup) ?_ (by with_unfolding_all rfl)
    cases pl
    cases pu
    refine getItem_tuple_rev ht (Heap.IsSliceOf.new _ .none .none vs) ps ?_ (by rw [List.size_toArray]; omega)
    exact new (.tup xs.reverse) _ ⟨by rw [List.length_reverse]; exact hz, _, r.reverse, IsTup.new _ _⟩ (q _ (I5.hok.fresh (Nat.le_refl _)))

def ItAt (t : Bool) (h : Heap) (i a : Addr) (n : Nat) : Prop := match t with
  | true => h.IsTupleIter i a n
  | false => h.IsListIter i a n
def SqAt (t : Bool) (h : Heap) (a : Addr) (xs : Array Value) : Prop := match t with
  | true => h.IsTuple a xs
  | false => h.IsList a xs
theorem ItAt.off {h h' : Heap} {i a z : Addr} {n : Nat} : ∀ {t : Bool}, ItAt t h i a n → Heap.ExtBut z h h' → i ≠ z → ItAt t h' i a n
  | true, x, e, k => Heap.IsTupleIter.extBut x e k
  | false, x, e, k => Heap.IsListIter.extBut x e k
theorem SqAt.off {h h' : Heap} {a z : Addr} {xs : Array Value} : ∀ {t : Bool}, SqAt t h a xs → Heap.ExtBut z h h' → a ≠ z → SqAt t h' a xs
  | true, x, e, k => Heap.IsTuple.extBut x e k
  | false, x, e, k => Heap.IsList.extBut x e k
theorem ItAt.at {h h' : Heap} {i a : Addr} {n : Nat} : ∀ {t : Bool}, ItAt t h i a n → (∀ o, h.get? i = some o → h'.get? i = some o) → ItAt t h' i a n
  | true, x, e => Heap.IsTupleIter.at x e
  | false, x, e => Heap.IsListIter.at x e
theorem ItAt.here {h : Heap} {i a : Addr} {n : Nat} : ∀ {t : Bool}, ItAt t h i a n → ∃ o, h.get? i = some o ∧ ∀ v, o.data ≠ .cell v
  | true, ⟨o, e, _, d⟩ => ⟨o, e, fun v q => by rw [d] at q; cases q⟩
  | false, ⟨o, e, _, d⟩ => ⟨o, e, fun v q => by rw [d] at q; cases q⟩
section
variable {prog : Program} {w : World} {A : Around} {E : Value → Shared → Prop} {s : Shared}
theorem nx_item {it l : Addr} {i : Nat} {items : Array Value} {x : Value} {Q : Value → Shared → Prop} : ∀ {t : Bool}, ItAt t s.heap it l i → SqAt t s.heap l items → items[i]? = some x →
    (∀ h', ItAt t h' it l (i + 1) → Heap.SameBut it s.heap h' → Q x { s with heap := h' }) → wpAny (model prog w) A (Builtin.SmallTypes.nextOf (.ref it)) Q E s
  | true, a, b, c, d => RZ.nextOf_tuple_item a b c d
  | false, a, b, c, d => wpAny_nextOf_list_item a b c d
theorem nx_end {it l : Addr} {i : Nat} {items : Array Value} {Q : Value → Shared → Prop} (hh : A.handled = none) : ∀ {t : Bool}, ItAt t s.heap it l i → SqAt t s.heap l items → items[i]? = none →
    (∀ h' e, Heap.ExtBut it s.heap h' → (∃ o, h'.get? e = some o ∧ o.cls = .type "StopIteration") → E (.ref e) { s with heap := h' }) → wpAny (model prog w) A (Builtin.SmallTypes.nextOf (.ref it)) Q E s
  | true, a, b, c, d => RZ.nextOf_tuple_end hh a b c d
  | false, a, b, c, d => wpAny_nextOf_list_end hh a b c d
theorem noe_item {it l : Addr} {i : Nat} {items : Array Value} {x : Value} {Q : Option Value → Shared → Prop} {t : Bool} (a : ItAt t s.heap it l i) (b : SqAt t s.heap l items) (c : items[i]? = some x)
    (d : ∀ h', ItAt t h' it l (i + 1) → Heap.SameBut it s.heap h' → Q (some x) { s with heap := h' }) : wpAny (model prog w) A (Builtin.SmallTypes.nextOrEnd (.ref it)) Q E s := by
  unfold Builtin.SmallTypes.nextOrEnd
  exact wpAny_bind (wpAny_attempt (nx_item a b c fun h' e f => wpAny_pure (d h' e f)))
theorem noe_end {it l : Addr} {i : Nat} {items : Array Value} {Q : Option Value → Shared → Prop} {t : Bool} (hh : A.handled = none) (a : ItAt t s.heap it l i) (b : SqAt t s.heap l items) (c : items[i]? = none)
    (d : ∀ h', Heap.ExtBut it s.heap h' → Q none { s with heap := h' }) : wpAny (model prog w) A (Builtin.SmallTypes.nextOrEnd (.ref it)) Q E s := by
  unfold Builtin.SmallTypes.nextOrEnd
  refine wpAny_bind (wpAny_attempt (nx_end hh a b c fun h' e f ⟨o, ho, hc⟩ => ?_))
  exact wpAny_bind (wpAny_isInstance (T := "StopIteration") (b := true) ⟨o, ho, hc⟩ isSubtype_stop (wpAny_pure (d h' f)))
/-- a zip's cell; b: strict -/
abbrev IsZ (b : Bool) (h : Heap) (z TI TO : Addr) (f0 : Value) : Prop := h.get? z = some { cls := .type "zip", dict := none, data := .fields #[f0, .bool false, .bool b, .ref TI, .ref TO], slots := #[] }
theorem zb_item {b t1 t2 : Bool} {z TI TO i1 i2 l1 l2 : Addr} {k1 k2 : Nat} {xs ys : Array Value} {x y a c : Value} {Q : Value → Shared → Prop} (D : ZipApart z TI TO i1 i2 l1 l2)
    (hz : IsZ b s.heap z TI TO .none) (hTI : IsPair s.heap TI (.ref i1) (.ref i2)) (hTO : IsPair s.heap TO a c)
    (h1 : ItAt t1 s.heap i1 l1 k1) (h2 : ItAt t2 s.heap i2 l2 k2) (hl1 : SqAt t1 s.heap l1 xs) (hl2 : SqAt t2 s.heap l2 ys) (hx : xs[k1]? = some x) (hy : ys[k2]? = some y)
    (hQ : ∀ h', IsZ b h' z TI TO (rawInt s.heap.objs.size) → IsPair h' TO x y → ItAt t1 h' i1 l1 (k1 + 1) → ItAt t2 h' i2 l2 (k2 + 1) → IsPair h' s.heap.objs.size x y →
      (∀ c o, c ≠ z → c ≠ TO → c ≠ i1 → c ≠ i2 → s.heap.get? c = some o → h'.get? c = some o) → Q (.ref s.heap.objs.size) { s with heap := h' }) :
    wpAny (model prog w) A (Builtin.«zip.__next__» ⟨[.ref z], []⟩) (fun fin s' => ∃ v, fin = .done (.ret v) ∧ Q v s') E s := by
  (show wpAny _ _ (field (.ref z) 2 >>= _) _ _ _); refine wpAny_bind (wpAny_field hz rfl (x := .bool b) rfl ?_)
  (show wpAny _ _ (field (.ref z) 3 >>= _) _ _ _); refine wpAny_bind (wpAny_field hz rfl (x := .ref TI) rfl (wpAny_bind (wpAny_seqItems hTI rfl ?_)))
  (show wpAny _ _ (Builtin.SmallTypes.ownedTupleIsFree (.ref z) >>= _) _ _ _); refine wpAny_bind ?_
  unfold Builtin.SmallTypes.ownedTupleIsFree; refine wpAny_bind (wpAny_field hz rfl (x := .none) rfl (wpAny_pure ?_))
  simp only [if_true]; refine wpAny_bind (wpAny_rule (wpAny_bind (wpAny_field hz rfl (x := .ref TO) rfl (wpAny_bind (wpAny_setField_rec hz (by simp) fun h₁ hz₁ hs₁ => ?_)))))
  replace hz₁ : IsZ b h₁ z TI TO .ellipsis := hz₁
  refine wpAny_bind ?_; simp only [List.zipIdx_cons, List.zipIdx_nil, List.forIn_cons, List.forIn_nil]
  have step1 : ∀ {R : Option Value → Shared → Prop} {E' : Value → Shared → Prop} {A' : Around}, (∀ h₂, ItAt t1 h₂ i1 l1 (k1 + 1) → Heap.SameBut i1 h₁ h₂ → R (some x) { s with heap := h₂ }) → (∀ m : Sem (Option Value), m = (if (Value.bool b == Value.bool true) = true then Builtin.SmallTypes.nextOrEnd (.ref i1) else do return some (← Builtin.SmallTypes.nextOf (.ref i1))) → wpAny (model prog w) A' m R E' { s with heap := h₁ }) := by
    rintro R E' A' hR m rfl
    cases b with
    | true => show wpAny _ _ (Builtin.SmallTypes.nextOrEnd (.ref i1)) _ _ _; exact noe_item (h1.off hs₁.extBut D.i1z) (hl1.off hs₁.extBut D.l1z) hx hR
    | false => show wpAny _ _ (Builtin.SmallTypes.nextOf (.ref i1) >>= _) _ _ _; exact wpAny_bind (nx_item (h1.off hs₁.extBut D.i1z) (hl1.off hs₁.extBut D.l1z) hx fun h₂ p q => wpAny_pure (hR h₂ p q))
  refine wpAny_bind (wpAny_bind (wpAny_onRaise (step1 (fun h₂ h1₂ hs₂ => ?_) _ rfl)))
  have hTO₂ : IsPair h₂ TO a c := hs₂.extBut _ _ D.TOi1 (hs₁.extBut _ _ D.TOz hTO)
  refine wpAny_bind (wpAny_seqItems hTO₂ rfl (wpAny_bind (wpAny_updateSeq_pair hTO₂ fun h₃ hTO₃ hs₃ => ?_)))
  replace hTO₃ : IsPair h₃ TO x c := hTO₃
  refine wpAny_bind (wpAny_letGo (wpAny_pure ?_))
  have step2 : ∀ {R : Option Value → Shared → Prop} {E' : Value → Shared → Prop} {A' : Around}, (∀ h₄, ItAt t2 h₄ i2 l2 (k2 + 1) → Heap.SameBut i2 h₃ h₄ → R (some y) { s with heap := h₄ }) → (∀ m : Sem (Option Value), m = (if (Value.bool b == Value.bool true) = true then Builtin.SmallTypes.nextOrEnd (.ref i2) else do return some (← Builtin.SmallTypes.nextOf (.ref i2))) → wpAny (model prog w) A' m R E' { s with heap := h₃ }) := by
    rintro R E' A' hR m rfl
    have hi := ((h2.off hs₁.extBut D.i2z).off hs₂.extBut D.i12.symm).off hs₃.extBut D.TOi2.symm
    have hl := ((hl2.off hs₁.extBut D.l2z).off hs₂.extBut D.l2i1).off hs₃.extBut D.l2TO
    cases b with
    | true => show wpAny _ _ (Builtin.SmallTypes.nextOrEnd (.ref i2)) _ _ _; exact noe_item (s := { s with heap := h₃ }) hi hl hy hR
    | false => show wpAny _ _ (Builtin.SmallTypes.nextOf (.ref i2) >>= _) _ _ _; exact wpAny_bind (nx_item (s := { s with heap := h₃ }) hi hl hy fun h₂ p q => wpAny_pure (hR h₂ p q))
  refine wpAny_bind (wpAny_bind (wpAny_onRaise (step2 (fun h₄ h2₄ hs₄ => ?_) _ rfl)))
  have hTO₄ : IsPair h₄ TO x c := hs₄.extBut _ _ D.TOi2 hTO₃
  refine wpAny_bind (wpAny_seqItems hTO₄ rfl (wpAny_bind (wpAny_updateSeq_pair hTO₄ fun h₅ hTO₅ hs₅ => ?_)))
  replace hTO₅ : IsPair h₅ TO x y := hTO₅
  refine wpAny_bind (wpAny_letGo (wpAny_pure (wpAny_pure (wpAny_bind (wpAny_seqItems hTO₅ rfl (wpAny_bind (wpAny_newTuple ?_)))))))
  have hsz : h₅.objs.size = s.heap.objs.size := ((((hs₅.1.trans hs₄.1).trans hs₃.1).trans hs₂.1).trans hs₁.1)
  have keep5 : ∀ c o, c ≠ z → c ≠ TO → c ≠ i1 → c ≠ i2 → s.heap.get? c = some o → h₅.get? c = some o := fun c o c1 c2 c3 c4 e => hs₅.extBut _ _ c2 (hs₄.extBut _ _ c4 (hs₃.extBut _ _ c2 (hs₂.extBut _ _ c3 (hs₁.extBut _ _ c1 e))))
  have hz5 : IsZ b h₅ z TI TO .ellipsis := hs₅.extBut _ _ D.TOz.symm (hs₄.extBut _ _ D.i2z.symm (hs₃.extBut _ _ D.TOz.symm (hs₂.extBut _ _ D.i1z.symm hz₁)))
  have it1 : ItAt t1 h₅ i1 l1 (k1 + 1) := ((h1₂.off hs₃.extBut D.TOi1.symm).off hs₄.extBut D.i12).off hs₅.extBut D.TOi1.symm
  have it2 : ItAt t2 h₅ i2 l2 (k2 + 1) := h2₄.off hs₅.extBut D.TOi2.symm
  have ltz : z < h₅.objs.size := Heap.lt_size hz5
  (show wpAny _ _ (Builtin.SmallTypes.ownedTupleHandOut (.ref z) (.ref h₅.objs.size) >>= _) _ _ _); refine wpAny_bind ?_
  unfold Builtin.SmallTypes.ownedTupleHandOut
  have hz6 : IsZ b (h₅.push { cls := .type "tuple", data := .seq #[x, y] }) z TI TO .ellipsis := Heap.get?_push_of_some _ hz5
  refine wpAny_bind (wpAny_setField_rec hz6 (by simp) fun h₇ hz₇ hs₇ => ?_)
  replace hz₇ : IsZ b h₇ z TI TO (rawInt h₅.objs.size) := hz₇
  refine wpAny_setField_rec hz₇ (by simp) fun h₈ hz₈ hs₈ => ?_
  replace hz₈ : IsZ b h₈ z TI TO (rawInt h₅.objs.size) := hz₈
  have up : ∀ c o, c ≠ z → h₅.get? c = some o → h₈.get? c = some o := fun c o c1 e => hs₈.extBut _ _ c1 (hs₇.extBut _ _ c1 (Heap.get?_push_of_some _ e))
  have hT8 : IsPair h₈ h₅.objs.size x y := hs₈.extBut _ _ (Nat.ne_of_gt ltz) (hs₇.extBut _ _ (Nat.ne_of_gt ltz) (Heap.get?_push_size _ rfl))
  rw [hsz] at hz₈ hT8
  refine wpAny_pure ⟨_, rfl, ?_⟩
  (show Q (.ref h₅.objs.size) _); rw [hsz]
  exact hQ h₈ hz₈ (up _ _ D.TOz hTO₅) (it1.at fun o e => up _ o D.i1z e) (it2.at fun o e => up _ o D.i2z e) hT8 fun c o c1 c2 c3 c4 e => up c o c1 (keep5 c o c1 c2 c3 c4 e)
def ZEnd (b : Bool) (p q : Prop) : Prop := match b with
  | true => p ∧ q
  | false => p ∨ q
theorem zb_end {b t1 t2 : Bool} {z TI TO i1 i2 l1 l2 : Addr} {k1 k2 : Nat} {xs ys : Array Value} {a c : Value} {Q : Fin → Shared → Prop} (hh : A.handled = none) (D : ZipApart z TI TO i1 i2 l1 l2)
    (hz : IsZ b s.heap z TI TO .none) (hTI : IsPair s.heap TI (.ref i1) (.ref i2)) (hTO : IsPair s.heap TO a c)
    (h1 : ItAt t1 s.heap i1 l1 k1) (h2 : ItAt t2 s.heap i2 l2 k2) (hl1 : SqAt t1 s.heap l1 xs) (hl2 : SqAt t2 s.heap l2 ys) (hend : ZEnd b (xs[k1]? = none) (ys[k2]? = none))
    (hE : ∀ h' e, (∀ c o, c ≠ z → c ≠ TO → c ≠ i1 → c ≠ i2 → s.heap.get? c = some o → h'.get? c = some o) → (∃ o, h'.get? e = some o ∧ o.cls = .type "StopIteration") → E (.ref e) { s with heap := h' }) :
    wpAny (model prog w) A (Builtin.«zip.__next__» ⟨[.ref z], []⟩) Q E s := by
  (show wpAny _ _ (field (.ref z) 2 >>= _) _ _ _); refine wpAny_bind (wpAny_field hz rfl (x := .bool b) rfl ?_)
  (show wpAny _ _ (field (.ref z) 3 >>= _) _ _ _); refine wpAny_bind (wpAny_field hz rfl (x := .ref TI) rfl (wpAny_bind (wpAny_seqItems hTI rfl ?_)))
  (show wpAny _ _ (Builtin.SmallTypes.ownedTupleIsFree (.ref z) >>= _) _ _ _); refine wpAny_bind ?_
  unfold Builtin.SmallTypes.ownedTupleIsFree; refine wpAny_bind (wpAny_field hz rfl (x := .none) rfl (wpAny_pure ?_))
  simp only [if_true]; refine wpAny_bind (wpAny_rule (wpAny_bind (wpAny_field hz rfl (x := .ref TO) rfl (wpAny_bind (wpAny_setField_rec hz (by simp) fun h₁ hz₁ hs₁ => ?_)))))
  replace hz₁ : IsZ b h₁ z TI TO .ellipsis := hz₁
  refine wpAny_bind ?_; simp only [List.zipIdx_cons, List.zipIdx_nil, List.forIn_cons, List.forIn_nil]
  refine wpAny_bind (wpAny_bind (wpAny_onRaise ?_))
  have hi1 := h1.off hs₁.extBut D.i1z
  have hq1 := hl1.off hs₁.extBut D.l1z
  cases b with
  | true =>
    obtain ⟨hx, hy⟩ := hend
    (show wpAny _ _ (Builtin.SmallTypes.nextOrEnd (.ref i1)) _ _ _); refine noe_end hh hi1 hq1 hx fun h₂ hs₂ => ?_
    have hz₂ : IsZ true h₂ z TI TO .ellipsis := hs₂ _ _ D.i1z.symm hz₁
    refine wpAny_bind (wpAny_setField_rec hz₂ (by simp) fun h₃ hz₃ hs₃ => ?_)
    have hi2 := ((h2.off hs₁.extBut D.i2z).off hs₂ D.i12.symm).off hs₃.extBut D.i2z
    have hq2 := ((hl2.off hs₁.extBut D.l2z).off hs₂ D.l2i1).off hs₃.extBut D.l2z
    have up : ∀ c o, c ≠ z → c ≠ i1 → s.heap.get? c = some o → h₃.get? c = some o := fun c o c1 c3 x => hs₃.extBut _ _ c1 (hs₂ _ _ c3 (hs₁.extBut _ _ c1 x))
    refine wpAny_bind ?_
    (show wpAny _ _ (forIn [((.ref i2 : Value), 1)] PUnit.unit _ >>= _) _ _ _); simp only [List.forIn_cons, List.forIn_nil]
    refine wpAny_bind (wpAny_bind (wpAny_bind (noe_end (s := { s with heap := h₃ }) hh hi2 hq2 hy fun h₄ hs₄ => ?_)))
    rw [if_neg (by simp)]; refine wpAny_pure (wpAny_pure (wpAny_bind (wpAny_rule ?_)))
    unfold Builtin.SmallTypes.stopIteration; refine wpAny_bind ?_; simp only [newExc, newTuple]
    refine wpAny_bind (wpAny_newObj_type (wpAny_bind (m := firstArgMember _ _) (wpAny_of_eq (a := Value.none) (by first | rfl | (simp only [firstArgMember]; rfl)) (wpAny_newObj_type ?_ (by size_fits)))) (by size_fits))
    simp only [raiseNew]; refine wpAny_bind (wpAny_handled ?_)
    rw [hh]; refine wpAny_bind (wpAny_pure (wpAny_throw ?_))
    exact hE _ _ (fun c o c1 c2 c3 c4 q => Heap.get?_push_of_some _ (Heap.get?_push_of_some _ (hs₄ _ _ c4 (up c o c1 c3 q)))) ⟨_, Heap.get?_push_size _ rfl, rfl⟩
  | false =>
    (show wpAny _ _ (Builtin.SmallTypes.nextOf (.ref i1) >>= _) _ _ _)
    cases hx : xs[k1]? with
    | none =>
      refine wpAny_bind (nx_end hh hi1 hq1 hx fun h₂ e hs₂ ⟨oe, hoe, hce⟩ => ?_)
      have hz₂ : IsZ false h₂ z TI TO .ellipsis := hs₂ _ _ D.i1z.symm hz₁
      have hez : e ≠ z := fun x => by rw [x, hz₂] at hoe; cases hoe; simp at hce
      exact wpAny_setField_rec hz₂ (by simp) fun h₃ _ hs₃ => hE h₃ e (fun c o c1 _ c3 _ x => hs₃.extBut _ _ c1 (hs₂ _ _ c3 (hs₁.extBut _ _ c1 x))) ⟨oe, hs₃.extBut _ _ hez hoe, hce⟩
    | some x =>
      have hy : ys[k2]? = none := hend.elim (fun h => by rw [hx] at h; cases h) id
      refine wpAny_bind (nx_item hi1 hq1 hx fun h₂ h1₂ hs₂ => wpAny_pure ?_)
      have hTO₂ : IsPair h₂ TO a c := hs₂.extBut _ _ D.TOi1 (hs₁.extBut _ _ D.TOz hTO)
      refine wpAny_bind (wpAny_seqItems hTO₂ rfl (wpAny_bind (wpAny_updateSeq_pair hTO₂ fun h₃ hTO₃ hs₃ => wpAny_bind (wpAny_letGo (wpAny_pure (wpAny_bind (wpAny_bind (wpAny_onRaise ?_))))))))
      (show wpAny _ _ (Builtin.SmallTypes.nextOf (.ref i2) >>= _) _ _ _)
      refine wpAny_bind (nx_end (s := { s with heap := h₃ }) hh (((h2.off hs₁.extBut D.i2z).off hs₂.extBut D.i12.symm).off hs₃.extBut D.TOi2.symm) (((hl2.off hs₁.extBut D.l2z).off hs₂.extBut D.l2i1).off hs₃.extBut D.l2TO) hy fun h₄ e hs₄ ⟨oe, hoe, hce⟩ => ?_)
      have hz₄ : IsZ false h₄ z TI TO .ellipsis := hs₄ _ _ D.i2z.symm (hs₃.extBut _ _ D.TOz.symm (hs₂.extBut _ _ D.i1z.symm hz₁))
      have hez : e ≠ z := fun x => by rw [x, hz₄] at hoe; cases hoe; simp at hce
      exact wpAny_setField_rec hz₄ (by simp) fun h₅ _ hs₅ => hE h₅ e (fun c o c1 c2 c3 c4 x => hs₅.extBut _ _ c1 (hs₄ _ _ c4 (hs₃.extBut _ _ c2 (hs₂.extBut _ _ c3 (hs₁.extBut _ _ c1 x))))) ⟨oe, hs₅.extBut _ _ hez hoe, hce⟩
theorem pn_item {b t1 t2 : Bool} {z TI TO i1 i2 l1 l2 : Addr} {k1 k2 : Nat} {xs ys : Array Value} {x y a c : Value} {Q : Option Value → Shared → Prop} (D : ZipApart z TI TO i1 i2 l1 l2)
    (hz : IsZ b s.heap z TI TO .none) (hTI : IsPair s.heap TI (.ref i1) (.ref i2)) (hTO : IsPair s.heap TO a c)
    (h1 : ItAt t1 s.heap i1 l1 k1) (h2 : ItAt t2 s.heap i2 l2 k2) (hl1 : SqAt t1 s.heap l1 xs) (hl2 : SqAt t2 s.heap l2 ys) (hx : xs[k1]? = some x) (hy : ys[k2]? = some y)
    (hQ : ∀ h', IsZ b h' z TI TO (rawInt s.heap.objs.size) → IsPair h' TO x y → ItAt t1 h' i1 l1 (k1 + 1) → ItAt t2 h' i2 l2 (k2 + 1) → IsPair h' s.heap.objs.size x y →
      (∀ c o, c ≠ z → c ≠ TO → c ≠ i1 → c ≠ i2 → s.heap.get? c = some o → h'.get? c = some o) → Q (some (.ref s.heap.objs.size)) { s with heap := h' }) :
    wpAny (model prog w) A (pyNext (.ref z)) Q E s := by
  have hT : s.TypeIs (.ref z) "zip" := ⟨_, hz, rfl⟩
  unfold pyNext; exact wpAny_bind (wpAny_attempt (wpAny_callSpecial?_slot (name := Str.ofString "__next__") hT F.slot_zip_next (wpAny_call_entry F.slot_zip_next hT F.entry_zip_next
    (zb_item D hz hTI hTO h1 h2 hl1 hl2 hx hy fun h' a1 a2 a3 a4 a5 a6 => wpAny_pure (hQ h' a1 a2 a3 a4 a5 a6)) (F.args_zip_next_1 _))))
theorem pn_end {b t1 t2 : Bool} {z TI TO i1 i2 l1 l2 : Addr} {k1 k2 : Nat} {xs ys : Array Value} {a c : Value} {Q : Option Value → Shared → Prop} (hh : A.handled = none) (D : ZipApart z TI TO i1 i2 l1 l2)
    (hz : IsZ b s.heap z TI TO .none) (hTI : IsPair s.heap TI (.ref i1) (.ref i2)) (hTO : IsPair s.heap TO a c)
    (h1 : ItAt t1 s.heap i1 l1 k1) (h2 : ItAt t2 s.heap i2 l2 k2) (hl1 : SqAt t1 s.heap l1 xs) (hl2 : SqAt t2 s.heap l2 ys) (hend : ZEnd b (xs[k1]? = none) (ys[k2]? = none))
    (hQ : ∀ h', (∀ c o, c ≠ z → c ≠ TO → c ≠ i1 → c ≠ i2 → s.heap.get? c = some o → h'.get? c = some o) → Q none { s with heap := h' }) : wpAny (model prog w) A (pyNext (.ref z)) Q E s := by
  have hT : s.TypeIs (.ref z) "zip" := ⟨_, hz, rfl⟩
  unfold pyNext; refine wpAny_bind (wpAny_attempt (wpAny_callSpecial?_slot (name := Str.ofString "__next__") hT F.slot_zip_next (wpAny_call_entry F.slot_zip_next hT F.entry_zip_next
    (zb_end hh D hz hTI hTO h1 h2 hl1 hl2 hend fun h' e hk ⟨o, ho, hc⟩ => ?_) (F.args_zip_next_1 _))))
  exact wpAny_bind (wpAny_isInstance (T := "StopIteration") (b := true) ⟨o, ho, hc⟩ isSubtype_stop (wpAny_pure (hQ _ hk)))
theorem let_go_zb {b : Bool} {elts : List Expr} {x1} {pos : Pos} {z TI TO T : Addr} {Q : Unit → Shared → Prop} (hz : IsZ b s.heap z TI TO (rawInt T))
    (hQ : ∀ h', IsZ b h' z TI TO .none → Heap.SameBut z s.heap h' → Q () { s with heap := h' }) :
    wpAny (model prog w) A (letOwnedTupleGo (.Tuple elts x1 pos) (.ref z) (.ref T)) Q E s := by
  unfold letOwnedTupleGo; refine wpAny_bind (wpAny_load hz ?_)
  (show wpAny _ _ (if (["enumerate", "zip", "dict_itemiterator", "dict_reverseitemiterator", "odict_iterator", "itertools.zip_longest", "itertools.pairwise"].contains "zip" && (#[rawInt T, .bool false, .bool b, .ref TI, .ref TO] : Array Value)[0]? == some (rawInt T)) = true then _ else _) Q E s)
  rw [if_pos (by simp)]; refine wpAny_bind (wpAny_rule ?_)
  (show wpAny _ _ (setField (.ref z) 0 .none) Q E s); exact wpAny_setField_rec hz (by simp) fun h' hz' hs' => hQ h' hz' hs'
theorem py_iter_zb {b : Bool} {z TI TO : Addr} {f0 : Value} {Q : Value → Shared → Prop} (hz : IsZ b s.heap z TI TO f0) (h : Q (.ref z) s) : wpAny (model prog w) A (pyIter (.ref z)) Q E s := by
  have hT : s.TypeIs (.ref z) "zip" := ⟨_, hz, rfl⟩
  refine wpAny_pyIter_slot hT F.slot_zip_iter (wpAny_call_entry F.slot_zip_iter hT F.entry_zip_iter (?_ : wpAny _ _ (ret (.ref z)) _ _ s) (F.args_zip_iter_1 _))
  exact wpAny_pure ⟨_, rfl, "zip", _, hT, F.slot_zip_next.lookup, h⟩
end
/-! ### the turns -/
def SqK (K : PySem.W.Frag) (H : Hp) (a : Addr) (t : Bool) (xs : List V) : Prop := match t with
  | true => SqT K H a xs
  | false => SqL K H a xs
/-- the rows at a and c as they stand at each turn, the items in new pairs -/
def ItzB (K : PySem.W.Frag) (b t1 t2 : Bool) (a c : Addr) : It :=
  ⟨fun i H => ∃ (xs ys : List V) (x y : V), SqK K H a t1 xs ∧ SqK K H c t2 ys ∧ xs[i]? = some x ∧ ys[i]? = some y,
    fun i H v H' => ∃ T x y, v = .ref T ∧ H T = none ∧ H' = upd H T (.tup [x, y]) ∧ (∀ xs, SqK K H a t1 xs → xs[i]? = some x) ∧ ∀ ys, SqK K H c t2 ys → ys[i]? = some y,
    fun i H => ∃ xs ys : List V, SqK K H a t1 xs ∧ SqK K H c t2 ys ∧ ZEnd b (xs.length ≤ i) (ys.length ≤ i)⟩
theorem sqk_at {X : Cx} {pins : List (Addr × Obj)} {σ : L2.St} {H : Hp} {s : Shared} (I : Inv X pins σ H s) {a : Addr} {xs : List V} : ∀ {t : Bool}, SqK X.K H a t xs → ∃ its : List Value, Vals xs its ∧ SqAt t s.heap a its.toArray ∧ a < s.heap.objs.size
  | true, h => by
    obtain ⟨its, rv, p, _⟩ := I.tuple h
    obtain ⟨o, e, _⟩ := id p
    exact ⟨its, rv, p, Heap.lt_size e⟩
  | false, h => by
    obtain ⟨its, rv, p, _⟩ := I.list h
    exact ⟨its, rv, p.isList, p.lt⟩
theorem sqk_inj {X : Cx} {pins : List (Addr × Obj)} {σ : L2.St} {H : Hp} {s : Shared} (I : Inv X pins σ H s) {a : Addr} {xs ys : List V} : ∀ {t : Bool}, SqK X.K H a t xs → SqK X.K H a t ys → xs = ys
  | true, h, h' => I.tuple_inj h h'
  | false, h, h' => I.list_inj h h'
theorem turn_zb {P : Program} {w : World} {K : PySem.W.Frag} {elts : List Expr} {kk : Nat} {tpos : Pos} {b t1 t2 : Bool} {a c z TI TO i1 i2 : Addr} (D : ZipApart z TI TO i1 i2 a c) :
    Turn P w K (.Tuple elts kk tpos) (ItzB K b t1 t2 a c) [z, TI, TO, i1, i2] z (fun i h => IsZ b h z TI TO .none ∧ IsPair h TI (.ref i1) (.ref i2) ∧ (∃ x y, IsPair h TO x y) ∧ ItAt t1 h i1 a i ∧ ItAt t2 h i2 c i) where
  mem := by simp
  obj := fun i h st d hd => by
    obtain ⟨hz, hTI, ⟨x, y, hTO⟩, h1, h2⟩ := st
    have e' : d = z ∨ d = TI ∨ d = TO ∨ d = i1 ∨ d = i2 := by simpa using hd
    rcases e' with rfl | rfl | rfl | rfl | rfl
    · exact ⟨_, hz, fun v q => nomatch q⟩
    · exact ⟨_, hTI, fun v q => nomatch q⟩
    · exact ⟨_, hTO, fun v q => nomatch q⟩
    · exact h1.here
    · exact h2.here
  keep := fun i h h' ⟨hz, hTI, ⟨x, y, hTO⟩, h1, h2⟩ k => ⟨k z (by simp) _ hz, k TI (by simp) _ hTI, ⟨x, y, k TO (by simp) _ hTO⟩, h1.at fun o q => k i1 (by simp) o q, h2.at fun o q => k i2 (by simp) o q⟩
  item := by
    intro X hP hw hK hc i pins s σ H E I hf st hg
    subst hP hw hK
    obtain ⟨hz, hTI, ⟨x0, y0, hTO⟩, h1, h2⟩ := st
    obtain ⟨xs, ys, x, y, hqx, hqy, hx, hy⟩ := hg
    obtain ⟨its, rv, p, _⟩ := sqk_at I hqx
    obtain ⟨its2, rv2, p2, _⟩ := sqk_at I hqy
    obtain ⟨u, hu, ru⟩ := rv.get hx
    obtain ⟨u2, hu2, ru2⟩ := rv2.get hy
    have hzl : z < s.heap.objs.size := Heap.lt_size hz
    refine pn_item D hz hTI hTO h1 h2 p p2 (x := u) (y := u2) (by simpa using hu) (by simpa using hu2) fun h' z' TO' h1' h2' hT hk => ⟨_, rfl, let_go_zb (s := { s with heap := h' }) z' fun h'' z'' sb => ?_⟩
    have both : ∀ d o, d ≠ z → d ≠ TO → d ≠ i1 → d ≠ i2 → s.heap.get? d = some o → h''.get? d = some o := fun d o n1 n2 n3 n4 q => (sb.2 d n1).trans (hk d o n1 n2 n3 n4 q)
    have hT2 : h''.get? s.heap.objs.size = some { cls := .type "tuple", data := .seq #[u, u2] } := (sb.2 _ (Nat.ne_of_gt hzl)).trans hT
    have new : ObjOk X.prog X.w (upd H s.heap.objs.size (.tup [x, y])) h'' s.heap.objs.size (.tup [x, y]) := ⟨(by decide : 2 ≤ sizeLine), [u, u2], .cons ru (.cons ru2 .nil), ⟨_, hT2, rfl, _, rfl⟩⟩
    have I1 : Inv X pins σ (upd H s.heap.objs.size (.tup [x, y])) { s with heap := h'' } :=
      I.turnedNew (t' := s.toks) (ch := [z, TI, TO, i1, i2]) (fun d o hb q => both d o (fun q' => hb (by simp [q'])) (fun q' => hb (by simp [q'])) (fun q' => hb (by simp [q'])) (fun q' => hb (by simp [q'])) q) hf (Nat.le_refl _) new
    refine ⟨.ref s.heap.objs.size, _, I1, rfl, ⟨_, x, y, rfl, I.hok.fresh (Nat.le_refl _), rfl, fun l hl => by rw [sqk_inj I hl hqx]; exact hx, fun l hl => by rw [sqk_inj I hl hqy]; exact hy⟩, ⟨z'', both _ _ D.TIz D.TITO D.TIi1 D.TIi2 hTI, ⟨u, u2, (sb.2 _ D.TOz).trans TO'⟩, h1'.at fun o q => (sb.2 _ D.i1z).trans q, h2'.at fun o q => (sb.2 _ D.i2z).trans q⟩, fun d hd => ?_⟩
    have hlt : d < s.heap.objs.size := by
      have e' : d = z ∨ d = TI ∨ d = TO ∨ d = i1 ∨ d = i2 := by simpa using hd
      rcases e' with q | q | q | q | q
      · rw [q]; exact hzl
      · rw [q]; exact Heap.lt_size hTI
      · rw [q]; exact Heap.lt_size hTO
      · rw [q]; obtain ⟨_, e1, _⟩ := h1.here; exact Heap.lt_size e1
      · rw [q]; obtain ⟨_, e2, _⟩ := h2.here; exact Heap.lt_size e2
    rw [upd_ne (Nat.ne_of_lt hlt)]
    exact (hf d hd).1
  done := by
    intro X hP hw hK hc i pins s σ H E I hf st hg
    subst hP hw hK
    obtain ⟨hz, hTI, ⟨x0, y0, hTO⟩, h1, h2⟩ := st
    obtain ⟨xs, ys, hqx, hqy, hend⟩ := hg
    obtain ⟨its, rv, p, _⟩ := sqk_at I hqx
    obtain ⟨its2, rv2, p2, _⟩ := sqk_at I hqy
    have l1 := rv.length
    have l2 := rv2.length
    have he : ZEnd b (its.toArray[i]? = none) (its2.toArray[i]? = none) := by
      cases b with
      | true => exact ⟨by have := hend.1; simp; omega, by have := hend.2; simp; omega⟩
      | false => exact hend.elim (fun q => .inl (by simp; omega)) fun q => .inr (by simp; omega)
    exact pn_end (I.ok.hd hc) D hz hTI hTO h1 h2 p p2 he fun h' hk => ⟨rfl, I.turnedL (t' := s.toks) (ch := [z, TI, TO, i1, i2]) (fun d o hb q => hk d o (fun q' => hb (by simp [q'])) (fun q' => hb (by simp [q'])) (fun q' => hb (by simp [q'])) (fun q' => hb (by simp [q'])) q) hf⟩
  self := fun A i s Q E st h => py_iter_zb st.1 h
/-! ### the calls -/
theorem callWith_tkw {M : Model} {A : Around} {E : Value → Shared → Prop} {s : Shared} {pos : Pos} {T : String} {args : List (Bool × Sem Value)} {ks : List (Option Str × Sem Value)} {Q : Value → Shared → Prop} (hp : args.any (·.1) = false) (hk : ks.any (·.1.isNone) = false)
    (h : wpAny M A (evalArgs (.type T) true args ks) (fun a s₁ => wpAny M A (call (.type T) ([] ++ a.pos) a.kw) Q E s₁) E s) : wpAny M A (callWith pos (.type T) [] args ks) Q E s := by
  unfold callWith
  refine wpAny_bind (wpAny_holding (wpAny_mono h (fun a s₁ g => wpAny_bind (wpAny_standAt ?_)) fun _ _ x => x))
  simp only [hp, hk, Bool.or_false]
  exact wpAny_bind (wpAny_pure (wpAny_bind (wpAny_mono g (fun r s₂ hr => wpAny_bind (wpAny_holding (wpAny_point (wpAny_pure hr)))) fun _ _ x => x)))
namespace F
theorem tc_zip_s (a b v : Value) : checkTypeCall "zip" ⟨[a, b], [(Str.ofString "strict", v)]⟩ = pure () := by kernel_rfl
theorem nc_zip_s (a b v : Value) : checkBuiltinCall "zip.__new__" ⟨[.type "zip", a, b], [(Str.ofString "strict", v)]⟩ = pure () := by kernel_rfl
theorem oi_zip_s (obj a b v : Value) : argsOk "object.__init__" ⟨[obj, a, b], [(Str.ofString "strict", v)]⟩ := by unfold argsOk; kernel_rfl
end F
abbrev zsT (h : Heap) (o1 o2 : Obj) : Heap := ((h.push o1).push o2).push { cls := .type "tuple", data := .seq #[.ref h.objs.size, .ref (h.push o1).objs.size] }
abbrev zsO (h : Heap) (o1 o2 : Obj) : Heap := (zsT h o1 o2).push { cls := .type "tuple", data := .seq #[.none, .none] }
abbrev zsZ (h : Heap) (o1 o2 : Obj) : Heap := (zsO h o1 o2).push { cls := .type "zip", data := .fields #[.none, .bool false, .bool true, .ref ((h.push o1).push o2).objs.size, .ref (zsT h o1 o2).objs.size] }
theorem meets_zs {v1 v2 : Value} {o1 o2 : Obj} {H1 H2 : Heap → Prop} (B1 : PySem.Begins v1 o1 H1) (B2 : PySem.Begins v2 o2 H2) :
    Meets (Builtin.«zip.__new__» ⟨[.type "zip", v1, v2], [(Str.ofString "strict", .bool true)]⟩) (fun _ R s => (H1 s.heap ∧ H2 s.heap) ∧ R (.ok (.ret (.ref (zsO s.heap o1 o2).objs.size))) { s with heap := zsZ s.heap o1 o2 }) :=
  .of_wp fun prog w A R s h => by
    obtain ⟨hp, g, d, tk, os⟩ := s; obtain ⟨⟨h1, h2⟩, h⟩ := h
    have hsub := sub_zip
    have q1 : ∀ {A' : Around} {E : Value → Shared → Prop} {Q : Value → Shared → Prop}, Q (.ref hp.objs.size) ⟨(hp.push o1), g, d, tk, os⟩ → wpAny (model prog w) A' (pyIter v1) Q E ⟨hp, g, d, tk, os⟩ := fun q => B1.iter prog w _ _ ⟨hp, g, d, tk, os⟩ _ (B1.keeps _ _ h1 fun b o' e => e) q
    have q2 : ∀ {A' : Around} {E : Value → Shared → Prop} {Q : Value → Shared → Prop}, Q (.ref (hp.push o1).objs.size) ⟨((hp.push o1).push o2), g, d, tk, os⟩ → wpAny (model prog w) A' (pyIter v2) Q E ⟨(hp.push o1), g, d, tk, os⟩ := fun q => B2.iter prog w _ _ ⟨(hp.push o1), g, d, tk, os⟩ _ (B2.keeps _ _ h2 fun b o' e => (Heap.get?_push_of_some _ e)) q
    have e2 : (Str.ofString "strict" != ("strict" : Str)) = false := by decide +kernel
    wp_walk using q1, q2
    exact ⟨_, rfl, h⟩
section
variable {prog : Program} {w : World} {A : Around} {E : Value → Shared → Prop} {s : Shared}
theorem zip_begS {v1 v2 : Value} {o1 o2 : Obj} {H1 H2 : Heap → Prop} {Q : Value → Shared → Prop} (B1 : PySem.Begins v1 o1 H1) (B2 : PySem.Begins v2 o2 H2) (h1 : H1 s.heap) (h2 : H2 s.heap)
    (h : ∀ h', IsZ true h' (s.heap.objs.size + 4) (s.heap.objs.size + 2) (s.heap.objs.size + 3) .none → IsPair h' (s.heap.objs.size + 2) (.ref s.heap.objs.size) (.ref (s.heap.objs.size + 1)) →
      IsPair h' (s.heap.objs.size + 3) .none .none → h'.get? s.heap.objs.size = some o1 → h'.get? (s.heap.objs.size + 1) = some o2 →
      (∀ c o, s.heap.get? c = some o → h'.get? c = some o) → Q (.ref (s.heap.objs.size + 4)) { s with heap := h' }) :
    wpAny (model prog w) A (call (.type "zip") [v1, v2] [(Str.ofString "strict", .bool true)]) Q E s := by
  refine callType_newKw F.called_zip (by decide) (F.tc_zip_s _ _ _) (F.nc_zip_s _ _ _) (fun obj => F.oi_zip_s obj _ _ _) F.entry_zip_new (meets_zs B1 B2) ⟨⟨h1, h2⟩, ?_⟩
  have z1 : (s.heap.push o1).objs.size = s.heap.objs.size + 1 := Heap.size_push ..
  have z2 : ((s.heap.push o1).push o2).objs.size = s.heap.objs.size + 2 := (Heap.size_push ..).trans (congrArg (· + 1) z1)
  have zT : (zsT s.heap o1 o2).objs.size = s.heap.objs.size + 3 := (Heap.size_push ..).trans (congrArg (· + 1) z2)
  have zO : (zsO s.heap o1 o2).objs.size = s.heap.objs.size + 4 := (Heap.size_push ..).trans (congrArg (· + 1) zT)
  have gZ : (zsZ s.heap o1 o2).get? (zsO s.heap o1 o2).objs.size = some { cls := .type "zip", data := .fields #[.none, .bool false, .bool true, .ref ((s.heap.push o1).push o2).objs.size, .ref (zsT s.heap o1 o2).objs.size] } := Heap.get?_push_size (zsO s.heap o1 o2) rfl
  have gO : (zsZ s.heap o1 o2).get? (zsT s.heap o1 o2).objs.size = some _ := Heap.get?_push_of_some _ (Heap.get?_push_size _ rfl)
  have gT : (zsZ s.heap o1 o2).get? ((s.heap.push o1).push o2).objs.size = some _ := Heap.get?_push_of_some _ (Heap.get?_push_of_some _ (Heap.get?_push_size _ rfl))
  have g1 : (zsZ s.heap o1 o2).get? s.heap.objs.size = some _ := Heap.get?_push_of_some _ (Heap.get?_push_of_some _ (Heap.get?_push_of_some _ (Heap.get?_push_of_some _ (Heap.get?_push_size _ B1.free))))
  have g2 : (zsZ s.heap o1 o2).get? (s.heap.push o1).objs.size = some _ := Heap.get?_push_of_some _ (Heap.get?_push_of_some _ (Heap.get?_push_of_some _ (Heap.get?_push_size _ B2.free)))
  rw [zO, zT, z2] at gZ; rw [zT] at gO; rw [z2, z1] at gT; rw [z1] at g2
  show _ ∧ _
  rw [zO]
  exact ⟨⟨_, gZ, rfl⟩, h _ gZ gT gO g1 g2 fun c o e => Heap.get?_push_of_some _ (Heap.get?_push_of_some _ (Heap.get?_push_of_some _ (Heap.get?_push_of_some _ (Heap.get?_push_of_some _ e))))⟩
end
def itO (t : Bool) (a : Addr) : Obj := match t with
  | true => { cls := .type "tuple_iterator", data := .fields #[.ref a, .int 0 0] }
  | false => { cls := .type "list_iterator", data := .fields #[.ref a, .int 0 0] }
theorem beg_k (t : Bool) (a : Addr) (items : Array Value) : PySem.Begins (.ref a) (itO t a) fun h => SqAt t h a items := match t with
  | true => begins_tuple a items
  | false => begins_list a items
theorem it0 {t : Bool} {h : Heap} {i a : Addr} (e : h.get? i = some (itO t a)) : ItAt t h i a 0 := match t, e with
  | true, e => ⟨_, e, rfl, rfl⟩
  | false, e => ⟨_, e, rfl, rfl⟩
def tZip (K : PySem.W.Frag) (b : Bool) (ta : TA) : TI := fun σ H R => ta σ H fun vs H1 => ∃ a c t1 t2 xs ys, vs = [.ref a, .ref c] ∧ SqK K H1 a t1 xs ∧ SqK K H1 c t2 ys ∧ R (ItzB K b t1 t2 a c) H1
theorem fp5 {X : Cx} {pins : List (Addr × Obj)} {σ : L2.St} {H : Hp} {s : Shared} (I : Inv X pins σ H s) : ∀ c, c ∈ [s.heap.objs.size + 4, s.heap.objs.size + 2, s.heap.objs.size + 3, s.heap.objs.size, s.heap.objs.size + 1] → FpOk X pins H c := fun c hc => by
  have hle : s.heap.objs.size ≤ c := by
    have e' : c = s.heap.objs.size + 4 ∨ c = s.heap.objs.size + 2 ∨ c = s.heap.objs.size + 3 ∨ c = s.heap.objs.size ∨ c = s.heap.objs.size + 1 := by simpa using hc
    rcases e' with z | z | z | z | z <;> (rw [z]; simp)
  exact I.fpOk hle (I.hok.fresh hle)
theorem pi_zb {X : Cx} {e e2 : Expr} {ta : TA} {p pos tpos : Pos} {elts : List Expr} {kk : Nat} (hg : Gl X "zip") (hm : X.mg "zip" = none) (ha : PA X [e, e2] ta)
    (hs : starEach [e, e2] X.env = (false, eval e X.env) :: starEach [e2] X.env := by rfl) (hpl : (backTo pos (starEach [e2] X.env)).any (·.1) = false := by rfl) :
    PI X (.Tuple elts kk tpos) (.Call (.Name "zip" p) [e, e2] [] pos) (tZip X.K false ta) := by
  refine ⟨fun pins s σ H R I h => ?_⟩
  refine Call_ (ld_blt I hg hm PyProof.Rows.boot_zip (PyProof.Rows.callWith_type1 (thn (ha.run pos pins s σ H _ I h) fun us s1 ⟨vs, H1, I1, r1, a, c, t1, t2, xs, ys, ex, hqx, hqy, q⟩ => ?_) hs hpl))
  subst ex
  cases r1 with
  | cons r rr =>
    cases rr with
    | cons r' rr =>
      cases rr; cases r; cases r'
      obtain ⟨its, rv, p1, la⟩ := sqk_at I1 hqx
      obtain ⟨its2, rv2, p2, lc⟩ := sqk_at I1 hqy
      refine zip_begins2 (beg_k t1 a its.toArray) (beg_k t2 c its2.toArray) p1 p2 fun h' hz hTI hTO h1 h2 hsz hk => py_iter_zb (b := false) hz ?_
      exact ⟨_, _, _, _, H1, rfl, I1.kept (t' := s1.toks) hk, turn_zb (PySem.W.ktu_apart s1.heap.objs.size a c la lc), ⟨hz, hTI, ⟨_, _, hTO⟩, it0 h1, it0 h2⟩, fp5 I1, q⟩
theorem pi_zs {X : Cx} {e e2 : Expr} {ta : TA} {p pos tpos kp kpos : Pos} {elts : List Expr} {kk kj : Nat} (hg : Gl X "zip") (hm : X.mg "zip" = none) (ha : PA X [e, e2] ta)
    (hs : starEach [e, e2] X.env = (false, eval e X.env) :: starEach [e2] X.env := by rfl) (hpl : (backTo pos (starEach [e, e2] X.env)).any (·.1) = false := by rfl) :
    PI X (.Tuple elts kk tpos) (.Call (.Name "zip" p) [e, e2] [⟨some "strict", .Constant (.bool true) kj kp, kpos⟩] pos) (tZip X.K true ta) := by
  refine ⟨fun pins s σ H R I h => ?_⟩
  refine wpAny_Call_Name_kw (ld_blt I hg hm PyProof.Rows.boot_zip (callWith_tkw hpl rfl (evalArgs_kw2 rfl (thn (ha.run pos pins s σ H _ I h) fun us s1 ⟨vs, H1, I1, r1, a, c, t1, t2, xs, ys, ex, hqx, hqy, q⟩ => kwAll_cons ?_) hs)))
  refine thn (pe_bl.run pins s1 σ H1 (fun v H2 => v = .bl true ∧ H2 = H1) I1 ⟨rfl, rfl⟩) fun vb s2 ⟨v, H2, I2, rb, ev, eh⟩ => kwAll_nil ?_
  subst ex ev eh
  cases rb
  cases r1 with
  | cons r rr =>
    cases rr with
    | cons r' rr =>
      cases rr; cases r; cases r'
      obtain ⟨its, rv, p1, la⟩ := sqk_at I2 hqx
      obtain ⟨its2, rv2, p2, lc⟩ := sqk_at I2 hqy
      refine zip_begS (beg_k t1 a its.toArray) (beg_k t2 c its2.toArray) p1 p2 fun h' hz hTI hTO h1 h2 hk => py_iter_zb hz ?_
      exact ⟨_, _, _, _, H2, rfl, I2.kept (t' := s2.toks) hk, turn_zb (PySem.W.ktu_apart s2.heap.objs.size a c la lc), ⟨hz, hTI, ⟨_, _, hTO⟩, it0 h1, it0 h2⟩, fp5 I2, q⟩

section
variable {prog : Program} {w : World} {A : Around} {E : Value → Shared → Prop} {s : Shared}
theorem en_item {t : Bool} {e it l : Addr} {i : Nat} {items : Array Value} {x old : Value} {Q : Value → Shared → Prop} (he : IsEnum s.heap e it i old) (hit : ItAt t s.heap it l i) (hl : SqAt t s.heap l items) (hx : items[i]? = some x) (hne : e ≠ it)
    (hQ : ∀ h', IsEnumOut h' e it ((i : Int) + 1) x s.heap.objs.size → ItAt t h' it l (i + 1) → h'.get? s.heap.objs.size = some { cls := .type "tuple", data := .seq #[.int i s.toks, x] } → h'.objs.size = s.heap.objs.size + 1 →
      (∀ b o, b ≠ e → b ≠ it → s.heap.get? b = some o → h'.get? b = some o) → Q (.ref s.heap.objs.size) { s with heap := h', toks := s.toks + 1 }) :
    wpAny (model prog w) A (Builtin.«enumerate.__next__» ⟨[.ref e], []⟩) (fun fin s' => ∃ v, fin = .done (.ret v) ∧ Q v s') E s := by
  obtain ⟨hp, g, d, tk, os⟩ := s
  (show wpAny _ _ (field (.ref e) 2 >>= _) _ _ _); refine wpAny_bind (wpAny_field he rfl (x := .ref it) rfl (wpAny_bind (nx_item hit hl hx fun h₁ hit₁ hs₁ => ?_)))
  replace hs₁ : Heap.SameBut it hp h₁ := hs₁
  have e1 : IsEnum h₁ e it i old := (hs₁.2 e hne).trans he
  (show wpAny _ _ (field (.ref e) 3 >>= _) _ _ ⟨h₁, g, d, tk, os⟩); refine wpAny_bind (wpAny_field e1 rfl (x := rawInt i) rfl ?_)
  (show wpAny _ _ (field (.ref e) 4 >>= _) _ _ ⟨h₁, g, d, tk, os⟩); refine wpAny_bind (wpAny_field e1 rfl (x := .none) rfl ?_)
  (show wpAny _ _ (mkInt i >>= _) _ _ ⟨h₁, g, d, tk, os⟩); refine wpAny_bind (wpAny_mkInt ?_)
  (show wpAny _ _ (setField (.ref e) 3 (rawInt ((i : Int) + 1)) >>= _) _ _ ⟨h₁, g, d, tk + 1, os⟩); refine wpAny_bind (wpAny_setField_rec e1 (by simp) fun h₂ e2 hs₂ => ?_)
  replace hs₂ : Heap.SameBut e h₁ h₂ := hs₂
  replace e2 : IsEnum h₂ e it ((i : Int) + 1) old := e2
  (show wpAny _ _ (setField (.ref e) 4 .none >>= _) _ _ ⟨h₂, g, d, tk + 1, os⟩); refine wpAny_bind (wpAny_setField_rec e2 (by simp) fun h₃ e3 hs₃ => ?_)
  replace hs₃ : Heap.SameBut e h₂ h₃ := hs₃
  replace e3 : IsEnum h₃ e it ((i : Int) + 1) old := e3
  (show wpAny _ _ (newTuple [.int i tk, x] >>= _) _ _ ⟨h₃, g, d, tk + 1, os⟩); refine wpAny_bind (wpAny_newTuple ?_)
  have e4 : IsEnum (h₃.push { cls := .type "tuple", data := .seq #[.int i tk, x] }) e it ((i : Int) + 1) old := Heap.get?_push_of_some _ e3
  generalize hh : h₃.push { cls := .type "tuple", data := .seq #[.int i tk, x] } = h₄ at e4
  have hsz : h₃.objs.size = hp.objs.size := (hs₃.1.trans hs₂.1).trans hs₁.1
  have hel : e < hp.objs.size := Heap.lt_size he
  have t4 : h₄.get? hp.objs.size = some { cls := .type "tuple", data := .seq #[.int i tk, x] } := by rw [← hh, ← hsz]; exact Heap.get?_push_size _ rfl
  have z4 : h₄.objs.size = hp.objs.size + 1 := by rw [← hh, Heap.size_push, hsz]
  have k4 : ∀ b o, b ≠ e → b ≠ it → hp.get? b = some o → h₄.get? b = some o := fun b o hbe hbi hb => by rw [← hh]; exact Heap.get?_push_of_some _ (hs₃.extBut b o hbe (hs₂.extBut b o hbe (hs₁.extBut b o hbi hb)))
  have i4 : ItAt t h₄ it l (i + 1) := by rw [← hh]; exact ((hit₁.off hs₂.extBut hne.symm).off hs₃.extBut hne.symm).at fun o q => Heap.get?_push_of_some _ q
  (show wpAny _ _ (Builtin.SmallTypes.ownedTupleIsFree (.ref e) >>= _) _ _ ⟨h₄, g, d, tk + 1, os⟩); rw [hsz]
  clear hh e3 hs₃ e2 hs₂ e1 hs₁ hit₁ hsz h₃ h₂ h₁
  refine wpAny_bind ?_
  unfold Builtin.SmallTypes.ownedTupleIsFree; refine wpAny_bind (wpAny_field e4 rfl (x := .none) rfl (wpAny_pure ?_))
  simp only [if_true]; refine wpAny_bind (wpAny_rule (wpAny_bind (wpAny_field e4 rfl (x := old) rfl (wpAny_bind (wpAny_setField_rec e4 (by simp) fun h₅ e5 hs₅ => ?_)))))
  replace hs₅ : Heap.SameBut e h₄ h₅ := hs₅
  replace e5 : IsEnum h₅ e it ((i : Int) + 1) x := e5
  (show wpAny _ _ (Builtin.SmallTypes.ownedTupleHandOut (.ref e) (.ref hp.objs.size) >>= _) _ _ ⟨h₅, g, d, tk + 1, os⟩); refine wpAny_bind ?_
  unfold Builtin.SmallTypes.ownedTupleHandOut; refine wpAny_bind (wpAny_setField_rec e5 (by simp) fun h₆ e6 hs₆ => ?_)
  replace hs₆ : Heap.SameBut e h₅ h₆ := hs₆
  replace e6 : IsEnumOut h₆ e it ((i : Int) + 1) x hp.objs.size := e6
  refine wpAny_setField_rec e6 (by simp) fun h₇ e7 hs₇ => ?_
  replace hs₇ : Heap.SameBut e h₆ h₇ := hs₇
  replace e7 : IsEnumOut h₇ e it ((i : Int) + 1) x hp.objs.size := e7
  exact wpAny_bind (wpAny_letGo (wpAny_pure ⟨_, rfl, hQ h₇ e7 (((i4.off hs₅.extBut hne.symm).off hs₆.extBut hne.symm).off hs₇.extBut hne.symm)
    (hs₇.extBut _ _ (Nat.ne_of_gt hel) (hs₆.extBut _ _ (Nat.ne_of_gt hel) (hs₅.extBut _ _ (Nat.ne_of_gt hel) t4))) (by rw [hs₇.1, hs₆.1, hs₅.1, z4])
    fun b o hbe hbi hb => hs₇.extBut b o hbe (hs₆.extBut b o hbe (hs₅.extBut b o hbe (k4 b o hbe hbi hb)))⟩))
theorem pe_item {t : Bool} {e it l : Addr} {i : Nat} {items : Array Value} {x old : Value} {Q : Option Value → Shared → Prop} (he : IsEnum s.heap e it i old) (hit : ItAt t s.heap it l i) (hl : SqAt t s.heap l items) (hx : items[i]? = some x) (hne : e ≠ it)
    (hQ : ∀ h', IsEnumOut h' e it ((i : Int) + 1) x s.heap.objs.size → ItAt t h' it l (i + 1) → h'.get? s.heap.objs.size = some { cls := .type "tuple", data := .seq #[.int i s.toks, x] } → h'.objs.size = s.heap.objs.size + 1 →
      (∀ b o, b ≠ e → b ≠ it → s.heap.get? b = some o → h'.get? b = some o) → Q (some (.ref s.heap.objs.size)) { s with heap := h', toks := s.toks + 1 }) :
    wpAny (model prog w) A (pyNext (.ref e)) Q E s := by
  have hT : s.TypeIs (.ref e) "enumerate" := ⟨_, he, rfl⟩
  unfold pyNext; exact wpAny_bind (wpAny_attempt (wpAny_callSpecial?_slot (name := Str.ofString "__next__") hT F.slot_enumerate_next (wpAny_call_entry F.slot_enumerate_next hT F.entry_enumerate_next
    (en_item he hit hl hx hne fun h' a b c d k => wpAny_pure (hQ h' a b c d k)) (F.args_enumerate_next_1 _))))
theorem pe_end {t : Bool} {e it l : Addr} {i : Nat} {items : Array Value} {old : Value} {Q : Option Value → Shared → Prop} (hh : A.handled = none) (he : IsEnum s.heap e it i old) (hit : ItAt t s.heap it l i) (hl : SqAt t s.heap l items) (hx : items[i]? = none)
    (hQ : ∀ h', Heap.ExtBut it s.heap h' → Q none { s with heap := h' }) : wpAny (model prog w) A (pyNext (.ref e)) Q E s := by
  have hT : s.TypeIs (.ref e) "enumerate" := ⟨_, he, rfl⟩
  unfold pyNext; refine wpAny_bind (wpAny_attempt (wpAny_callSpecial?_slot (name := Str.ofString "__next__") hT F.slot_enumerate_next (wpAny_call_entry F.slot_enumerate_next hT F.entry_enumerate_next ?_ (F.args_enumerate_next_1 _))))
  (show wpAny _ _ (field (.ref e) 2 >>= _) _ _ _); refine wpAny_bind (wpAny_field he rfl (x := .ref it) rfl (wpAny_bind (nx_end hh hit hl hx fun h' x he' ⟨o, ho, hc⟩ => ?_)))
  exact wpAny_bind (wpAny_isInstance (T := "StopIteration") (b := true) ⟨o, ho, hc⟩ isSubtype_stop (wpAny_pure (hQ _ he')))
end
theorem meets_en1 {v : Value} {o : Obj} {H : Heap → Prop} (B : PySem.Begins v o H) :
    Meets (Builtin.«enumerate.__new__» ⟨[.type "enumerate", v], []⟩) (fun _ R s => H s.heap ∧ R (.ok (.ret (.ref (s.heap.push o).objs.size))) { s with heap := (s.heap.push o).push { cls := .type "enumerate", data := .fields #[.none, .bool false, .ref s.heap.objs.size, rawInt 0, .none, .none] } }) :=
  .of_wp fun prog w A R s h => by
    obtain ⟨hp, g, d, tk, os⟩ := s; obtain ⟨h1, h⟩ := h
    have hsub := sub_enumerate
    have q1 : ∀ {A' : Around} {E : Value → Shared → Prop} {Q : Value → Shared → Prop}, Q (.ref hp.objs.size) ⟨hp.push o, g, d, tk, os⟩ → wpAny (model prog w) A' (pyIter v) Q E ⟨hp, g, d, tk, os⟩ := fun q => B.iter prog w _ _ ⟨hp, g, d, tk, os⟩ _ h1 q
    wp_walk using q1
    refine wpAny_stack_any fun st => wpAny_pure ?_
    split
    · rename_i c _ _ _ _ _
      cases (c == Value.type "enumerate") <;> (wp_walk using q1; exact ⟨_, rfl, h⟩)
    · wp_walk using q1
      exact ⟨_, rfl, h⟩
theorem en_begin {prog : Program} {w : World} {A : Around} {E : Value → Shared → Prop} {s : Shared} {v : Value} {o : Obj} {H : Heap → Prop} {Q : Value → Shared → Prop} (B : PySem.Begins v o H) (h1 : H s.heap)
    (h : ∀ h', IsEnum h' (s.heap.objs.size + 1) s.heap.objs.size 0 .none → h'.get? s.heap.objs.size = some o → (∀ b o, s.heap.get? b = some o → h'.get? b = some o) → Q (.ref (s.heap.objs.size + 1)) { s with heap := h' }) :
    wpAny (model prog w) A (call (.type "enumerate") [v]) Q E s := by
  refine callType_new F.called_enumerate (by decide) (F.typeCall_enumerate_1 _) (F.newCall_enumerate_1 _) (fun obj => F.args_object_init_2 obj _) F.entry_enumerate_new (meets_en1 B) ⟨h1, ?_⟩
  have hz : (s.heap.push o).objs.size = s.heap.objs.size + 1 := Heap.size_push ..
  show _ ∧ _
  rw [hz]
  have he := Heap.get?_push_size (s.heap.push o) (o := { cls := .type "enumerate", data := .fields #[.none, .bool false, .ref s.heap.objs.size, rawInt 0, .none, .none] }) rfl
  rw [hz] at he
  exact ⟨⟨_, he, rfl⟩, h _ he (Heap.get?_push_of_some _ (Heap.get?_push_size _ B.free)) fun b o x => Heap.get?_push_of_some _ (Heap.get?_push_of_some _ x)⟩
def IteB (K : PySem.W.Frag) (t : Bool) (a : Addr) : It :=
  ⟨fun i H => ∃ (xs : List V) (x : V), SqK K H a t xs ∧ xs[i]? = some x, fun i H v H' => ∃ T x, v = .ref T ∧ H T = none ∧ H' = upd H T (.tup [.int (i : Nat), x]) ∧ ∀ xs, SqK K H a t xs → xs[i]? = some x, fun i H => ∃ xs : List V, SqK K H a t xs ∧ xs.length ≤ i⟩
theorem turn_en {P : Program} {w : World} {K : PySem.W.Frag} {elts : List Expr} {kk : Nat} {tpos : Pos} {t : Bool} {a e it : Addr} :
    Turn P w K (.Tuple elts kk tpos) (IteB K t a) [e, it] e (fun i h => (∃ old, IsEnum h e it ((i : Nat) : Int) old) ∧ ItAt t h it a i ∧ e ≠ it) where
  mem := by simp
  obj := fun i h st b hb => by
    obtain ⟨⟨old, he⟩, hit, _⟩ := st
    have e' : b = e ∨ b = it := by simpa using hb
    rcases e' with rfl | rfl
    · exact ⟨_, he, fun v q => nomatch q⟩
    · exact hit.here
  keep := fun i h h' ⟨⟨old, he⟩, hi, hne⟩ k => ⟨⟨old, k e (by simp) _ he⟩, hi.at fun o q => k it (by simp) o q, hne⟩
  item := by
    intro X hP hw hK hc i pins s σ H E I hf st hg
    subst hP hw hK
    obtain ⟨⟨old, he⟩, hit, hne⟩ := st
    obtain ⟨xs, x, hq, hx⟩ := hg
    obtain ⟨its, rv, p, _⟩ := sqk_at I hq
    obtain ⟨u, hu, ru⟩ := rv.get hx
    have hel : e < s.heap.objs.size := Heap.lt_size he
    have hil : it < s.heap.objs.size := by obtain ⟨_, q, _⟩ := hit.here; exact Heap.lt_size q
    refine pe_item he hit p (x := u) (by simpa using hu) hne fun h' ho hit' hT hsz hk => ⟨_, rfl, wpAny_letOwnedTupleGo_enum (s := { s with heap := h', toks := s.toks + 1 }) ho fun h'' he' sb => ?_⟩
    have hT2 : h''.get? s.heap.objs.size = some { cls := .type "tuple", data := .seq #[.int i s.toks, u] } := (sb.2 _ (Nat.ne_of_gt hel)).trans hT
    have new : ObjOk X.prog X.w (upd H s.heap.objs.size (.tup [.int (i : Nat), x])) h'' s.heap.objs.size (.tup [.int (i : Nat), x]) := ⟨(by decide : 2 ≤ sizeLine), [.int i s.toks, u], .cons ⟨_, rfl⟩ (.cons ru .nil), ⟨_, hT2, rfl, _, rfl⟩⟩
    have I1 : Inv X pins σ (upd H s.heap.objs.size (.tup [.int (i : Nat), x])) { s with heap := h'', toks := s.toks + 1 } :=
      I.turnedNew (ch := [e, it]) (fun b ob hb q => (sb.2 b (fun z => hb (by simp [z]))).trans (hk b ob (fun z => hb (by simp [z])) (fun z => hb (by simp [z])) q)) hf (Nat.le_refl _) new
    refine ⟨.ref s.heap.objs.size, _, I1, rfl, ⟨_, x, rfl, I.hok.fresh (Nat.le_refl _), rfl, fun ys hy => by rw [sqk_inj I hy hq]; exact hx⟩, ⟨⟨u, ?_⟩, hit'.at fun o q => (sb.2 it (Ne.symm hne)).trans q, hne⟩, fun b hb => ?_⟩
    · rw [show ((i + 1 : Nat) : Int) = (i : Int) + 1 from rfl]; exact he'
    · have hb' : b < s.heap.objs.size := by
        have e' : b = e ∨ b = it := by simpa using hb
        rcases e' with z | z
        · rw [z]; exact hel
        · rw [z]; exact hil
      rw [upd_ne (Nat.ne_of_lt hb')]
      exact (hf b hb).1
  done := by
    intro X hP hw hK hc i pins s σ H E I hf st hg
    subst hP hw hK
    obtain ⟨⟨old, he⟩, hit, hne⟩ := st
    obtain ⟨xs, hq, hx⟩ := hg
    obtain ⟨its, rv, p, _⟩ := sqk_at I hq
    have hl := rv.length
    obtain ⟨f0, f1, f2, f3, f4, f5⟩ := hf it (by simp)
    exact pe_end (I.ok.hd hc) he hit p (by simp; omega) fun h' eb => ⟨rfl, I.turned (t' := s.toks) (fun b o hb q => eb b o hb q) f0 f1 f3 f4 f5⟩
  self := fun A i s Q E st h => let ⟨⟨_, he⟩, _⟩ := st; wpAny_pyIter_enum he h
def tEnB (K : PySem.W.Frag) (ta : TA) : TI := fun σ H R => ta σ H fun vs H1 => ∃ a t xs, vs = [.ref a] ∧ SqK K H1 a t xs ∧ R (IteB K t a) H1
theorem pi_enB {X : Cx} {e : Expr} {ta : TA} {p pos tpos : Pos} {elts : List Expr} {kk : Nat} (hg : Gl X "enumerate") (hm : X.mg "enumerate" = none) (ha : PA X [e] ta) (hs : starEach [e] X.env = [(false, eval e X.env)] := by rfl) :
    PI X (.Tuple elts kk tpos) (.Call (.Name "enumerate" p) [e] [] pos) (tEnB X.K ta) := by
  refine ⟨fun pins s σ H R I h => ?_⟩
  refine Call_ (ld_blt I hg hm PyProof.Rows.boot_enumerate (PyProof.Rows.callWith_type1 (thn (ha.run pos pins s σ H _ I h) fun us s1 ⟨vs, H1, I1, r1, a, t, xs, ex, hq, q⟩ => ?_) hs rfl))
  subst ex
  cases r1 with
  | cons r rr =>
    cases rr; cases r
    obtain ⟨its, rv, p', la⟩ := sqk_at I1 hq
    refine en_begin (beg_k t a its.toArray) p' fun h' he hit hk => wpAny_pyIter_enum he ?_
    refine ⟨_, [s1.heap.objs.size + 1, s1.heap.objs.size], _, _, H1, rfl, I1.kept (t' := s1.toks) hk, turn_en, ⟨⟨.none, he⟩, it0 hit, Nat.succ_ne_self _⟩, fun b hb => ?_, q⟩
    have hle : s1.heap.objs.size ≤ b := by
      have e' : b = s1.heap.objs.size + 1 ∨ b = s1.heap.objs.size := by simpa using hb
      rcases e' with z | z <;> (rw [z]; simp)
    exact I1.fpOk hle (I1.hok.fresh hle)

/-- the built-in sorts of things -/
inductive Ty where | non | bool | int | str | list | tuple | dict
def Ty.nm : Ty → String
  | .non => "NoneType"
  | .bool => "bool"
  | .int => "int"
  | .str => "str"
  | .list => "list"
  | .tuple => "tuple"
  | .dict => "dict"
def Ty.le : Ty → Ty → Bool
  | .non, .non => true
  | .bool, .bool => true
  | .bool, .int => true
  | .int, .int => true
  | .str, .str => true
  | .list, .list => true
  | .tuple, .tuple => true
  | .dict, .dict => true
  | _, _ => false
theorem Ty.kit : ∀ a b : Ty, kitB a.nm b.nm = some (a.le b) := by
  intro a b
  cases a <;> cases b <;> decide +kernel

theorem sqt_ty {K : PySem.W.Frag} {H : Hp} {a : Addr} {ws : List V} (h1 : SqT K H a ws) : TyX K H (.ref a) (.type Ty.tuple.nm) := by
  rcases h1 with (h1 | ⟨o, h1⟩) | ⟨o, _, _, h1, h2, _⟩
  · exact .base (.tup h1)
  · exact .fTuple h1
  · exact .kTuple h1 h2

def rIsiT (K : PySem.W.Frag) (c : Ty) : List V → Hp → VK → Prop := fun xs H Q => ∃ x T, xs = [x, .ty c.nm] ∧ TyX K H x (.type (Ty.nm T)) ∧ Q (.bl (T.le c)) H
theorem call_isiT' {X : Cx} (c : Ty) : CallR X (.builtin "isinstance") (rIsiT X.K c) := by
  intro pins s σ H xs us Q I r h
  obtain ⟨x, T, rfl, ht, q⟩ := h
  exact call_isi pins s σ H _ us Q I r ⟨x, .ty c.nm, _, _, T.le c, rfl, .ty _, ht, kit_ty (Ty.kit T c), q⟩

def rLenU (K : PySem.W.Frag) : List V → Hp → VK → Prop := fun xs H Q => (∃ p ys, xs = [.ref p] ∧ (SqL K H p ys ∨ SqT K H p ys) ∧ Q (.int ys.length) H) ∨ ∃ z, xs = [.str z] ∧ z.length ≤ sizeLine ∧ Q (.int z.length) H
theorem call_lenU {X : Cx} : CallR X (.builtin "len") (rLenU X.K) := call_len_seq.or call_len_str

def rRepr (K : PySem.W.Frag) : List V → Hp → VK → Prop := fun xs H Q => (∃ i, xs = [.int i] ∧ i.natAbs.log2 < 1920 ∧ Q (.str (toString i)) H) ∨
  ∃ a d, xs = [.ref a] ∧ Dp K H (.ref a) d ∧ d.showable = true ∧ d.hasDict = false ∧ d.depth ≤ 100 ∧ d.shown.length ≤ sizeLine ∧ Q (.str d.shown) H
theorem call_reprU {X : Cx} (hg : X.A.guards = some []) (hu : X.A.units + 180 < cLine) : CallR X (.builtin "repr") (rRepr X.K) := by
  intro pins s σ H xs us Q I r h
  rcases h with ⟨i, rfl, hz, q⟩ | ⟨a, d, rfl, hd, h1, h2, h3, h4, q⟩
  · obtain ⟨u, rfl, t, rfl⟩ := vals1 r
    exact PySem.P.repr_of_int hz ⟨.str _, H, I.tok _, ⟨_, rfl⟩, q⟩
  · obtain ⟨u, rfl, rx⟩ := vals1 r
    obtain ⟨as, rd⟩ := Dp.reads I d _ u hd rx
    obtain rfl : u = Value.ref a := rx
    refine repr_of_reads' (h₀ := s.heap) rd h1 (PyData.noDict_hsm h2) hg (by omega) (fun _ _ e => e) (fun h' u tk hk => ?_) h4
    exact ⟨.str d.shown, H, I.kept (t' := tk) hk, ⟨u, rfl⟩, q⟩

def rSortedU (K : PySem.W.Frag) : List V → Hp → VK → Prop := fun xs H Q => rSortedI K xs H Q ∨ (∃ d B, 1 ≤ d ∧ rSortU K d B xs H Q) ∨ ∃ (a : Addr) (kvs : List (Key × V)) (ks : List Str), xs = [.ref a] ∧ Rd H a (.dK kvs) ∧ kvs.map (·.1) = ks.map Sum.inr ∧ ks.length < 64 ∧
    ∀ ys p, ys.Perm ks → sortedS ys = true → H p = none → Q (.ref p) (upd H p (.lst (ys.map V.str)))
theorem cr_sortedU {X : Cx} (hc : X.calm = true) : CallR X (.builtin "sorted") (rSortedU X.K) := by
  intro pins s σ H xs us Q I r h
  rcases h with h | ⟨d, B, hd, h⟩ | h
  · exact cr_sortedI pins s σ H xs us Q I r h
  · exact cr_sortT hd pins s σ H xs us Q I r h
  · exact call_sortedD hc pins s σ H xs us Q I r h

theorem rm180 {k : Nat} {A : Around} (r : Room k A) : A.units + 180 < cLine := by
  have := r.un
  omega

end FL
namespace FL
open PySem PySem.Spec PyProof.Rows L2
/-! ### built-in functions and classes, called -/
def eB (f : FL1) (ta : FA) : FE := fun ρ st => (ta ρ st).bind fun xs st1 => R.opt (f xs st1)
theorem le_cb {K : KZ} {Z : KS} {W : WZ Z} {r : List V → Hp → VK → Prop} {f : FL1} {ta : FA} (h : RLF K r f) {σ : L2.St} {H : Hp} {Q : VK} : LE K W (eB f ta) σ H Q → tCB r (LA K W ta) σ H Q := fun ⟨fr, ms, ρ, st, w, g⟩ =>
  ⟨fr, ms, ρ, st, w, g.bind.mono fun xs st1 fr1 H1 ms1 _ _ ⟨e1, s1, g1⟩ vs rs => by
    obtain ⟨z, st3, hf, q⟩ := g1.opt
    exact h _ _ _ _ _ _ _ _ _ Q s1 rs hf q⟩
section
variable {X : Cx} {Z : KS} {W : WZ Z} {x : Str} {p pos : Pos} {e : Expr} {es : List Expr} {t : FA} {id T : String} {r : List V → Hp → VK → Prop} {f : FL1}
theorem d_callB (hc : CallR X (.builtin id) r) (hf : RLF (kx X Z) r f) (hm : X.mg x = none) (hv : bootBuiltins x = some (.builtin id)) (ha : DA X W (e :: es) t) (hg : Gl X x := by rfl) (hn : x ≠ "__name__" := by decide) (hdb : (x == ("__debug__" : Str)) = false := by decide)
    (he : starEach (e :: es) X.env = (false, eval e X.env) :: starEach es X.env := by rfl) (hpl : (backTo pos (starEach es X.env)).any (·.1) = false := by rfl) : DE X W (.Call (.Name x p) (e :: es) [] pos) (eB f t) :=
  pe_imp (pe_callB hc hg hm hv ha hn hdb he hpl) fun _ _ _ => le_cb hf
theorem d_callT (hc : CallR X (.type T) r) (hf : RLF (kx X Z) r f) (hm : X.mg x = none) (hv : bootBuiltins x = some (.type T)) (ha : DA X W (e :: es) t) (hg : Gl X x := by rfl) (hn : x ≠ "__name__" := by decide) (hdb : (x == ("__debug__" : Str)) = false := by decide)
    (he : starEach (e :: es) X.env = (false, eval e X.env) :: starEach es X.env := by rfl) (hpl : (backTo pos (starEach es X.env)).any (·.1) = false := by rfl) : DE X W (.Call (.Name x p) (e :: es) [] pos) (eB f t) :=
  pe_imp (pe_callTy hc hg hm hv ha hn hdb he hpl) fun _ _ _ => le_cb hf
theorem d_ty {T : String} (hm : X.mg x = none) (hv : bootBuiltins x = some (.type T)) (hg : Gl X x := by rfl) (hn : x ≠ "__name__" := by decide) (hd : (x == ("__debug__" : Str)) = false := by decide) : DE X W (.Name x pos) (eC (.ty T)) :=
  pe_imp (pe_bltn (v := .ty T) hg hm hv rfl hn hd) fun σ H Q ⟨fr, ms, ρ, st, w, g⟩ => g.now w.sr _ (.ty T)
/-- a value of the module, by what it is -/
theorem d_glob {v : V} {u : Value} {d : Val} (hm : X.mg x = some u) (r : RelV v u) (hr : ∀ g fr H ms, VR ((kx X Z).gm g) fr H ms v d) (hg : Gl X x := by rfl) (hd : (x == ("__debug__" : Str)) = false := by decide) : DE X W (.Name x pos) (eC d) :=
  pe_imp (pe_glob hg hm r hd) fun σ H Q ⟨fr, ms, ρ, st, w, g⟩ => g.now w.sr _ (hr _ _ _ _)
end
section
variable {K : KZ}
/-- len -/
def fLen : FL1 := fun xs st => match xs with
  | [.str z] => bif Nat.ble z.length sizeLine then some (.int z.length, st) else none
  | [x] => (match seqOf st x with
    | some ys => some (.int ys.length, st)
    | none => (match dictOf st x with
      | some es => some (.int es.length, st)
      | none => none))
  | _ => none
def rLenV (K : PySem.W.Frag) : List V → Hp → VK → Prop := fun xs H Q => rLenU K xs H Q ∨ ∃ (d : Addr) (kvs : List (Key × V)), xs = [.ref d] ∧ H d = some (.dK kvs) ∧ Q (.int kvs.length) H
theorem call_lenV {X : Cx} : CallR X (.builtin "len") (rLenV X.K) := call_lenU.or fun pins s σ H xs us Q I r ⟨d, kvs, e, hd, q⟩ => call_lenD pins s σ H xs us Q I r ⟨d, kvs, e, hd, q⟩
theorem rl_len : RLF K (rLenV K) fLen := fun _ fr H ms st xs sxs z st' Q s rx h q => by
  unfold fLen at h
  split at h
  · obtain ⟨hb, h⟩ := cond_some h
    cases h
    obtain ⟨v, rfl, r⟩ := vrs1 rx
    exact .inl (.inr ⟨_, by rw [vr_str r], Nat.le_of_ble_eq_true hb, q.now s (.int _)⟩)
  · obtain ⟨v, rfl, r⟩ := vrs1 rx
    split at h
    · next ys hy =>
      cases h
      obtain ⟨a, ws, rfl, hs, hr⟩ := seq_at s r hy
      exact .inl (.inl ⟨a, ws, rfl, hs, by rw [hr.length]; exact q.now s (.int _)⟩)
    · split at h
      · next es he =>
        cases h
        obtain ⟨a, ws, rfl, hs, hr⟩ := dct_at s r he
        exact .inr ⟨a, ws, rfl, hs, by rw [hr.length]; exact q.now s (.int _)⟩
      · cases h
  · cases h
/-- list(x) of a list or tuple -/
def fList (c : Bool) : FL1 := fun xs st => match xs with
  | [x] => (match seqOf st x with
    | some ys => some (newL c ys st)
    | none => none)
  | _ => none
theorem rl_list (c : Bool) : RLF K (fun xs H Q => ∃ p ys, xs = [.ref p] ∧ (SqL K H p ys ∨ SqT K H p ys) ∧ ∀ l, H l = none → Q (.ref l) (upd H l (.lst ys))) (fList c) := fun _ fr H ms st xs sxs z st' Q s rx h q => by
  unfold fList at h
  split at h
  · obtain ⟨v, rfl, r⟩ := vrs1 rx
    split at h
    · next ys hy =>
      obtain ⟨e5, e6⟩ := newl_out h
      rw [← e5, ← e6] at q
      obtain ⟨a, ws, rfl, hs, hr⟩ := seq_at s r hy
      exact ⟨a, ws, rfl, hs, fun l n => q.newl s hr n⟩
    · cases h
  · cases h
/-- tuple(x) of a list, of a tuple -/
def fTuple : FL1 := fun xs st => match xs with
  | [.tup ds] => some (.tup ds, st)
  | [x] => (match lstOf st x with
    | some ys => some (.tup ys, st)
    | none => none)
  | _ => none
theorem rl_tuple : RLF K (fun xs H Q => ∃ p ys, xs = [.ref p] ∧ ((SqL K H p ys ∧ ∀ l, H l = none → Q (.ref l) (upd H l (.tup ys))) ∨ (SqT K H p ys ∧ Q (.ref p) H))) fTuple := fun _ fr H ms st xs sxs z st' Q s rx h q => by
  unfold fTuple at h
  split at h
  · cases h
    obtain ⟨v, rfl, r⟩ := vrs1 rx
    obtain ⟨a, ws, rfl, h1, h2⟩ := vr_tup r
    exact ⟨a, ws, rfl, .inr ⟨h1, q.now s (.tup h1 h2)⟩⟩
  · obtain ⟨v, rfl, r⟩ := vrs1 rx
    split at h
    · next ys hy =>
      cases h
      obtain ⟨a, ws, rfl, h1, h2⟩ := lst_at s r hy
      exact ⟨a, ws, rfl, .inl ⟨h1, fun l n => q.tup s h2 n⟩⟩
    · cases h
  · cases h
def fMax2 : FL1 := fun xs st => match xs with
  | [.int i, .int j] => some (.int (if j > i then j else i), st)
  | _ => none
def fMin2 : FL1 := fun xs st => match xs with
  | [.int i, .int j] => some (.int (if j < i then j else i), st)
  | _ => none
theorem rl_max2 : RLF K (fun xs H Q => ∃ i j, xs = [.int i, .int j] ∧ Q (.int (if j > i then j else i)) H) fMax2 := fun _ fr H ms st xs sxs z st' Q s rx h q => by
  unfold fMax2 at h
  split at h
  · cases h
    obtain ⟨v, u, rfl, r1, r2⟩ := vrs2 rx
    exact ⟨_, _, by rw [vr_int r1, vr_int r2], q.now s (.int _)⟩
  · cases h
theorem rl_min2 : RLF K (fun xs H Q => ∃ i j, xs = [.int i, .int j] ∧ Q (.int (if j < i then j else i)) H) fMin2 := fun _ fr H ms st xs sxs z st' Q s rx h q => by
  unfold fMin2 at h
  split at h
  · cases h
    obtain ⟨v, u, rfl, r1, r2⟩ := vrs2 rx
    exact ⟨_, _, by rw [vr_int r1, vr_int r2], q.now s (.int _)⟩
  · cases h
/-- rows of ints, of truths -/
def intsOf : List Val → Option (List Int)
  | [] => some []
  | .int i :: r => (match intsOf r with
    | some ns => some (i :: ns)
    | none => none)
  | _ :: _ => none
def boolsOf : List Val → Option (List Bool)
  | [] => some []
  | .bl i :: r => (match boolsOf r with
    | some ns => some (i :: ns)
    | none => none)
  | _ :: _ => none
theorem intsOf_eq : ∀ {xs : List Val} {ns : List Int}, intsOf xs = some ns → xs = ns.map Val.int
  | [], _, h => by
    cases h
    rfl
  | x :: r, ns, h => by
    unfold intsOf at h
    split at h
    · next e =>
      cases e
    · next i r' e =>
      cases e
      split at h
      · next ms hm =>
        cases h
        rw [List.map_cons, intsOf_eq hm]
      · cases h
    · cases h
theorem boolsOf_eq : ∀ {xs : List Val} {ns : List Bool}, boolsOf xs = some ns → xs = ns.map Val.bl
  | [], _, h => by
    cases h
    rfl
  | x :: r, ns, h => by
    unfold boolsOf at h
    split at h
    · next e =>
      cases e
    · next i r' e =>
      cases e
      split at h
      · next ms hm =>
        cases h
        rw [List.map_cons, boolsOf_eq hm]
      · cases h
    · cases h
theorem intsOf_map : ∀ ns : List Int, intsOf (ns.map Val.int) = some ns
  | [] => rfl
  | x :: r => by
    rw [List.map_cons]
    unfold intsOf
    rw [intsOf_map r]
theorem boolsOf_map : ∀ ns : List Bool, boolsOf (ns.map Val.bl) = some ns
  | [] => rfl
  | x :: r => by
    rw [List.map_cons]
    unfold boolsOf
    rw [boolsOf_map r]
theorem vrs_ints {fr : Addr → Prop} {H : Hp} {ms : List Addr} : ∀ {ns : List Int} {vs : List V}, VRs K fr H ms vs (ns.map Val.int) → vs = ns.map V.int
  | [], _, .nil => rfl
  | _ :: _, _, .cons a b => by rw [List.map_cons, vr_int a, vrs_ints b]
theorem vrs_bools {fr : Addr → Prop} {H : Hp} {ms : List Addr} : ∀ {ns : List Bool} {vs : List V}, VRs K fr H ms vs (ns.map Val.bl) → vs = ns.map V.bl
  | [], _, .nil => rfl
  | _ :: _, _, .cons a b => by rw [List.map_cons, vr_bl a, vrs_bools b]
theorem vrs_of_ints {fr : Addr → Prop} {H : Hp} {ms : List Addr} : ∀ ns : List Int, VRs K fr H ms (ns.map V.int) (ns.map Val.int)
  | [] => .nil
  | _ :: r => .cons (.int _) (vrs_of_ints r)
theorem vrs_of_strs {fr : Addr → Prop} {H : Hp} {ms : List Addr} : ∀ ns : List Str, VRs K fr H ms (ns.map V.str) (ns.map Val.str)
  | [] => .nil
  | _ :: r => .cons (.str _) (vrs_of_strs r)
def intsIn (st : Store) (x : Val) : Option (List Int) := match lstOf st x with
  | some ys => intsOf ys
  | none => none
def boolsIn (st : Store) (x : Val) : Option (List Bool) := match lstOf st x with
  | some ys => boolsOf ys
  | none => none
theorem intsIn_at {fr : Addr → Prop} {H : Hp} {ms : List Addr} {st : Store} {x : Val} {v : V} {ns : List Int} (s : SR K fr H ms st) (r : VR K fr H ms v x) (h : intsIn st x = some ns) : ∃ a, v = .ref a ∧ SqL K H a (ns.map V.int) := by
  unfold intsIn at h
  split at h
  · next ys hy =>
    obtain ⟨a, ws, rfl, h1, h2⟩ := lst_at s r hy
    rw [intsOf_eq h] at h2
    rw [vrs_ints h2] at h1
    exact ⟨a, rfl, h1⟩
  · cases h
theorem boolsIn_at {fr : Addr → Prop} {H : Hp} {ms : List Addr} {st : Store} {x : Val} {v : V} {ns : List Bool} (s : SR K fr H ms st) (r : VR K fr H ms v x) (h : boolsIn st x = some ns) : ∃ a, v = .ref a ∧ SqL K H a (ns.map V.bl) := by
  unfold boolsIn at h
  split at h
  · next ys hy =>
    obtain ⟨a, ws, rfl, h1, h2⟩ := lst_at s r hy
    rw [boolsOf_eq h] at h2
    rw [vrs_bools h2] at h1
    exact ⟨a, rfl, h1⟩
  · cases h
def fSum : FL1 := fun xs st => match xs with
  | [x] => (match intsIn st x with
    | some ns => some (.int ns.sum, st)
    | none => none)
  | _ => none
theorem rl_sum : RLF K (rSum K) fSum := fun _ fr H ms st xs sxs z st' Q s rx h q => by
  unfold fSum at h
  split at h
  · obtain ⟨v, rfl, r⟩ := vrs1 rx
    split at h
    · next ns hn =>
      cases h
      obtain ⟨a, rfl, h1⟩ := intsIn_at s r hn
      exact ⟨a, ns, rfl, h1, q.now s (.int _)⟩
    · cases h
  · cases h
def fAll : FL1 := fun xs st => match xs with
  | [x] => (match boolsIn st x with
    | some ns => some (.bl (ns.all id), st)
    | none => none)
  | _ => none
theorem rl_all : RLF K (rAll K) fAll := fun _ fr H ms st xs sxs z st' Q s rx h q => by
  unfold fAll at h
  split at h
  · obtain ⟨v, rfl, r⟩ := vrs1 rx
    split at h
    · next ns hn =>
      cases h
      obtain ⟨a, rfl, h1⟩ := boolsIn_at s r hn
      exact ⟨a, ns, rfl, h1, q.now s (.bl _)⟩
    · cases h
  · cases h
def fAny : FL1 := fun xs st => match xs with
  | [x] => (match boolsIn st x with
    | some ns => some (.bl (ns.any id), st)
    | none => none)
  | _ => none
theorem rl_any : RLF K (rAny K) fAny := fun _ fr H ms st xs sxs z st' Q s rx h q => by
  unfold fAny at h
  split at h
  · obtain ⟨v, rfl, r⟩ := vrs1 rx
    split at h
    · next ns hn =>
      cases h
      obtain ⟨a, rfl, h1⟩ := boolsIn_at s r hn
      exact ⟨a, ns, rfl, h1, q.now s (.bl _)⟩
    · cases h
  · cases h
/-- the greatest, the least of a row that isn't empty -/
def maxL : List Int → Int
  | [] => 0
  | [x] => x
  | x :: y :: r => let m := maxL (y :: r); if m > x then m else x
def minL : List Int → Int
  | [] => 0
  | [x] => x
  | x :: y :: r => let m := minL (y :: r); if m < x then m else x
theorem maxL_in : ∀ {ns : List Int}, ns ≠ [] → maxL ns ∈ ns ∧ ∀ y ∈ ns, y ≤ maxL ns
  | [], h => absurd rfl h
  | [x], _ => ⟨List.mem_singleton.mpr rfl, fun y hy => by rw [List.mem_singleton.mp hy]; exact Int.le_refl _⟩
  | x :: y :: r, _ => by
    obtain ⟨h1, h2⟩ := maxL_in (ns := y :: r) (by simp)
    unfold maxL
    dsimp only
    split
    · next h =>
      refine ⟨List.mem_cons_of_mem _ h1, fun z hz => ?_⟩
      rcases List.mem_cons.mp hz with rfl | hz
      · omega
      · exact h2 z hz
    · next h =>
      refine ⟨List.mem_cons_self, fun z hz => ?_⟩
      rcases List.mem_cons.mp hz with rfl | hz
      · omega
      · have := h2 z hz
        omega
theorem minL_in : ∀ {ns : List Int}, ns ≠ [] → minL ns ∈ ns ∧ ∀ y ∈ ns, minL ns ≤ y
  | [], h => absurd rfl h
  | [x], _ => ⟨List.mem_singleton.mpr rfl, fun y hy => by rw [List.mem_singleton.mp hy]; exact Int.le_refl _⟩
  | x :: y :: r, _ => by
    obtain ⟨h1, h2⟩ := minL_in (ns := y :: r) (by simp)
    unfold minL
    dsimp only
    split
    · next h =>
      refine ⟨List.mem_cons_of_mem _ h1, fun z hz => ?_⟩
      rcases List.mem_cons.mp hz with rfl | hz
      · omega
      · exact h2 z hz
    · next h =>
      refine ⟨List.mem_cons_self, fun z hz => ?_⟩
      rcases List.mem_cons.mp hz with rfl | hz
      · omega
      · have := h2 z hz
        omega
def fMax : FL1 := fun xs st => match xs with
  | [x] => (match intsIn st x with
    | some (n :: ns) => some (.int (maxL (n :: ns)), st)
    | _ => none)
  | _ => none
def fMin : FL1 := fun xs st => match xs with
  | [x] => (match intsIn st x with
    | some (n :: ns) => some (.int (minL (n :: ns)), st)
    | _ => none)
  | _ => none
theorem rl_max : RLF K (rMax K) fMax := fun _ fr H ms st xs sxs z st' Q s rx h q => by
  unfold fMax at h
  split at h
  · obtain ⟨v, rfl, r⟩ := vrs1 rx
    split at h
    · next n ns hn =>
      cases h
      obtain ⟨a, rfl, h1⟩ := intsIn_at s r hn
      obtain ⟨m1, m2⟩ := maxL_in (ns := n :: ns) (by simp)
      refine ⟨a, _, rfl, h1, by simp, fun m hm hy => ?_⟩
      have e : m = maxL (n :: ns) := Int.le_antisymm (m2 m hm) (hy _ m1)
      rw [e]
      exact q.now s (.int _)
    · cases h
  · cases h
theorem rl_min : RLF K (rMin K) fMin := fun _ fr H ms st xs sxs z st' Q s rx h q => by
  unfold fMin at h
  split at h
  · obtain ⟨v, rfl, r⟩ := vrs1 rx
    split at h
    · next n ns hn =>
      cases h
      obtain ⟨a, rfl, h1⟩ := intsIn_at s r hn
      obtain ⟨m1, m2⟩ := minL_in (ns := n :: ns) (by simp)
      refine ⟨a, _, rfl, h1, by simp, fun m hm hy => ?_⟩
      have e : m = minL (n :: ns) := Int.le_antisymm (hy _ m1) (m2 m hm)
      rw [e]
      exact q.now s (.int _)
    · cases h
  · cases h
/-- int(x) of an int, of a truth -/
def fInt : FL1 := fun xs st => match xs with
  | [.int i] => some (.int i, st)
  | [.bl b] => some (.int (if b then 1 else 0), st)
  | _ => none
theorem rl_int : RLF K (fun xs H Q => (∃ i, xs = [.int i] ∧ Q (.int i) H) ∨ ∃ k, xs = [.bl k] ∧ Q (.int (if k then 1 else 0)) H) fInt := fun _ fr H ms st xs sxs z st' Q s rx h q => by
  unfold fInt at h
  split at h
  · cases h
    obtain ⟨v, rfl, r⟩ := vrs1 rx
    exact .inl ⟨_, by rw [vr_int r], q.now s (.int _)⟩
  · cases h
    obtain ⟨v, rfl, r⟩ := vrs1 rx
    exact .inr ⟨_, by rw [vr_bl r], q.now s (.int _)⟩
  · cases h
/-! ### isinstance -/
def tyF (st : Store) : Val → Option Ty
  | .non => some .non
  | .bl _ => some .bool
  | .int _ => some .int
  | .str _ => some .str
  | .tup _ => some .tuple
  | .ro _ => some .list
  | .wr _ => some .list
  | .rd _ _ => some .dict
  | .ref p => (match st[p]? with
    | some (.lst _) => some .list
    | some (.dic _) => some .dict
    | _ => none)
  | _ => none
theorem ty_of {fr : Addr → Prop} {H : Hp} {ms : List Addr} {st : Store} {x : Val} {v : V} {T : Ty} (s : SR K fr H ms st) (r : VR K fr H ms v x) (h : tyF st x = some T) : TyX K H v (.type T.nm) := by
  unfold tyF at h
  split at h
  · cases h; cases r; exact .base .non
  · cases h; cases r; exact .base (.bl _)
  · cases h; cases r; exact .base (.int _)
  · cases h; cases r; exact .base (.str _)
  · cases h
    obtain ⟨a, ws, rfl, h1, _⟩ := vr_tup r
    exact sqt_ty h1
  · cases h
    obtain ⟨a, ws, rfl, h1, _⟩ := vr_ro r
    exact .base (.lst h1)
  · cases h
    obtain ⟨a, ws, rfl, h1, _⟩ := vr_wr r
    rcases h1 with ⟨o, h1⟩ | ⟨o, _, _, h1, h2, _⟩
    · exact .base (.frz h1)
    · exact .kList h1 h2
  · cases h
    cases r with
    | rd h1 _ _ _ => exact .base (.dK h1)
  · split at h
    · next hp =>
      cases h
      obtain ⟨a, rfl, _, ws, hw, _⟩ := s.at r hp
      exact .base (.lst hw)
    · next hp =>
      cases h
      obtain ⟨a, rfl, _, ws, hw, _⟩ := s.at r hp
      exact .base (.dK hw)
    · cases h
  · cases h
end
/-- isinstance(e, T), T a built-in class -/
def eIsi (c : Ty) (te : FE) : FE := fun ρ st => (te ρ st).bind fun x st1 => match tyF st1 x with
  | some T => .ok (.bl (T.le c)) st1
  | none => .bad
section
variable {X : Cx} {Z : KS} {W : WZ Z} {pos : Pos}
theorem d_isi (c : Ty) {e : Expr} {te : FE} {p p2 : Pos} {tn : Str} (hi : X.mg "isinstance" = none) (hm : X.mg tn = none) (hv : bootBuiltins tn = some (.type c.nm)) (he : DE X W e te) (hg2 : Gl X tn := by rfl) (hn2 : tn ≠ "__name__" := by decide) (hd2 : (tn == ("__debug__" : Str)) = false := by decide)
    (hg : Gl X "isinstance" := by rfl) (hs : starEach [e, .Name tn p2] X.env = (false, eval e X.env) :: starEach [.Name tn p2] X.env := by rfl) (hpl : (backTo pos (starEach [.Name tn p2] X.env)).any (·.1) = false := by rfl) :
    DE X W (.Call (.Name "isinstance" p) [e, .Name tn p2] [] pos) (eIsi c te) :=
  pe_imp (pe_callB (call_isiT' c) hg hi (by decide +kernel) (pa_cons he (pa_cons (pe_bltn (v := .ty c.nm) hg2 hm hv rfl hn2 hd2) pa_nil (by rfl)) hs) (by decide) (by decide) hs hpl) fun σ H Q ⟨fr, ms, ρ, st, w, g⟩ =>
    ⟨fr, ms, ρ, st, w, g.bind.mono fun x st1 fr1 H1 ms1 _ _ ⟨e1, s1, g1⟩ v rv => by
      cases hT : tyF st1 x with
      | none =>
        rw [hT] at g1
        exact g1.elim
      | some T =>
        rw [hT] at g1
        exact ⟨v, T, rfl, ty_of s1 rv hT, g1.now s1 _ (.bl _)⟩⟩
end
/-! ### repr -/
def repOk (d : PyData) : Bool := PyData.showable d && decide (d.depth ≤ 100) && decide ((PyData.shown d).length ≤ sizeLine) && !d.hasDict
def fRepr : FL1 := fun xs st => match xs with
  | [.int i] => bif decide (i.natAbs.log2 < 1920) then some (.str (toString i), st) else none
  | [.non] => none
  | [.bl _] => none
  | [.str _] => none
  | [x] => (match toD st x with
    | some d => bif repOk d then some (.str (PyData.shown d), st) else none
    | none => none)
  | _ => none
theorem dp_ref {K : KZ} {H : Hp} {v : V} {d : PyData} (h : Dp K H v d) (h1 : v ≠ .non) (h2 : ∀ b, v ≠ .bl b) (h3 : ∀ b, v ≠ .int b) (h4 : ∀ b, v ≠ .str b) : ∃ a, v = .ref a := by
  cases h with
  | non => exact absurd rfl h1
  | bl b => exact absurd rfl (h2 b)
  | int b => exact absurd rfl (h3 b)
  | str b => exact absurd rfl (h4 b)
  | lst a b => exact ⟨_, rfl⟩
  | tup a b => exact ⟨_, rfl⟩
theorem rl_repr {K : KZ} : RLF K (rRepr K) fRepr := fun _ fr H ms st xs sxs z st' Q s rx h q => by
  unfold fRepr at h
  split at h
  · obtain ⟨hb, h⟩ := cond_some h
    cases h
    obtain ⟨v, rfl, r⟩ := vrs1 rx
    exact .inl ⟨_, by rw [vr_int r], of_decide_eq_true hb, q.now s (.str _)⟩
  · cases h
  · cases h
  · cases h
  · next x n1 n2 n3 n4 =>
    obtain ⟨v, rfl, r⟩ := vrs1 rx
    split at h
    · next d hd =>
      obtain ⟨hb, h⟩ := cond_some h
      cases h
      unfold repOk at hb
      simp only [Bool.and_eq_true, decide_eq_true_eq, Bool.not_eq_true'] at hb
      have hD := toD_at s hd r
      obtain ⟨a, rfl⟩ : ∃ a, v = .ref a := by
        cases r with
        | non => exact absurd rfl n2
        | bl b => exact absurd rfl (n3 b)
        | int b => exact absurd rfl (n1 b)
        | str b => exact absurd rfl (n4 b)
        | ty n => unfold toD toDV at hd; cases hd
        | _ => exact ⟨_, rfl⟩
      exact .inr ⟨a, d, rfl, hD, hb.1.1.1, hb.2, hb.1.1.2, hb.1.2, q.now s (.str _)⟩
    · cases h
  · cases h
/-! ### methods of lists -/
abbrev FM := List Val → List Val → Option (Val × List Val)
/-- o.m(..): o a list; it is read behind the arguments -/
def eM (f : FM) (to : FE) (ta : FA) : FE := fun ρ st => (to ρ st).bind fun x st1 => match x with
  | .ref p => (match lstAt st1 p with
    | some _ => (ta ρ st1).bind fun ys st2 => (match lstAt st2 p with
      | some xs => (match f xs ys with
        | some (z, zs) => .ok z (st2.set p (.lst zs))
        | none => .bad)
      | none => .bad)
    | none => .bad)
  | _ => .bad
/-- by what is asked of a method's rule -/
def RMF (K : KZ) (r : V → List V → Hp → VK → Prop) (f : FM) : Prop := ∀ (g : Addr → Option V) fr H ms a ws xs ys vs z zs Q, H a = some (.lst ws) → VRs (K.gm g) fr H ms ws xs → VRs (K.gm g) fr H ms vs ys → f xs ys = some (z, zs) →
  (∀ us v, VRs (K.gm g) fr H ms us zs → VR (K.gm g) fr H ms v z → Q v (upd H a (.lst us))) → r (.ref a) vs H Q
theorem QV.setl {K : KZ} {fr : Addr → Prop} {H : Hp} {ms : List Addr} {st : Store} {p : Nat} {a : Addr} {z : Val} {zs xs : List Val} {us : List V} {v : V} {Q : VK} (q : QV K fr H ms z (st.set p (.lst zs)) Q) (s : SR K fr H ms st) (hm : ms[p]? = some a)
    (ru : VRs K fr H ms us zs) (rz : VR K fr H ms v z) : Q v (upd H a (.lst us)) := by
  have hmm := List.mem_of_getElem? hm
  have e := Ext.upd (fr := fr) (o := .lst us) ms.length hmm (s.there hmm)
  exact q _ _ _ _ e (s.set hm ⟨us, upd_same, ru.ex s e⟩) (rz.ex s e)
theorem le_m {K : KZ} {Z : KS} {W : WZ Z} {r : V → List V → Hp → VK → Prop} {f : FM} {to : FE} {ta : FA} (h : RMF K r f) {σ : L2.St} {H : Hp} {Q : VK} : LE K W (eM f to ta) σ H Q → tBM K "list" r (LE K W to) (LA K W ta) σ H Q := by
  rintro ⟨fr, ms, ρ, st, w, g⟩
  refine ⟨fr, ms, ρ, st, w, g.bind.mono fun x st1 fr1 H1 ms1 _ _ ⟨e1, s1, g1⟩ v rv => ?_⟩
  cases x with
  | ref p =>
    dsimp only at g1
    cases hx : lstAt st1 p with
    | none =>
      rw [hx] at g1
      exact g1.elim
    | some xs =>
      rw [hx] at g1
      dsimp only at g1
      obtain ⟨a, rfl, hm, ws, hw, _⟩ := s1.at rv (lstAt_eq hx)
      refine ⟨.inl ⟨rfl, ws, SqL.of hw⟩, fr1, ms1, ρ, st1, w.on e1 s1, g1.bind.mono fun ys st2 fr2 H2 ms2 _ _ ⟨e2, s2, g2⟩ vs rs => ?_⟩
      cases hx2 : lstAt st2 p with
      | none =>
        rw [hx2] at g2
        exact g2.elim
      | some xs2 =>
        rw [hx2] at g2
        dsimp only at g2
        cases hf : f xs2 ys with
        | none =>
          rw [hf] at g2
          exact g2.elim
        | some pr =>
          obtain ⟨z, zs⟩ := pr
          rw [hf] at g2
          have q := QV.of g2
          obtain ⟨b, eb, hm2, ws2, hw2, hr2⟩ := s2.at (rv.ex s1 e2) (lstAt_eq hx2)
          cases eb
          exact h _ fr2 H2 ms2 a ws2 xs2 ys vs z zs Q hw2 hr2 rs hf fun us v ru rz => q.setl (xs := xs2) s2 hm2 ru rz
  | _ => exact g1.elim
theorem le_m0 {K : KZ} {Z : KS} {W : WZ Z} {r : V → List V → Hp → VK → Prop} {f : FM} {to : FE} (h : RMF K r f) {σ : L2.St} {H : Hp} {Q : VK} : LE K W (eM f to aNil) σ H Q → tBM0 K "list" r (LE K W to) σ H Q := by
  rintro ⟨fr, ms, ρ, st, w, g⟩
  refine ⟨fr, ms, ρ, st, w, g.bind.mono fun x st1 fr1 H1 ms1 _ _ ⟨e1, s1, g1⟩ v rv => ?_⟩
  cases x with
  | ref p =>
    dsimp only at g1
    cases hx : lstAt st1 p with
    | none =>
      rw [hx] at g1
      exact g1.elim
    | some xs =>
      rw [hx] at g1
      dsimp only [aNil, FL.R.bind] at g1
      rw [hx] at g1
      dsimp only at g1
      obtain ⟨a, rfl, hm, ws, hw, hr⟩ := s1.at rv (lstAt_eq hx)
      cases hf : f xs [] with
      | none =>
        rw [hf] at g1
        exact g1.elim
      | some pr =>
        obtain ⟨z, zs⟩ := pr
        rw [hf] at g1
        have q := QV.of g1
        exact ⟨.inl ⟨rfl, ws, SqL.of hw⟩, h _ fr1 H1 ms1 a ws xs [] [] z zs Q hw hr .nil hf fun us v ru rz => q.setl (xs := xs) s1 hm ru rz⟩
  | _ => exact g1.elim
section
variable {K : KZ}
def fApp : FM := fun xs ys => match ys with
  | [y] => bif Nat.blt xs.length sizeLine then some (.non, xs ++ [y]) else none
  | _ => none
theorem rm_app : RMF K rAppend fApp := fun _ fr H ms a ws xs ys vs z zs Q hw hr rs h q => by
  unfold fApp at h
  split at h
  · obtain ⟨hb, h⟩ := cond_some h
    cases h
    obtain ⟨v, rfl, rv⟩ := vrs1 rs
    exact ⟨a, ws, v, rfl, rfl, hw, by rw [hr.length]; exact Nat.le_of_ble_eq_true hb, q _ _ (hr.app (.cons rv .nil)) .non⟩
  · cases h
def fPopAt : FM := fun xs ys => match ys with
  | [.int i] => bif decide (-(2 ^ 63) ≤ i ∧ i < 2 ^ 63) then (match seqIndex? i xs.length with
    | some j => (match xs[j]? with
      | some y => some (y, xs.eraseIdx j)
      | none => none)
    | none => none) else none
  | _ => none
theorem rm_popAt : RMF K rPopAt fPopAt := fun _ fr H ms a ws xs ys vs z zs Q hw hr rs h q => by
  unfold fPopAt at h
  split at h
  · next i =>
    obtain ⟨hb, h⟩ := cond_some h
    have hb := of_decide_eq_true hb
    obtain ⟨v, rfl, rv⟩ := vrs1 rs
    split at h
    · next j hj =>
      split at h
      · next y hy =>
        cases h
        obtain ⟨u, hu, ru⟩ := hr.get hy
        exact ⟨a, ws, i, j, u, rfl, by rw [vr_int rv], hw, hb.1, hb.2, by rw [hr.length]; exact hj, hu, q _ _ (hr.era j) ru⟩
      · cases h
    · cases h
  · cases h
def fPop : FM := fun xs ys => match ys with
  | [] => (match xs[xs.length - 1]? with
    | some y => some (y, xs.dropLast)
    | none => none)
  | _ => none
theorem VRs.dropLast {fr : Addr → Prop} {H : Hp} {ms : List Addr} {ws : List V} {xs : List Val} (r : VRs K fr H ms ws xs) : VRs K fr H ms ws.dropLast xs.dropLast := by
  rw [List.dropLast_eq_take, List.dropLast_eq_take, r.length]
  exact r.cut _
theorem rm_pop : RMF K rPop fPop := fun _ fr H ms a ws xs ys vs z zs Q hw hr rs h q => by
  unfold fPop at h
  split at h
  · split at h
    · next y hy =>
      cases h
      cases rs
      rw [← hr.length] at hy
      obtain ⟨u, hu, ru⟩ := hr.get hy
      exact ⟨a, ws, u, rfl, rfl, hw, hu, q _ _ hr.dropLast ru⟩
    · cases h
  · cases h
def fIns : FM := fun xs ys => match ys with
  | [.int i, y] => bif Nat.blt xs.length sizeLine && decide (0 ≤ i ∧ i < 2 ^ 63) then some (.non, xs.take i.toNat ++ y :: xs.drop i.toNat) else none
  | _ => none
theorem rm_ins : RMF K (fun x vs H Q => ∃ (l : Addr) (xs : List V) (i : Int) (y : V), x = .ref l ∧ vs = [.int i, y] ∧ H l = some (.lst xs) ∧ xs.length < sizeLine ∧ 0 ≤ i ∧ i < 2 ^ 63 ∧ Q .non (upd H l (.lst (xs.take i.toNat ++ [y] ++ xs.drop i.toNat)))) fIns := fun _ fr H ms a ws xs ys vs z zs Q hw hr rs h q => by
  unfold fIns at h
  split at h
  · next i y =>
    obtain ⟨hb, h⟩ := cond_some h
    cases h
    have hb := Bool.and_eq_true_iff.mp hb
    have h2 := of_decide_eq_true hb.2
    obtain ⟨v, u, rfl, rv, ru⟩ := vrs2 rs
    refine ⟨a, ws, i, u, rfl, by rw [vr_int rv], hw, by rw [hr.length]; exact Nat.le_of_ble_eq_true hb.1, h2.1, h2.2, ?_⟩
    rw [List.append_assoc]
    exact q _ _ ((hr.cut _).app (.cons ru (hr.off _))) .non
  · cases h
def fClr : FM := fun _ ys => match ys with
  | [] => some (.non, [])
  | _ => none
theorem rm_clr : RMF K rClear fClr := fun _ fr H ms a ws xs ys vs z zs Q hw hr rs h q => by
  unfold fClr at h
  split at h
  · cases h
    cases rs
    exact ⟨a, ws, rfl, rfl, hw, q _ _ .nil .non⟩
  · cases h
end
section
variable {X : Cx} {Z : KS} {W : WZ Z} {o e : Expr} {es : List Expr} {to : FE} {t : FA} {name : Str} {apos cpos : Pos} {id : String} {r : V → List V → Hp → VK → Prop} {f : FM}
theorem d_m (slot : Slot "list" name id) (hty : typeOf (.builtin id) = pure (.type "method_descriptor")) (hm : MtR X id r) (hf : RMF (kx X Z) r f) (ho : DE X W o to) (ha : DA X W (e :: es) t)
    (hbase : attributeBase o name X.env (eval o X.env) = eval o X.env := by rfl)
    (hfew : ((backTo cpos (starEach (e :: es) X.env)).all (fun x => !x.1) && (backToKw cpos (keywordEach [] X.env)).all (fun x => x.1.isSome)
      && decide ((e :: es).length + ([] : List Keyword).length + (if ([] : List Keyword).isEmpty then 0 else 1) < 30)) = true := by rfl)
    (hline : (apos.endLine == cpos.line) = true := by rfl) (hs : starEach (e :: es) X.env = (false, eval e X.env) :: starEach es X.env := by rfl) (hplain : (backTo cpos (starEach es X.env)).any (·.1) = false := by rfl) :
    DE X W (.Call (.Attribute o name apos) (e :: es) [] cpos) (eM f to t) := pe_imp (pe_bm PySem.F.plainAttrs_list slot hty hm ho ha hbase hfew hline hs hplain) fun _ _ _ => le_m hf
theorem d_m0 (slot : Slot "list" name id) (hty : typeOf (.builtin id) = pure (.type "method_descriptor")) (hm : MtR X id r) (hf : RMF (kx X Z) r f) (ho : DE X W o to) (hbase : attributeBase o name X.env (eval o X.env) = eval o X.env := by rfl) (hline : (apos.endLine == cpos.line) = true := by rfl) :
    DE X W (.Call (.Attribute o name apos) [] [] cpos) (eM f to aNil) := pe_imp (pe_bm0 PySem.F.plainAttrs_list slot hty hm ho hbase hline) fun _ _ _ => le_m0 hf
/-- xs.extend(ys): ys a list that is made or kept -/
def eExt (to : FE) (ta : FE) : FE := fun ρ st => (to ρ st).bind fun x st1 => match x with
  | .ref p => (match lstAt st1 p with
    | some _ => (ta ρ st1).bind fun y st2 => (match lstAt st2 p, plOf st2 y with
      | some xs, some zs => bif Nat.ble (xs.length + zs.length) sizeLine then .ok .non (st2.set p (.lst (xs ++ zs))) else .bad
      | _, _ => .bad)
    | none => .bad)
  | _ => .bad
theorem d_ext (ho : DE X W o to) {te : FE} (ha : DE X W e te)
    (hbase : attributeBase o "extend" X.env (eval o X.env) = eval o X.env := by rfl)
    (hfew : ((backTo cpos (starEach [e] X.env)).all (fun x => !x.1) && (backToKw cpos (keywordEach [] X.env)).all (fun x => x.1.isSome)
      && decide ([e].length + ([] : List Keyword).length + (if ([] : List Keyword).isEmpty then 0 else 1) < 30)) = true := by rfl)
    (hline : (apos.endLine == cpos.line) = true := by rfl) (hs : starEach [e] X.env = (false, eval e X.env) :: starEach [] X.env := by rfl) (hplain : (backTo cpos (starEach [] X.env)).any (·.1) = false := by rfl) :
    DE X W (.Call (.Attribute o "extend" apos) [e] [] cpos) (eExt to te) := pe_imp (pe_bm PySem.F.plainAttrs_list PySem.F.slot_list_extend PySem.F.type_list_extend mt_extend ho (pa_cons ha pa_nil hs) hbase hfew hline hs hplain) fun σ H Q ⟨fr, ms, ρ, st, w, g⟩ =>
  ⟨fr, ms, ρ, st, w, g.bind.mono fun x st1 fr1 H1 ms1 _ _ ⟨e1, s1, g1⟩ v rv => by
    cases x with
    | ref p =>
      dsimp only at g1
      cases hx : lstAt st1 p with
      | none =>
        rw [hx] at g1
        exact g1.elim
      | some xs =>
        rw [hx] at g1
        dsimp only at g1
        obtain ⟨a, rfl, hm, ws, hw, _⟩ := s1.at rv (lstAt_eq hx)
        refine ⟨.inl ⟨rfl, ws, SqL.of hw⟩, fr1, ms1, ρ, st1, w.on e1 s1, g1.bind.mono fun y st2 fr2 H2 ms2 _ _ ⟨e2, s2, g2⟩ u ru => ?_⟩
        cases hx2 : lstAt st2 p with
        | none =>
          rw [hx2] at g2
          exact g2.elim
        | some xs2 =>
          rw [hx2] at g2
          cases hy : plOf st2 y with
          | none =>
            rw [hy] at g2
            exact g2.elim
          | some zs =>
            rw [hy] at g2
            obtain ⟨hb, g3⟩ := g2.cond
            have q := QV.of g3
            obtain ⟨b, eb, hm2, ws2, hw2, hr2⟩ := s2.at (rv.ex s1 e2) (lstAt_eq hx2)
            cases eb
            obtain ⟨c, us, rfl, hu, hru⟩ := pl_at s2 ru hy
            exact ⟨a, c, ws2, us, rfl, rfl, hw2, hu, by rw [hr2.length, hru.length]; exact Nat.le_of_ble_eq_true hb, q.setl (xs := xs2) s2 hm2 (hr2.app hru) .non⟩
    | _ => exact g1.elim⟩
end
end FL
namespace FL
open PySem PySem.Spec PyProof.Rows L2
/-! ### x[::-1] -/
def revF (c : Bool) (x : Val) (st : Store) : OV := match x with
  | .tup xs => some (.tup xs.reverse, st)
  | x => (match lstOf st x with
    | some xs => some (newL c xs.reverse st)
    | none => none)
def eRev (c : Bool) (te : FE) : FE := fun ρ st => (te ρ st).bind fun x st1 => R.opt (revF c x st1)
theorem d_rev (c : Bool) {X : Cx} {Z : KS} {W : WZ Z} {e : Expr} {te : FE} {k : Nat} {p1 p2 p3 pos : Pos} (he : DE X W e te) : DE X W (.Subscript e (.Slice none none (some (.UnaryOp .USub (.Constant (.int 1) k p1) p2)) p3) pos) (eRev c te) := pe_imp (pe_revU he) fun σ H Q ⟨fr, ms, ρ, st, w, g⟩ =>
  ⟨fr, ms, ρ, st, w, g.bind.mono fun x st1 fr1 H1 ms1 _ _ ⟨e1, s1, g1⟩ v rv => by
    obtain ⟨z, st4, hz, q⟩ := g1.opt
    unfold revF at hz
    split at hz
    · cases hz
      obtain ⟨a, ws, rfl, h1, h2⟩ := vr_tup rv
      exact ⟨a, ws, rfl, .inr ⟨h1, fun p n => q.tup s1 h2.rev n⟩⟩
    · split at hz
      · next xs hx =>
        obtain ⟨e5, e6⟩ := newl_out hz
        rw [← e5, ← e6] at q
        obtain ⟨a, ws, rfl, hs, hr⟩ := lst_at s1 rv hx
        exact ⟨a, ws, rfl, .inl ⟨hs, fun p n => q.newl s1 hr.rev n⟩⟩
      · cases hz⟩
/-! ### enumerate, zip -/
/-- a value's kind, and its items by an iterator's store -/
theorem cur_kind {K : KZ} {fr : Addr → Prop} {H : Hp} {ms : List Addr} {st : Store} {x : Val} {v : V} {cur : Its} (s : SR K fr H ms st) (r : VR K fr H ms v x) (h : curOf st x = some cur) :
    ∃ a t ws, v = .ref a ∧ SqK K H a t ws ∧ ∀ fr' H' ms' st' xs, Ext ms.length fr H ms fr' H' ms' → SR K fr' H' ms' st' → cur st' = some xs → ∃ ws, SqK K H' a t ws ∧ VRs K fr' H' ms' ws xs := by
  unfold curOf at h
  split at h
  · next p =>
    split at h
    · next xs hx =>
      cases h
      obtain ⟨a, rfl, hm, ws, hw, hr⟩ := s.at r (lstAt_eq hx)
      refine ⟨a, false, ws, rfl, SqL.of hw, fun fr2 H2 ms2 st2 ys e2 s2 hy => ?_⟩
      obtain ⟨b, eb, _, zs, hz, hr2⟩ := s2.at (r.ex s e2) (lstAt_eq hy)
      cases eb
      exact ⟨zs, SqL.of hz, hr2⟩
    · cases h
  · cases h
    obtain ⟨a, ws, rfl, h1, h2⟩ := vr_tup r
    refine ⟨a, true, ws, rfl, h1, fun fr2 H2 ms2 st2 ys e2 s2 hy => ?_⟩
    cases hy
    exact ⟨ws, sqt_ex s e2 h1, h2.ex s e2⟩
  · cases h
    obtain ⟨a, ws, rfl, h1, h2⟩ := vr_ro r
    refine ⟨a, false, ws, rfl, SqL.of h1, fun fr2 H2 ms2 st2 ys e2 s2 hy => ?_⟩
    cases hy
    obtain ⟨b, ws2, eb, h3, h4⟩ := vr_ro (r.ex s e2)
    cases eb
    exact ⟨ws2, SqL.of h3, h4⟩
  · cases h
    obtain ⟨a, ws, rfl, h1, h2⟩ := vr_wr r
    refine ⟨a, false, ws, rfl, h1.sql, fun fr2 H2 ms2 st2 ys e2 s2 hy => ?_⟩
    cases hy
    exact ⟨ws, h1.sqx s e2, h2.ex s e2⟩
  · cases h
theorem pr_new {K : KZ} {fr : Addr → Prop} {H : Hp} {ms : List Addr} {st : Store} (s : SR K fr H ms st) {T : Addr} {x y : V} {d e : Val} (n : H T = none) (rx : VR K fr H ms x d) (ry : VR K fr H ms y e) :
    ∃ fr', Ext ms.length fr H ms fr' (upd H T (.tup [x, y])) ms ∧ SR K fr' (upd H T (.tup [x, y])) ms st ∧ VR K fr' (upd H T (.tup [x, y])) ms (.ref T) (.tup [d, e]) :=
  ⟨fr, Ext.new _ n, s.new n, .tup (SqT.of upd_same) ((VRs.cons rx (.cons ry .nil)).ex s (Ext.new _ n))⟩
def enL (xs : List Val) : List Val := xs.mapIdx fun i d => .tup [.int (i : Nat), d]
theorem enL_len (ds : List Val) : (enL ds).length = ds.length := List.length_mapIdx
theorem enL_get {ds : List Val} {i : Nat} {x : Val} (h : (enL ds)[i]? = some x) : ∃ d, ds[i]? = some d ∧ x = .tup [.int (i : Nat), d] := by
  unfold enL at h
  rw [List.getElem?_mapIdx] at h
  cases e : ds[i]? with
  | none =>
    rw [e] at h
    cases h
  | some d =>
    rw [e] at h
    cases h
    exact ⟨d, rfl, rfl⟩
def enC (cur : Its) : Its := fun st => match cur st with
  | some xs => some (enL xs)
  | none => none
def iEn (ta : FA) : FI := fun ρ st => (ta ρ st).bind fun xs st1 => match xs with
  | [x] => (match curOf st1 x with
    | some cur => .ok (enC cur) st1
    | none => .bad)
  | _ => .bad
theorem i_enum {X : Cx} {Z : KS} {W : WZ Z} {e : Expr} {ta : FA} {p pos tpos : Pos} {elts : List Expr} {kk : Nat} (hm : X.mg "enumerate" = none) (ha : DA X W [e] ta) (hg : Gl X "enumerate" := by rfl) (hs : starEach [e] X.env = [(false, eval e X.env)] := by rfl) :
    DI X W (.Tuple elts kk tpos) (.Call (.Name "enumerate" p) [e] [] pos) (iEn ta) := pi_imp (pi_enB hg hm ha hs) fun σ H R ⟨fr, ms, ρ, st, w, g⟩ =>
  ⟨fr, ms, ρ, st, w, g.bind.mono fun xs st1 fr1 H1 ms1 _ _ ⟨e1, s1, g1⟩ vs rs => by
    split at g1
    · next x _ =>
      obtain ⟨v, rfl, rv⟩ := vrs1 rs
      cases hc : curOf st1 x with
      | none =>
        rw [hc] at g1
        exact g1.elim
      | some cur =>
        rw [hc] at g1
        obtain ⟨a, t, xa, rfl, qa, ga⟩ := cur_kind s1 rv hc
        refine ⟨a, t, xa, rfl, qa, g1.now s1 _ fun i fr2 H2 ms2 st2 ys e2 s2 hy => ?_⟩
        unfold enC at hy
        cases hu : cur st2 with
        | none =>
          rw [hu] at hy
          cases hy
        | some us =>
          rw [hu] at hy
          cases hy
          obtain ⟨ws, q2, r2⟩ := ga fr2 H2 ms2 st2 us e2 s2 hu
          refine ⟨fun x hx => ?_, fun hi => ⟨ws, q2, by rw [enL_len] at hi; rw [r2.length]; exact hi⟩⟩
          obtain ⟨d, hd', rfl⟩ := enL_get hx
          obtain ⟨v, hv, rv⟩ := r2.get hd'
          refine ⟨⟨ws, v, q2, hv⟩, fun z H3 y3 => ?_⟩
          obtain ⟨T, x, rfl, hT, rfl, g⟩ := y3
          have ex : x = v := Option.some.inj ((g ws q2).symm.trans hv)
          subst ex
          exact pr_new s2 hT (.int _) rv
    · exact g1.elim⟩
def prV (x y : Val) : Val := .tup [x, y]
def zpC (b : Bool) (c1 c2 : Its) : Its := fun st => match c1 st, c2 st with
  | some xs, some ys => bif b && !(xs.length == ys.length) then none else some (List.zipWith prV xs ys)
  | _, _ => none
def iZpB (b : Bool) (ta : FA) : FI := fun ρ st => (ta ρ st).bind fun xs st1 => match xs with
  | [x, y] => (match curOf st1 x, curOf st1 y with
    | some c1, some c2 => .ok (zpC b c1 c2) st1
    | _, _ => .bad)
  | _ => .bad
theorem li_zp {K : KZ} {Z : KS} {W : WZ Z} {b : Bool} {ta : FA} {σ : L2.St} {H : Hp} {R : It → Hp → Prop} : LI K W (iZpB b ta) σ H R → tZip K b (LA K W ta) σ H R := fun ⟨fr, ms, ρ, st, w, g⟩ =>
  ⟨fr, ms, ρ, st, w, g.bind.mono fun xs st1 fr1 H1 ms1 _ _ ⟨e1, s1, g1⟩ vs rs => by
    split at g1
    · next x y _ =>
      obtain ⟨v, u, rfl, rv, ru⟩ := vrs2 rs
      cases hc1 : curOf st1 x with
      | none =>
        cases hc2 : curOf st1 y <;> (rw [hc1, hc2] at g1; exact g1.elim)
      | some c1 =>
        cases hc2 : curOf st1 y with
        | none =>
          rw [hc1, hc2] at g1
          exact g1.elim
        | some c2 =>
          rw [hc1, hc2] at g1
          obtain ⟨a, t1, xa, rfl, qa, ga⟩ := cur_kind s1 rv hc1
          obtain ⟨c, t2, xc, rfl, qc, gc⟩ := cur_kind s1 ru hc2
          refine ⟨a, c, t1, t2, xa, xc, rfl, qa, qc, g1.now s1 _ fun i fr2 H2 ms2 st2 zs e2 s2 hz => ?_⟩
          unfold zpC at hz
          cases h1 : c1 st2 with
          | none =>
            rw [h1] at hz
            cases hz
          | some us =>
            cases h2 : c2 st2 with
            | none =>
              rw [h1, h2] at hz
              cases hz
            | some ws =>
              rw [h1, h2] at hz
              dsimp only at hz
              have hb : b = true → us.length = ws.length := fun z => by
                subst z
                by_cases hl : us.length = ws.length
                · exact hl
                · rw [show (us.length == ws.length) = false by simpa using hl] at hz
                  cases hz
              have hz' : zs = List.zipWith prV us ws := by
                cases hq : (b && !(us.length == ws.length)) with
                | true =>
                  rw [hq] at hz
                  cases hz
                | false =>
                  rw [hq] at hz
                  cases hz
                  rfl
              subst hz'
              obtain ⟨as, q1, r1⟩ := ga fr2 H2 ms2 st2 us e2 s2 h1
              obtain ⟨bs, q2, r2⟩ := gc fr2 H2 ms2 st2 ws e2 s2 h2
              have l1 := r1.length
              have l2 := r2.length
              refine ⟨fun x hx => ?_, fun hi => ⟨as, bs, q1, q2, ?_⟩⟩
              · rw [List.getElem?_zipWith] at hx
                cases e : us[i]? with
                | none =>
                  rw [e] at hx
                  simp at hx
                | some d =>
                  cases e' : ws[i]? with
                  | none =>
                    rw [e, e'] at hx
                    simp at hx
                  | some f =>
                    rw [e, e'] at hx
                    cases hx
                    obtain ⟨v, hv, rv⟩ := r1.get e
                    obtain ⟨u, hu, ru⟩ := r2.get e'
                    refine ⟨⟨as, bs, v, u, q1, q2, hv, hu⟩, fun z H3 y3 => ?_⟩
                    obtain ⟨T, x, y, rfl, hT, rfl, g1, g2⟩ := y3
                    have ex : x = v := Option.some.inj ((g1 as q1).symm.trans hv)
                    have ey : y = u := Option.some.inj ((g2 bs q2).symm.trans hu)
                    subst ex ey
                    exact pr_new s2 hT rv ru
              · rw [List.length_zipWith] at hi
                cases b with
                | true =>
                  have hl := hb rfl
                  exact ⟨by omega, by omega⟩
                | false => exact (show as.length ≤ i ∨ bs.length ≤ i by omega)
    · exact g1.elim⟩
theorem i_zip {X : Cx} {Z : KS} {W : WZ Z} {e e2 : Expr} {ta : FA} {p pos tpos : Pos} {elts : List Expr} {kk : Nat} (hm : X.mg "zip" = none) (ha : DA X W [e, e2] ta) (hg : Gl X "zip" := by rfl)
    (hs : starEach [e, e2] X.env = (false, eval e X.env) :: starEach [e2] X.env := by rfl) (hpl : (backTo pos (starEach [e2] X.env)).any (·.1) = false := by rfl) :
    DI X W (.Tuple elts kk tpos) (.Call (.Name "zip" p) [e, e2] [] pos) (iZpB false ta) := pi_imp (pi_zb hg hm ha hs hpl) fun _ _ _ => li_zp
theorem i_zipS {X : Cx} {Z : KS} {W : WZ Z} {e e2 : Expr} {ta : FA} {p pos tpos kp kpos : Pos} {elts : List Expr} {kk kj : Nat} (hm : X.mg "zip" = none) (ha : DA X W [e, e2] ta) (hg : Gl X "zip" := by rfl)
    (hs : starEach [e, e2] X.env = (false, eval e X.env) :: starEach [e2] X.env := by rfl) (hpl : (backTo pos (starEach [e, e2] X.env)).any (·.1) = false := by rfl) :
    DI X W (.Tuple elts kk tpos) (.Call (.Name "zip" p) [e, e2] [⟨some "strict", .Constant (.bool true) kj kp, kpos⟩] pos) (iZpB true ta) := pi_imp (pi_zs hg hm ha hs hpl) fun _ _ _ => li_zp
/-! ### list(range(..)), tuple(range(..)) -/
theorem rg_rel {K : KZ} {fr : Addr → Prop} {H : Hp} {ms : List Addr} (a b : Int) : VRs K fr H ms (rgV a b) (rngs a (b - a).toNat) := by
  unfold rgV rngs
  generalize List.range (b - a).toNat = l
  induction l with
  | nil => exact .nil
  | cons i r ih => exact .cons (.int _) ih
def okRgB (a b : Int) : Bool := okRg a b && decide ((b - a).toNat ≤ sizeLine)
def eListRg1 (c : Bool) (ta : FE) : FE := fun ρ st => (ta ρ st).bind fun x st1 => match x with
  | .int n => bif okRgB 0 n then .ok (newL c (rngs 0 (n - 0).toNat) st1).1 (newL c (rngs 0 (n - 0).toNat) st1).2 else .bad
  | _ => .bad
def eTupRg1 (ta : FE) : FE := fun ρ st => (ta ρ st).bind fun x st1 => match x with
  | .int n => bif okRgB 0 n then .ok (.tup (rngs 0 (n - 0).toNat)) st1 else .bad
  | _ => .bad
def eListRg2 (c : Bool) (ta tb : FE) : FE := fun ρ st => (ta ρ st).bind fun x st1 => (tb ρ st1).bind fun y st2 => match x, y with
  | .int a, .int b => bif okRgB a b then .ok (newL c (rngs a (b - a).toNat) st2).1 (newL c (rngs a (b - a).toNat) st2).2 else .bad
  | _, _ => .bad
def eTupRg2 (ta tb : FE) : FE := fun ρ st => (ta ρ st).bind fun x st1 => (tb ρ st1).bind fun y st2 => match x, y with
  | .int a, .int b => bif okRgB a b then .ok (.tup (rngs a (b - a).toNat)) st2 else .bad
  | _, _ => .bad
theorem okRgB_at {a b : Int} (h : okRgB a b = true) : RgOk a b := by
  have h := Bool.and_eq_true_iff.mp h
  have h1 := of_decide_eq_true h.1
  have h2 := of_decide_eq_true h.2
  exact ⟨h1.1, h1.2.1, h1.2.2.1, h1.2.2.2, h2⟩
section
variable {X : Cx} {Z : KS} {W : WZ Z} {e e2 : Expr} {te te2 : FE} {p p2 pos pos2 : Pos}
theorem d_listRg1 (c : Bool) (hml : X.mg "list" = none) (hmr : X.mg "range" = none) (he : DE X W e te) (hc : X.calm = true := by rfl) (hgl : Gl X "list" := by rfl) (hgr : Gl X "range" := by rfl)
    (na : starEach [e] X.env = (false, eval e X.env) :: starEach [] X.env := by rfl) (nb : starEach [.Call (.Name "range" p2) [e] [] pos2] X.env = (false, eval (.Call (.Name "range" p2) [e] [] pos2) X.env) :: starEach [] X.env := by rfl) :
    DE X W (.Call (.Name "list" p) [.Call (.Name "range" p2) [e] [] pos2] [] pos) (eListRg1 c te) := pe_imp (pe_listRg hc hgl hml (prg_1 hgr hmr he na) nb) fun σ H Q ⟨fr, ms, ρ, st, w, g⟩ =>
  ⟨fr, ms, ρ, st, w, g.bind.mono fun x st1 fr1 H1 ms1 _ _ ⟨e1, s1, g1⟩ v rv => by
    split at g1
    · obtain ⟨hb, g2⟩ := g1.cond
      exact ⟨_, vr_int rv, okRgB_at hb, fun p n => (QV.of g2).newl s1 (rg_rel _ _) n⟩
    · exact g1.elim⟩
theorem d_tupRg1 (hml : X.mg "tuple" = none) (hmr : X.mg "range" = none) (he : DE X W e te) (hc : X.calm = true := by rfl) (hgl : Gl X "tuple" := by rfl) (hgr : Gl X "range" := by rfl)
    (na : starEach [e] X.env = (false, eval e X.env) :: starEach [] X.env := by rfl) (nb : starEach [.Call (.Name "range" p2) [e] [] pos2] X.env = (false, eval (.Call (.Name "range" p2) [e] [] pos2) X.env) :: starEach [] X.env := by rfl) :
    DE X W (.Call (.Name "tuple" p) [.Call (.Name "range" p2) [e] [] pos2] [] pos) (eTupRg1 te) := pe_imp (pe_tupRg hc hgl hml (prg_1 hgr hmr he na) nb) fun σ H Q ⟨fr, ms, ρ, st, w, g⟩ =>
  ⟨fr, ms, ρ, st, w, g.bind.mono fun x st1 fr1 H1 ms1 _ _ ⟨e1, s1, g1⟩ v rv => by
    split at g1
    · obtain ⟨hb, g2⟩ := g1.cond
      exact ⟨_, vr_int rv, okRgB_at hb, fun p n => (QV.of g2).tup s1 (rg_rel _ _) n⟩
    · exact g1.elim⟩
theorem d_listRg2 (c : Bool) (hml : X.mg "list" = none) (hmr : X.mg "range" = none) (he : DE X W e te) (he2 : DE X W e2 te2) (hc : X.calm = true := by rfl) (hgl : Gl X "list" := by rfl) (hgr : Gl X "range" := by rfl)
    (na : starEach [e, e2] X.env = (false, eval e X.env) :: starEach [e2] X.env := by rfl) (nc : starEach [e2] X.env = (false, eval e2 X.env) :: starEach [] X.env := by rfl) (hp : (backTo pos2 (starEach [e2] X.env)).any (·.1) = false := by rfl)
    (nb : starEach [.Call (.Name "range" p2) [e, e2] [] pos2] X.env = (false, eval (.Call (.Name "range" p2) [e, e2] [] pos2) X.env) :: starEach [] X.env := by rfl) :
    DE X W (.Call (.Name "list" p) [.Call (.Name "range" p2) [e, e2] [] pos2] [] pos) (eListRg2 c te te2) := pe_imp (pe_listRg hc hgl hml (prg_2 hgr hmr he he2 na nc hp) nb) fun σ H Q ⟨fr, ms, ρ, st, w, g⟩ =>
  ⟨fr, ms, ρ, st, w, g.bind.mono fun x st1 fr1 H1 ms1 _ _ ⟨e1, s1, g1⟩ v rv => ⟨fr1, ms1, ρ, st1, w.on e1 s1, g1.bind.mono fun y st2 fr2 H2 ms2 _ _ ⟨e2, s2, g2⟩ u ru => by
    split at g2
    · obtain ⟨hb, g3⟩ := g2.cond
      exact ⟨_, _, vr_int rv, vr_int ru, okRgB_at hb, fun p n => (QV.of g3).newl s2 (rg_rel _ _) n⟩
    · exact g2.elim⟩⟩
theorem d_tupRg2 (hml : X.mg "tuple" = none) (hmr : X.mg "range" = none) (he : DE X W e te) (he2 : DE X W e2 te2) (hc : X.calm = true := by rfl) (hgl : Gl X "tuple" := by rfl) (hgr : Gl X "range" := by rfl)
    (na : starEach [e, e2] X.env = (false, eval e X.env) :: starEach [e2] X.env := by rfl) (nc : starEach [e2] X.env = (false, eval e2 X.env) :: starEach [] X.env := by rfl) (hp : (backTo pos2 (starEach [e2] X.env)).any (·.1) = false := by rfl)
    (nb : starEach [.Call (.Name "range" p2) [e, e2] [] pos2] X.env = (false, eval (.Call (.Name "range" p2) [e, e2] [] pos2) X.env) :: starEach [] X.env := by rfl) :
    DE X W (.Call (.Name "tuple" p) [.Call (.Name "range" p2) [e, e2] [] pos2] [] pos) (eTupRg2 te te2) := pe_imp (pe_tupRg hc hgl hml (prg_2 hgr hmr he he2 na nc hp) nb) fun σ H Q ⟨fr, ms, ρ, st, w, g⟩ =>
  ⟨fr, ms, ρ, st, w, g.bind.mono fun x st1 fr1 H1 ms1 _ _ ⟨e1, s1, g1⟩ v rv => ⟨fr1, ms1, ρ, st1, w.on e1 s1, g1.bind.mono fun y st2 fr2 H2 ms2 _ _ ⟨e2, s2, g2⟩ u ru => by
    split at g2
    · obtain ⟨hb, g3⟩ := g2.cond
      exact ⟨_, _, vr_int rv, vr_int ru, okRgB_at hb, fun p n => (QV.of g3).tup s2 (rg_rel _ _) n⟩
    · exact g2.elim⟩⟩
end
/-! ### several names at once -/
theorem s_par (i j : Nat) {X : Cx} {Z : KS} {W : WZ Z} {x y : Str} {a b : Expr} {ta : FA} {px py pt pos : Pos} {kt k2 pt2} (hc : X.calm = true) (hN : X.N.Nodup) (ha : DA X W [a, b] ta) (hi : X.N[i]? = some x := by rfl) (hj : X.N[j]? = some y := by rfl) (hij : i ≠ j := by decide)
    (hx : X.env.scope.names.lookup x = some .local := by rfl) (hy : X.env.scope.names.lookup y = some .local := by rfl)
    (hw : swappedStores [.Tuple [.Name x px, .Name y py] kt pt] (.Tuple [a, b] k2 pt2) X.env = pure (some [x, y]) := by rfl)
    (hs : swapsWithSole [.Tuple [.Name x px, .Name y py] kt pt] (.Tuple [a, b] k2 pt2) pos.line X.env = pure false := by rfl) (hci : i ∉ W.cs := by exact not_cs (by assumption) (by decide)) (hcj : j ∉ W.cs := by exact not_cs (by assumption) (by decide)) :
    DS X W (.Assign [.Tuple [.Name x px, .Name y py] kt pt] (.Tuple [a, b] k2 pt2) pos) (sPar i j ta) := ps_imp (ps_par hc hN hi hj hij hx hy ha hw hs) fun _ _ _ => le_par hci hcj
def sPar3 (i j l : Nat) (ta : FA) : FS := fun ρ st => (ta ρ st).to ρ fun xs st1 => match xs with
  | [x, y, z] => .nx (((ρ.set i (some x)).set j (some y)).set l (some z)) st1
  | _ => .bad
theorem s_par3 (i j l : Nat) {X : Cx} {Z : KS} {W : WZ Z} {x y z : Str} {a b c : Expr} {ta : FA} {px py pz pt pos : Pos} {kt k2 pt2} (hc : X.calm = true) (hN : X.N.Nodup) (ha : DA X W [a, b, c] ta) (hi : X.N[i]? = some x := by rfl) (hj : X.N[j]? = some y := by rfl) (hl : X.N[l]? = some z := by rfl) (hij : i ≠ j := by decide) (hil : i ≠ l := by decide) (hjl : j ≠ l := by decide)
    (hx : X.env.scope.names.lookup x = some .local := by rfl) (hy : X.env.scope.names.lookup y = some .local := by rfl) (hz : X.env.scope.names.lookup z = some .local := by rfl)
    (hw : swappedStores [.Tuple [.Name x px, .Name y py, .Name z pz] kt pt] (.Tuple [a, b, c] k2 pt2) X.env = pure (some [x, y, z]) := by rfl)
    (hs : swapsWithSole [.Tuple [.Name x px, .Name y py, .Name z pz] kt pt] (.Tuple [a, b, c] k2 pt2) pos.line X.env = pure false := by rfl) (hci : i ∉ W.cs := by exact not_cs (by assumption) (by decide)) (hcj : j ∉ W.cs := by exact not_cs (by assumption) (by decide)) (hcl : l ∉ W.cs := by exact not_cs (by assumption) (by decide)) :
    DS X W (.Assign [.Tuple [.Name x px, .Name y py, .Name z pz] kt pt] (.Tuple [a, b, c] k2 pt2) pos) (sPar3 i j l ta) := ps_imp (ps_par3 hc hN hi hj hl hij hil hjl hx hy hz ha hw hs) fun D σ H ⟨fr, ms, ρ, st, w, g⟩ =>
  ⟨fr, ms, ρ, st, w, (g.to w).mono fun xs st1 fr1 H1 ms1 _ _ ⟨e1, s1, w1, g1⟩ vs rs => by
    split at g1
    · cases rs with
      | cons a r =>
        cases r with
        | cons b r =>
          cases r with
          | cons c r =>
            cases r
            exact ⟨_, _, _, rfl, g1.nx (((w1.put a i).put b j).put c l) ((gamOf_put hcl).trans ((gamOf_put hcj).trans (gamOf_put hci)))⟩
    · exact g1.elim⟩
/-- (targets) = (values), by a tuple that is made and put aside -/
def sUnp (n : Nat) (ta : FA) (gs : FGs) : FS := fun ρ st => (ta ρ st).to ρ fun xs st1 => bif xs.length == n then (match gs xs ρ st1 with
  | some (ρ', st') => .nx ρ' st'
  | none => .bad) else .bad
theorem s_unp {X : Cx} {Z : KS} {W : WZ Z} {pos p1 p2 : Pos} {k1 k2 : Nat} {ts es : List Expr} {ta : FA} {gs : FGs} {vs : List Nat} {n : Nat} (hc : X.calm = true) (ha : DA X W es ta) (hg : DGs X W vs ts gs) (hn : (assignEach ts X.env).length = n := by rfl) (hz : n ≤ sizeLine := by decide) (hst : (assignEach ts X.env).findIdx? (·.1) = none := by rfl)
    (hs : swapsWithSole [.Tuple ts k1 p1] (.Tuple es k2 p2) pos.line X.env = pure false := by rfl) (hw : swappedStores [.Tuple ts k1 p1] (.Tuple es k2 p2) X.env = pure none := by rfl)
    (h1 : (assignEach [.Tuple ts k1 p1] X.env).map (·.2) = [assign (.Tuple ts k1 p1) X.env] := by rfl) : DS X W (.Assign [.Tuple ts k1 p1] (.Tuple es k2 p2) pos) (sUnp n ta gs) := ps_imp (ps_asg (pe_tup ha) (pg_tup hc hg hn hst) hs hw h1) fun D σ H ⟨fr, ms, ρ, st, w, g⟩ =>
  ⟨fr, ms, ρ, st, w, (g.to w).mono fun xs st1 fr1 H1 ms1 _ _ ⟨e1, s1, w1, g1⟩ vs' rs => by
    cases hl : (xs.length == n) with
    | false =>
      rw [hl] at g1
      exact g1.elim
    | true =>
      rw [hl] at g1
      have hl := beq_nat hl
      dsimp only [cond_true] at g1
      cases hgs : gs xs ρ st1 with
      | none =>
        rw [hgs] at g1
        exact g1.elim
      | some pr =>
        rw [hgs] at g1
        refine ⟨by rw [rs.length, hl]; exact hz, fun p np => ⟨p, vs', rfl, SqT.of upd_same, by rw [rs.length, hl], fr1, ms1, ρ, st1, xs, pr.1, pr.2, w1.on (Ext.new _ np) (s1.new np), rs.ex s1 (Ext.new _ np), hgs, fun fr2 H2 ms2 σ2 e2 m2 w2 _ => ?_⟩⟩
        exact g1 _ _ _ _ ((Ext.new _ np).then e2) m2 w2⟩
section
variable {X : Cx} {Z : KS} {W : WZ Z} {elt tg iter : Expr} {ifs : List Expr} {scope : Scope} {pos : Pos} {wi : FI} {g : FG} {tt : FT} {te : FE}
theorem s_setLc (c : Bool) (i : Nat) {y : Str} {py spos : Pos} (own : List (Str × Nat)) (hc : X.calm = true) (hN : X.N.Nodup) (hi : DI X W tg iter wi) (ok : BlkOk X.N X.env.scope scope own)
    (hg : ∀ (s : Shared) (H : Hp) (C : Addr) (cl : List (Str × Addr)) (fp : List Addr), DG (X.blk s H scope (compEnvC scope cl C X.env) fp) W.no (own.map (·.2)) tg g) (ht : ∀ (s : Shared) (H : Hp) (C : Addr) (cl : List (Str × Addr)) (fp : List Addr), DTs (X.blk s H scope (compEnvC scope cl C X.env) fp) W.no ifs tt)
    (he : ∀ (s : Shared) (H : Hp) (C : Addr) (cl : List (Str × Addr)) (fp : List Addr), DE (X.blk s H scope (compEnvC scope cl C X.env) fp) W.no elt te) (hs : ∀ x, foldedSetIterable iter X.env x = pure x := by intro _; rfl)
    (hy : X.N[i]? = some y := by rfl) (hyl : X.env.scope.names.lookup y = some .local := by rfl) (hsw : swapsWith (.ListComp elt [⟨tg, iter, ifs, 0⟩] scope pos) (some (.Name y py)) spos.line X.env = pure true := by exact sw_true rfl rfl rfl (by decide +kernel)) (hcs : ∀ v ∈ own.map (·.2), v ∉ W.cs := by exact not_css (by assumption) (by decide)) (hci : i ∉ W.cs := by exact not_cs (by assumption) (by decide)) :
    DS X W (.Assign [.Name y py] (.ListComp elt [⟨tg, iter, ifs, 0⟩] scope pos) spos) (sSet i (eLc c wi g tt te (own.map (·.2)))) := ps_imp (ps_setLc hc hN hy hyl hsw hi ok hg ht he hs) fun _ _ _ => le_setLc hcs hci
end
/-! ### o[i] = e of lists and dicts -/
def R.val {α : Type} : R α → Option (α × Store)
  | .ok a st => some (a, st)
  | _ => none
def gSub (to ti : FE) : FG := fun x ρ st => match to ρ st with
  | .ok (.ref p) st1 => (match ti ρ st1 with
    | .ok i st2 => (match st2[p]? with
      | some (.lst xs) => (match i with
        | .int i => (match ixN xs.length i with
          | some j => some (ρ, st2.set p (.lst (xs.set j x)))
          | none => none)
        | _ => none)
      | some (.dic es) => (match keyOf i with
        | some key => bif Nat.blt es.length sizeLine then some (ρ, st2.set p (.dic (putS es key x))) else none
        | none => none)
      | _ => none)
    | _ => none)
  | _ => none
theorem g_sub {X : Cx} {Z : KS} {W : WZ Z} {pos : Pos} {o i : Expr} {to ti : FE} {vs : List Nat} (hu : X.A.units + 1 < cLine) (ho : DE X W.no o to) (hi : DE X W.no i ti)
    (ha : ∀ v, assign (.Subscript o i pos) X.env v = (do
      let ov ← holding [v] (eval o X.env)
      let iv ← holding [v, ov] (eval i X.env)
      standAt pos
      holding [v, ov, iv] (setItem ov iv v)
      release [v, ov, iv] []) := by intro _; rfl) : DG X W vs (.Subscript o i pos) (gSub to ti) := pg_imp (pg_sub ho hi (PSet.or set_list (set_dct hu)) ha) fun v σ H Q ⟨fr, ms, ρ, st, x, ρ', st', w, r, h, q⟩ => by
  unfold gSub at h
  split at h
  · next p st1 h1 =>
    split at h
    · next y st2 h2 =>
      refine ⟨fr, ms, ρ, st, w, ?_⟩
      rw [h1]
      intro fr1 H1 ms1 e1 s1 u ru
      refine ⟨fr1, ms1, ρ, st1, w.on e1 s1, ?_⟩
      rw [h2]
      intro fr2 H2 ms2 e2 s2 t rt
      have hv : VR ((kx X Z).to W σ) fr2 H2 ms2 v x := r.ex w.sr (e1.then e2)
      have hp := ru.ex s1 e2
      have w2 := w.on (e1.then e2) s2
      split at h
      · next xs hx =>
        split at h
        · next i =>
          split at h
          · next j hj =>
            cases h
            obtain ⟨a, rfl, hm, ws, hw, hr⟩ := s2.at hp hx
            have hmm := List.mem_of_getElem? hm
            refine .inl ⟨a, ws, i, j, rfl, vr_int rt, hw, by rw [hr.length]; exact hj, ?_⟩
            have e3 := Ext.upd (fr := fr2) (o := .lst (ws.set j v)) ms2.length hmm (s2.there hmm)
            have s3 := s2.set hm (c := .lst (xs.set j x)) (o := .lst (ws.set j v)) ⟨_, upd_same, (VRs.put hv j hr).ex s2 e3⟩
            exact q _ _ _ _ ((e1.then e2).then e3) rfl (w2.on e3 s3) rfl
          · cases h
        · cases h
      · next es hx =>
        split at h
        · next key hk =>
          obtain ⟨hb, h⟩ := cond_some h
          cases h
          obtain ⟨a, rfl, hm, ws, hw, hr⟩ := s2.at hp hx
          have hmm := List.mem_of_getElem? hm
          obtain rfl := key_at rt hk
          refine .inr ⟨a, _, rfl, DPut.k hw (by rw [hr.length]; exact Nat.le_of_ble_eq_true hb), ?_⟩
          have e3 := Ext.upd (fr := fr2) (o := .dK (putK ws key v)) ms2.length hmm (s2.there hmm)
          have s3 := s2.set hm (c := .dic (putS es key x)) (o := .dK (putK ws key v)) ⟨_, upd_same, (hr.put key hv).ex s2 e3⟩
          exact q _ _ _ _ ((e1.then e2).then e3) rfl (w2.on e3 s3) rfl
        · cases h
      · cases h
    · cases h
  · cases h
/-! ### sorted -/
section
variable {α : Type}
def insB (le : α → α → Bool) (x : α) : List α → List α
  | [] => [x]
  | y :: r => bif le x y then x :: y :: r else y :: insB le x r
def isort (le : α → α → Bool) : List α → List α
  | [] => []
  | x :: r => insB le x (isort le r)
theorem insB_perm (le : α → α → Bool) (x : α) : ∀ l : List α, (insB le x l).Perm (x :: l)
  | [] => .refl _
  | y :: r => by
    unfold insB
    cases le x y with
    | true => exact .refl _
    | false => exact ((insB_perm le x r).cons y).trans (.swap x y r)
theorem isort_perm (le : α → α → Bool) : ∀ l : List α, (isort le l).Perm l
  | [] => .refl _
  | x :: r => (insB_perm le x _).trans ((isort_perm le r).cons x)
theorem insB_pw {le : α → α → Bool} {P : α → Prop} (tot : ∀ a b, P a → P b → le a b = false → le b a = true) (tr : ∀ a b c, P a → P b → P c → le a b = true → le b c = true → le a c = true) {x : α} (px : P x) : ∀ {l : List α}, (∀ y ∈ l, P y) → l.Pairwise (fun a b => le a b = true) → (insB le x l).Pairwise (fun a b => le a b = true)
  | [], _, _ => .cons (fun _ z => by cases z) .nil
  | y :: r, hp, h => by
    unfold insB
    have py := hp y List.mem_cons_self
    have pr : ∀ z ∈ r, P z := fun z hz => hp z (List.mem_cons_of_mem _ hz)
    cases h with
    | cons h1 h2 =>
      cases e : le x y with
      | true =>
        refine .cons (fun z hz => ?_) (.cons h1 h2)
        rcases List.mem_cons.mp hz with rfl | hz
        · exact e
        · exact tr x y z px py (pr z hz) e (h1 z hz)
      | false =>
        refine .cons (fun z hz => ?_) (insB_pw tot tr px pr h2)
        rcases List.mem_cons.mp ((insB_perm le x r).mem_iff.mp hz) with rfl | hz
        · exact tot _ _ px py e
        · exact h1 z hz
theorem isort_pw {le : α → α → Bool} {P : α → Prop} (tot : ∀ a b, P a → P b → le a b = false → le b a = true) (tr : ∀ a b c, P a → P b → P c → le a b = true → le b c = true → le a c = true) : ∀ {l : List α}, (∀ y ∈ l, P y) → (isort le l).Pairwise (fun a b => le a b = true)
  | [], _ => .nil
  | x :: r, hp => insB_pw tot tr (hp x List.mem_cons_self) (fun y hy => hp y (List.mem_cons_of_mem _ ((isort_perm le r).mem_iff.mp hy))) (isort_pw tot tr fun y hy => hp y (List.mem_cons_of_mem _ hy))
/-- two rows in order of the same things are one -/
theorem sorted_one {le : α → α → Bool} {P : α → Prop} (anti : ∀ a b, P a → P b → le a b = true → le b a = true → a = b) : ∀ {l m : List α}, (∀ y ∈ l, P y) → l.Perm m → l.Pairwise (fun a b => le a b = true) → m.Pairwise (fun a b => le a b = true) → l = m
  | [], m, _, p, _, _ => (List.nil_perm.mp p).symm
  | x :: r, [], _, p, _, _ => absurd p.symm.nil_eq (by simp)
  | x :: r, y :: t, hp, p, .cons h1 h2, .cons h3 h4 => by
    have e : x = y := by
      have hx := p.mem_iff.mp (List.mem_cons_self (a := x) (l := r))
      have hy := p.mem_iff.mpr (List.mem_cons_self (a := y) (l := t))
      rcases List.mem_cons.mp hx with q | hx
      · exact q
      · rcases List.mem_cons.mp hy with q | hy
        · exact q.symm
        · exact anti x y (hp x List.mem_cons_self) (hp y (List.mem_cons_of_mem _ hy)) (h1 y hy) (h3 x hx)
    subst e
    rw [sorted_one anti (fun z hz => hp z (List.mem_cons_of_mem _ hz)) (List.Perm.cons_inv p) h2 h4]
end
def leI (a b : Int) : Bool := decide (a ≤ b)
def sortI (ns : List Int) : List Int := isort leI ns
theorem sortI_pw (ns : List Int) : (sortI ns).Pairwise (· ≤ ·) := (isort_pw (P := fun _ => True) (le := leI) (fun a b _ _ h => by
  have := of_decide_eq_false h
  exact decide_eq_true (by omega)) (fun a b c _ _ _ h1 h2 => by
  have h1 := of_decide_eq_true h1
  have h2 := of_decide_eq_true h2
  exact decide_eq_true (by omega)) fun _ _ => trivial).imp fun h => of_decide_eq_true h
theorem sortI_one {ms ns : List Int} (p : ms.Perm ns) (h : ms.Pairwise (· ≤ ·)) : ms = sortI ns :=
  sorted_one (P := fun _ => True) (le := leI) (fun a b _ _ h1 h2 => by
    have h1 := of_decide_eq_true h1
    have h2 := of_decide_eq_true h2
    omega) (fun _ _ => trivial) (p.trans (isort_perm leI ns).symm) (h.imp fun h => decide_eq_true h) ((sortI_pw ns).imp fun h => decide_eq_true h)
def leS (a b : Str) : Bool := !ltCps b.cps.toList a.cps.toList
def sortS (ks : List Str) : List Str := isort leS ks
theorem leS_iff {a b : Str} : leS a b = true ↔ a.cps.toList ≤ b.cps.toList := by
  unfold leS
  rw [ltCps_eq]
  simp
theorem leS_tot (a b : Str) (h : leS a b = false) : leS b a = true := by
  have h1 : ¬ a.cps.toList ≤ b.cps.toList := fun z => by rw [leS_iff.mpr z] at h; cases h
  exact leS_iff.mpr (List.le_total .. |>.resolve_left h1)
theorem leS_tr (a b c : Str) (h1 : leS a b = true) (h2 : leS b c = true) : leS a c = true := leS_iff.mpr (List.le_trans (leS_iff.mp h1) (leS_iff.mp h2))
theorem leS_anti (a b : Str) (h1 : leS a b = true) (h2 : leS b a = true) : a = b := by
  have e := List.le_antisymm (leS_iff.mp h1) (leS_iff.mp h2)
  obtain ⟨⟨a⟩⟩ := a
  obtain ⟨⟨b⟩⟩ := b
  simpa using e
theorem rising_pw : ∀ {x : Str} {l : List Str}, risingS x l = true → (x :: l).Pairwise (fun a b => leS a b = true)
  | x, [], _ => .cons (fun _ z => by cases z) .nil
  | x, y :: r, h => by
    unfold risingS at h
    have h := Bool.and_eq_true_iff.mp h
    have ih := rising_pw h.2
    refine .cons (fun z hz => ?_) ih
    rcases List.mem_cons.mp hz with rfl | hz
    · exact h.1
    · cases ih with
      | cons i1 i2 => exact leS_tr x y z h.1 (i1 z hz)
theorem sortedS_pw {l : List Str} (h : sortedS l = true) : l.Pairwise (fun a b => leS a b = true) := by
  cases l with
  | nil => exact .nil
  | cons x r => exact rising_pw h
theorem sortS_one {ms ns : List Str} (p : ms.Perm ns) (h : sortedS ms = true) : ms = sortS ns :=
  sorted_one (P := fun _ => True) (fun a b _ _ => leS_anti a b) (fun _ _ => trivial) (p.trans (isort_perm leS ns).symm) (sortedS_pw h) (isort_pw (P := fun _ => True) (fun a b _ _ => leS_tot a b) (fun a b c _ _ _ => leS_tr a b c) fun _ _ => trivial)
/-- tuples of so many ints, by their order -/
def tupI (ns : List Int) : Val := .tup (ns.map Val.int)
def tupsOf : List Val → Option (List (List Int))
  | [] => some []
  | .tup ds :: r => (match intsOf ds, tupsOf r with
    | some ns, some ms => some (ns :: ms)
    | _, _ => none)
  | _ :: _ => none
theorem tupsOf_eq : ∀ {xs : List Val} {ms : List (List Int)}, tupsOf xs = some ms → xs = ms.map tupI
  | [], _, h => by
    cases h
    rfl
  | x :: r, ms, h => by
    unfold tupsOf at h
    split at h
    · next e => cases e
    · next ds r' e =>
      cases e
      split at h
      · next ns ms' h1 h2 =>
        cases h
        rw [List.map_cons, tupsOf_eq h2, intsOf_eq h1]
        rfl
      · cases h
    · cases h
def lexLe : List Int → List Int → Bool
  | [], _ => true
  | _ :: _, [] => false
  | a :: r, b :: t => decide (a < b) || (decide (a = b) && lexLe r t)
def strsOf : List (Key × Val) → Option (List Str)
  | [] => some []
  | (.inr x, _) :: r => (match strsOf r with
    | some ks => some (x :: ks)
    | none => none)
  | _ :: _ => none
theorem strsOf_eq : ∀ {es : List (Key × Val)} {ks : List Str}, strsOf es = some ks → es.map (·.1) = ks.map Sum.inr
  | [], _, h => by
    cases h
    rfl
  | x :: r, ks, h => by
    unfold strsOf at h
    split at h
    · next e => cases e
    · next x r' e =>
      cases e
      split at h
      · next ks' hk =>
        cases h
        rw [List.map_cons, List.map_cons, strsOf_eq hk]
      · cases h
    · cases h
/-- sorted of a list of ints, of a dict with fewer than 64 text keys -/
def fSorted (c : Bool) : FL1 := fun xs st => match xs with
  | [x] => (match intsIn st x with
    | some ns => some (newL c ((sortI ns).map Val.int) st)
    | none => (match dictOf st x with
      | some es => (match strsOf es with
        | some ks => bif Nat.blt ks.length 64 then some (newL c ((sortS ks).map Val.str) st) else none
        | none => none)
      | none => none))
  | _ => none
theorem rl_sorted {K : KZ} (c : Bool) : RLF K (rSortedU K) (fSorted c) := fun _ fr H ms st xs sxs z st' Q s rx h q => by
  unfold fSorted at h
  split at h
  · obtain ⟨v, rfl, r⟩ := vrs1 rx
    split at h
    · next ns hn =>
      obtain ⟨a, rfl, h1⟩ := intsIn_at s r hn
      obtain ⟨e5, e6⟩ := newl_out h
      rw [← e5, ← e6] at q
      exact .inl ⟨a, ns, rfl, h1, fun ms' p hp ho n => by
        rw [sortI_one hp ho]
        exact q.newl s (vrs_of_ints _) n⟩
    · split at h
      · next es he =>
        split at h
        · next ks hk =>
          obtain ⟨hb, h⟩ := cond_some h
          obtain ⟨e5, e6⟩ := newl_out h
          rw [← e5, ← e6] at q
          obtain ⟨a, ws, rfl, h1, h2⟩ := dct_at s r he
          exact .inr (.inr ⟨a, ws, ks, rfl, .inl h1, by rw [h2.keys]; exact strsOf_eq hk, Nat.le_of_ble_eq_true hb, fun ys p hp ho n => by
            rw [sortS_one hp ho]
            exact q.newl s (vrs_of_strs _) n⟩)
        · cases h
      · cases h
  · cases h
end FL
namespace FL
open PySem PySem.Spec PyProof.Rows L2
/-! ### the law's end -/
/-- what is to be shown of a law's function -/
def LawOk (F : List Val → Store → R Val) : Prop := ∀ ns : List Int, ns.length ≤ 63 → (∀ z ∈ ns, Builtin.Int.intBits z ≤ 1048576) → ∃ st, F [.wr (ns.map Val.int)] [] = .ok (.bl true) st
/-- the makers' code objects and their tables, empty as yet -/
structure TbsOk (K : PySem.W.Frag) (cs : List (Addr × Addr)) (h : Heap) : Prop where
  emp : ∀ p ∈ cs, h.get? p.2 = some { cls := .none, data := .fields #[] }
  out : ∀ p ∈ cs, K.lookup p.2 = none
  hd : ∀ p ∈ cs, PySem.W.CodeHd h p.1 p.2
theorem TbsOk.nil {K : PySem.W.Frag} {h : Heap} : TbsOk K [] h := ⟨fun p z => (nomatch z), fun p z => (nomatch z), fun p z => (nomatch z)⟩
/-- the law's call at the heap behind the top -/
theorem law_run {P : Program} {w : World} {K : PySem.W.Frag} {Z : KS} {mg mb : Str → Option Value} {lv : Nat} {fa a : Addr} {fd : FuncData} {x : Str} {s : Shared} {vs : List Value} {ns : List Int} {FL : List Val → Store → R Val} {cs : List (Addr × Addr)} (KX : K.In s.heap) (hns : s.heap.Ns mainGlobals mg) (hb : s.heap.Ns builtinsNs mb)
    (hbb : ∀ x : Str, x ≠ "__name__" → mb x = bootBuiltins x) (hlim : s.heap.NoLimit) (hg : s.gens = #[]) (hbm : ∃ (bm : Addr) (ob : Obj), mg "__builtins__" = some (.ref bm) ∧ bm ≠ builtinsNs ∧ s.heap.get? bm = some ob ∧ ob.cls = .type "module" ∧ ob.dict = some builtinsNs ∧ ob.data = .plain) (T : TbsOk K cs s.heap) (hZ : ∀ q ∈ Z.tabs, q.1 ∈ cs.map (·.2))
    (ha : s.heap.get? a = some { cls := .type "list", data := .seq vs.toArray }) (hi : IntsAre vs ns) (hl : ns.length ≤ 63) (hbits : ∀ z ∈ ns, Builtin.Int.intBits z ≤ 1048576) (hr : Room lv callerA)
    (F : ∀ base : Heap, K.In base → base.Ns mainGlobals mg → (∀ p ∈ cs, LamX.TabB base mg p.1 p.2) → FnF Z P w K mg base lv fa fd [x] FL) (hok : LawOk FL) (hbind : ∀ (s : Shared) (u : Value), BindsTo s fd ⟨[u], []⟩ [(x, u)]) :
    codeAny (model P w) callerA (.call (.ref fa) ⟨[.ref a], []⟩) (fun r s' => r = .ok (.ret (.bool true)) ∧ OldK s.heap s'.heap ∧ s'.os = s.os ∧ AllBare s'.gens) s := by
  have rv : Vals (ns.map V.int) vs := vals_ints hi
  have lv2 : ns.length = vs.length := by
    have q := rv.length
    rwa [List.length_map] at q
  have small : ns.length ≤ sizeLine := Nat.le_trans hl (by decide)
  have tab : ∀ {b : Addr}, b ∈ cs.map (·.2) → s.heap.get? b = some { cls := .none, data := .fields #[] } ∧ K.lookup b = none := fun {b} q => by
    obtain ⟨p, hp, rfl⟩ := List.mem_map.mp q
    exact ⟨T.emp p hp, T.out p hp⟩
  have aNo : a ∉ cs.map (·.2) := fun q => by
    have q' := (tab q).1
    rw [ha] at q'
    cases congrArg Obj.data (Option.some.inj q')
  -- the script is tracked as it lies, or it is the module's own; the tables are tracked
  let H : Hp := fun b => if b = a ∧ K.lookup a = none then some (.frz { cls := .type "list", data := .seq vs.toArray } (.lst (ns.map V.int))) else if b ∈ cs.map (·.2) then some (.tbl #[]) else none
  have inv : ∀ {b : Addr} {u : HO}, H b = some u → (b = a ∧ K.lookup a = none ∧ u = .frz { cls := .type "list", data := .seq vs.toArray } (.lst (ns.map V.int))) ∨ (b ∈ cs.map (·.2) ∧ u = .tbl #[]) := fun {b u} z => by
    by_cases c : b = a ∧ K.lookup a = none
    · have z' := (if_pos c).symm.trans z
      cases z'
      exact .inl ⟨c.1, c.2, rfl⟩
    · have z' := (if_neg c).symm.trans z
      by_cases d : b ∈ cs.map (·.2)
      · have z2 := (if_pos d).symm.trans z'
        cases z2
        exact .inr ⟨d, rfl⟩
      · have z2 := (if_neg d).symm.trans z'
        cases z2
  have free : ∀ {b : Addr}, (b = a → K.lookup a ≠ none) → b ∉ cs.map (·.2) → H b = none := fun {b} z y => (if_neg fun (c : b = a ∧ K.lookup a = none) => z c.1 c.2).trans (if_neg y)
  have onT : ∀ {b : Addr}, b ∈ cs.map (·.2) → H b = some (.tbl #[]) := fun {b} q => (if_neg fun (c : b = a ∧ K.lookup a = none) => aNo (c.1 ▸ q)).trans (if_pos q)
  have ok : HOk P w H s.heap := fun b u z => by
    rcases inv z with ⟨rfl, _, rfl⟩ | ⟨hb, rfl⟩
    · exact ⟨ha, by rw [List.length_map]; exact small, vs, _, rv, ha⟩
    · exact (tab hb).1
  have away : ∀ {b : Addr} {o : Obj}, s.heap.get? b = some o → (∀ us n, o.data ≠ .seq us n) → (o.cls = .none → o.data ≠ .fields #[]) → (hidT s.heap H).get? b = some o := fun {b o} e h1 h2 => hidT_get e (free (fun z => by
    rw [z, ha] at e
    cases e
    exact absurd rfl (h1 _ _)) fun z => by
    rw [(tab z).1] at e
    cases e
    exact absurd rfl (h2 rfl))
  have nsOk : ∀ {b : Addr} {m : Str → Option Value}, s.heap.Ns b m → (hidT s.heap H).Ns b m := fun {b m} n => by
    obtain ⟨o, es, ep, e, d, q⟩ := n
    exact ⟨o, es, ep, away e (fun us n z => by rw [d] at z; cases z) (fun _ z => by rw [d] at z; cases z), d, q⟩
  have kOk : K.In (hidT s.heap H) := fun b o e => hidT_get (KX b o e) (free (fun z => by
    rw [← z, e]
    simp) fun z => by
    rw [(tab z).2] at e
    cases e)
  have tbs : ∀ p ∈ cs, LamX.TabB (hidT s.heap H) mg p.1 p.2 := fun p hp => by
    refine ⟨?_, ?_, fun z => ?_⟩
    · obtain ⟨o, us, file, tf, flags, tg, inF, text, tt, e1, r1, r⟩ := T.hd p hp
      refine ⟨o, us, file, tf, flags, tg, inF, text, tt, away e1 (fun us n z => ?_) fun z _ => ?_, r1, r⟩
      · rw [r.1] at z
        cases z
      · rw [r1] at z
        cases z
    · obtain ⟨bm, ob, b1, b2, b3, b4, b5, b6⟩ := hbm
      refine ⟨bm, ob, b1, b2, fun q => ?_, fun q => ?_, away b3 (fun us n z => by rw [b6] at z; cases z) (fun _ z => by rw [b6] at z; cases z), b4, b5, b6⟩
      · obtain ⟨o, es, ep, e, hd, _⟩ := hns
        rw [q, e] at b3
        cases b3
        rw [hd] at b6
        cases b6
      · rw [q, T.emp p hp] at b3
        cases b3
        cases b6
    · obtain ⟨o, es, ep, e, hd, _⟩ := hns
      rw [z, T.emp p hp] at e
      cases e
      cases hd
  have md : Mod K mg (hidT s.heap H) := ⟨kOk, nsOk hns, ⟨mb, nsOk hb, hbb⟩, by
    obtain ⟨mc, q1, q2⟩ := hlim
    exact ⟨mc, nsOk q1, q2⟩⟩
  have e0 : Env0 P w K mg (hidT s.heap H) callerA [] s H := ⟨rfl, md, fun _ _ e => of_hidT e, Nat.le_of_eq (hidT_size _ _), trivial, fun b z => (by cases z), ok, .of_eq hg⟩
  have rol : VR (k0 K Z) (fun _ => False) H [] (.ref a) (.wr (ns.map Val.int)) := by
    refine .wr (ws := ns.map V.int) ?_ (vrs_of_ints ns)
    cases e : K.lookup a with
    | none => exact .inl ⟨_, if_pos ⟨rfl, e⟩⟩
    | some o =>
      have q := KX a o e
      rw [ha] at q
      cases q
      exact .inr ⟨_, vs.toArray, _, e, rfl, rfl, rfl, by rw [List.size_toArray, ← lv2]; exact small, by simpa using rv⟩
  obtain ⟨st, hst⟩ := hok ns hl hbits
  have sp : spF (k0 K Z) FL [.ref a] H (fun v _ => v = .bl true) (fun _ _ _ => False) := by
    refine ⟨fun _ => False, [], [], [.wr (ns.map Val.int)], ⟨rfl, .nil, fun i b c hb => (by simp at hb), fun b hb => (by cases hb), fun b hb => hb.elim, fun q hq => .nil (onT (hZ q hq))⟩, .cons rol .nil, ?_⟩
    rw [hst]
    exact fun fr' H' ms' e' s' v rv => vr_bl rv
  refine codeAny_mono ((F _ kOk (nsOk hns) tbs).go callerA [] s H _ [.ref a] [.ref a] _ _ hr rfl e0 (hbind s (.ref a)) (.cons rfl .nil) sp) fun r s' z => ?_
  match r, z with
  | .ok (.ret u), ⟨v, H', os, bare, un, ok', ru, q⟩ =>
    obtain rfl : v = .bl true := q
    obtain rfl : u = Value.bool true := ru
    have keep : ∀ b o, b ∉ cs.map (·.2) → s.heap.get? b = some o → s'.heap.get? b = some o := fun b o nb e => by
      cases c : H b with
      | none => exact un.keep b o e c (by intro y; cases y) (by simp)
      | some u =>
        rcases inv c with ⟨rfl, _, rfl⟩ | ⟨hb, _⟩
        · have e2 := (ok' _ _ (un.frzs _ _ _ c)).1
          rw [ha] at e
          cases e
          exact e2
        · exact absurd hb nb
    have grow : ∀ p ∈ cs, ∃ more : Array Value, s'.heap.get? p.2 = some { cls := .none, data := .fields more } := fun p hp => by
      obtain ⟨more, z⟩ := un.tbls p.2 #[] (onT (List.mem_map.mpr ⟨p, hp, rfl⟩))
      exact ⟨_, ok' p.2 _ z⟩
    refine ⟨rfl, ⟨fun b o e => ?_, fun b o e => ?_⟩, os, bare⟩
    · by_cases hb : b ∈ cs.map (·.2)
      · obtain ⟨p, hp, rfl⟩ := List.mem_map.mp hb
        obtain ⟨more, hm⟩ := grow p hp
        have e' := e
        rw [T.emp p hp] at e'
        cases e'
        exact .inr (.inl ⟨((T.hd p hp).tab (T.emp p hp)).isCodeTable, rfl, #[], more, rfl, by simpa using hm⟩)
      · exact .inl (keep b o hb e)
    · by_cases hb : b ∈ cs.map (·.2)
      · obtain ⟨p, hp, rfl⟩ := List.mem_map.mp hb
        obtain ⟨more, hm⟩ := grow p hp
        exact ⟨_, hm⟩
      · exact ⟨o, keep b o hb e⟩
  | .error e, ⟨a, B, H', cls, d, _, _, _, _, _, _, _, z⟩ => exact z.elim
theorem walk_FT {l : PySem.W.OpenLaw} {lv : Nat} {Z : KS} {q : Program} {loose : List Str} {XP : (Str → Option Value) → Heap → Prop} {YP : World → Heap → Prop} {d : DefRec} {K : Params → PySem.W.Frag} {x : Str} {FL : List Val → Store → R Val}
    (hn : l.most = some 63) (hdf : d.params.defaults = []) (hr : Room lv callerA) (hY : ∀ (w : World) (h : Heap), YP w h → (K w.params).In h)
    (F : ∀ (w : World) (mg : Str → Option Value) (fa : Addr) (h : Heap), YP w h → (K w.params).In h → h.Ns mainGlobals mg → mg d.name = some (.ref fa) →
      ∃ (cs : List (Addr × Addr)) (fd : FuncData), TbsOk (K w.params) cs h ∧ (∀ q ∈ Z.tabs, q.1 ∈ cs.map (·.2)) ∧ (∀ (s : Shared) (u : Value), BindsTo s fd ⟨[u], []⟩ [(x, u)]) ∧ ∀ base : Heap, (K w.params).In base → base.Ns mainGlobals mg → (∀ p ∈ cs, LamX.TabB base mg p.1 p.2) → FnF Z l.prog w (K w.params) mg base lv fa fd [x] FL) (hok : LawOk FL) :
    PySem.W.WalkO q loose XP YP l.row.toRowW d [] (fun f vs => PySem.call f vs) := by
  refine Att.attach_callB hn hdf fun w s₀ s₁ mg mb fa o pm cd doc a vs ns G Y ho hd hcd hmg hobj hints hlen hbits hg => ?_
  have KX := hY w _ Y
  obtain ⟨cs, fd, T, hZ, hb, hF⟩ := F w mg fa _ Y KX G.T.g hmg
  exact law_run KX G.T.g G.T.b G.T.builtins G.T.nolimit hg G.T.bmain T hZ hobj hints hlen hbits hr hF hok hb
/-- no def is made within a def -/
def Z0 : KS := ⟨fun _ => none, []⟩
theorem walk_F {l : PySem.W.OpenLaw} {lv : Nat} {q : Program} {loose : List Str} {XP : (Str → Option Value) → Heap → Prop} {YP : World → Heap → Prop} {d : DefRec} {K : Params → PySem.W.Frag} {x : Str} {FL : List Val → Store → R Val}
    (hn : l.most = some 63) (hdf : d.params.defaults = []) (hr : Room lv callerA) (hY : ∀ (w : World) (h : Heap), YP w h → (K w.params).In h)
    (F : ∀ (w : World) (mg : Str → Option Value) (fa : Addr) (h : Heap), (K w.params).In h → h.Ns mainGlobals mg → mg d.name = some (.ref fa) →
      ∃ fd : FuncData, (∀ (s : Shared) (u : Value), BindsTo s fd ⟨[u], []⟩ [(x, u)]) ∧ ∀ base : Heap, (K w.params).In base → base.Ns mainGlobals mg → FnF Z0 l.prog w (K w.params) mg base lv fa fd [x] FL) (hok : LawOk FL) :
    PySem.W.WalkO q loose XP YP l.row.toRowW d [] (fun f vs => PySem.call f vs) :=
  walk_FT (Z := Z0) hn hdf hr hY (fun w mg fa h _ KX hm hf => by
    obtain ⟨fd, hb, hF⟩ := F w mg fa h KX hm hf
    exact ⟨[], fd, .nil, fun q hq => (nomatch hq), hb, fun base k n _ => hF base k n⟩) hok

/-- a def of which nothing is told -/
theorem FnF.none {Z : KS} {P : Program} {w : World} {K : PySem.W.Frag} {mg : Str → Option Value} {base : Heap} {lv : Nat} {f : Addr} {fd : FuncData} {ps : List Str} : FnF Z P w K mg base lv f fd ps (fun _ _ => .bad) :=
  ⟨fun _ _ h => absurd rfl h, fun A outer s H args us vs Q E _ _ _ _ _ hsp => by
    obtain ⟨fr, ms, st, xs, _, _, g⟩ := hsp
    exact g.elim⟩
theorem no_vrs {K : KZ} : ∀ (g : Addr → Option V) (fr : Addr → Prop) (H : Hp) (ms : List Addr), VRs (K.gm g) fr H ms [] [] := fun _ _ _ _ => .nil
section
variable {X : Cx} {Z : KS} {W : WZ Z} {lv : Nat} {f : Addr} {fd : FuncData} {ps : List Str} {F : List Val → Store → R Val} {x : Str} {p pos : Pos} {e : Expr} {es : List Expr} {t : FA}
/-- f(..), the defaults behind -/
theorem d_callD {ds : List Val} {dvs : List V} (h0 : FnF Z X.prog X.w X.K X.mg X.base lv f fd ps F) (hr : Room lv X.A) (hg : X.A.guards = some []) (tk : Takes X W) (hm : X.mg x = some (.ref f)) (hk : PySem.W.keepIn X.K (.ref f) = true) (hb : ∃ dus, Vals dvs dus ∧ Binds X.K fd ps dus) (hs : ∀ g fr H ms, VRs ((kx X Z).gm g) fr H ms dvs ds)
    (ha : DA X W (e :: es) t) (hgl : Gl X x := by rfl) (hdb : (x == ("__debug__" : Str)) = false := by decide) (he : starEach (e :: es) X.env = (false, eval e X.env) :: starEach es X.env := by rfl) (hpl : (backTo pos (starEach es X.env)).any (·.1) = false := by rfl) (hz : ZOk X W := by first | assumption | exact ZOk.none (by assumption)) :
    DE X W (.Call (.Name x p) (e :: es) [] pos) (eCall F ds t) := by
  obtain ⟨dus, h1, h2⟩ := hb
  exact d_call h0 hr hg tk hm hk h2 h1 hs ha hgl hdb he hpl hz
end
section
variable {K : PySem.W.Frag} {x qual : Str} {params : Arguments} {body : List Stmt} {scope : Scope} {dvs : List V} {kws : List (Str × V)} {f : Addr} {fd : FuncData} {ps : List Str}
theorem FunD.of {st : Stmt} (F : Fun K x qual st f fd) : FunD K x qual (defArgs st) (defBody st) (defScope st) [] [] f fd := by
  obtain ⟨oc, od, kV, doc, pm, an, cdv, ct, osl, rfl, lk, hcd⟩ := F.ex
  exact ⟨⟨oc, od, .none, kV, doc, pm, an, cdv, ct, osl, rfl, lk, hcd, .inl ⟨rfl, rfl⟩, .inl rfl⟩, F.kp⟩
/-- all keyword-only parameters are given (or there are none) -/
theorem mb_all (F : FunD K x qual params body scope [] kws f fd) (n : Nat) (ks : List Str) (pl : List Nat)
    (h : ∀ (kV doc pm : Value) (an : Option Addr) (cdv ct : Value) (us ws : List Value), us.length = n → ws.length = ks.length → bindArgs (PySem.W.fnOf x qual params body scope .none kV doc pm an cdv ct) ⟨us, ks.zip ws⟩ = pure (ps.zip (byPl pl (us ++ ws)))) : MBinds K fd ps n [] ks pl := by
  obtain ⟨oc, od, dV, kV, doc, pm, an, cdv, ct, osl, rfl, lk, hcd, hD, hK⟩ := F.ex
  rcases hD with ⟨_, rfl⟩ | ⟨e, _⟩
  · exact ⟨[], .nil, fun s us ws X l1 l2 => .of_eq (h kV doc pm an cdv ct us ws l1 l2)⟩
  · exact absurd rfl e
/-- some keyword-only parameters lack -/
theorem mb_lack (F : FunD K x qual params body scope [] kws f fd) (n : Nat) (ks : List Str) (ms : List (Str × V)) (pl : List Nat) (hk : kws ≠ []) (hms : ∀ q ∈ ms, q ∈ kws)
    (h : ∀ (D : Addr) (doc pm : Value) (an : Option Addr) (cdv ct : Value) (us mv ws : List Value), us.length = n → mv.length = ms.length → ws.length = ks.length →
      KwChain D ((ms.map (·.1)).zip mv) (bindArgs (PySem.W.fnOf x qual params body scope .none (.ref D) doc pm an cdv ct) ⟨us, ks.zip ws⟩) (ps.zip (byPl pl (us ++ (mv ++ ws))))) : MBinds K fd ps n (ms.map (·.2)) ks pl := by
  obtain ⟨oc, od, dV, kV, doc, pm, an, cdv, ct, osl, rfl, lk, hcd, hD, hK⟩ := F.ex
  rcases hD with ⟨_, rfl⟩ | ⟨e, _⟩
  · rcases hK with e | ⟨D, rfl, hq⟩
    · exact absurd e hk
    · obtain ⟨mv, hl, rk, hks⟩ := kwd_vals (ms := ms) fun q hm => hq q (hms q hm)
      exact ⟨mv, rk, fun s us ws X l1 l2 => BindsTo.of_looks fun M => KwChain.looks X hks (h D doc pm an cdv ct us mv ws l1 hl l2)⟩
  · exact absurd rfl e
/-- a def's facts from what the head tells -/
theorem fd_mk {oc : Value} {od an : Option Addr} {osl : Array (Option Value)} {dV kV doc pm cdv ct : Value} (l : K.lookup f = some ⟨oc, od, .func (PySem.W.fnOf x qual params body scope dV kV doc pm an cdv ct), osl⟩)
    (c : PySem.W.codeIn K cdv qual = true) (k : PySem.W.keepIn K (.ref f) = true) (hd : DflV K dV dvs) (hk : KwdV K kV kws) : FunD K x qual params body scope dvs kws f (PySem.W.fnOf x qual params body scope dV kV doc pm an cdv ct) := ⟨⟨oc, od, dV, kV, doc, pm, an, cdv, ct, osl, rfl, l, c, hd, hk⟩, k⟩
end
/-! ### dicts: displays, copies, get -/
def eDict0 : FE := fun _ st => .ok (.ref st.length) (st ++ [.dic []])
theorem getElem?_end {α : Type} {l : List α} {x : α} {n : Nat} (h : n = l.length) : (l ++ [x])[n]? = some x := by
  subst h
  rw [List.getElem?_append_right (Nat.le_refl _), Nat.sub_self]
  rfl
theorem d_dict0 {X : Cx} {Z : KS} {W : WZ Z} {pos : Pos} : DE X W (.Dict [] [] pos) eDict0 := pe_imp pe_dnewK fun σ H Q ⟨fr, ms, ρ, st, w, g⟩ => fun p n =>
  (QV.of g) _ _ (ms ++ [p]) _ (Ext.cell n) (w.sr.cons n ⟨[], upd_same, .nil⟩) (.ref (getElem?_end w.sr.len.symm))
def newD (c : Bool) (es : List (Key × Val)) (st : Store) : Val × Store := match c with
  | true => (.ref st.length, st ++ [.dic es])
  | false => (.rd (es.map (·.1)) (es.map (·.2)), st)
def mergeS (es more : List (Key × Val)) : List (Key × Val) := more.foldl (fun acc e => putS acc e.1 e.2) es
theorem VRk.merge {K : KZ} {fr : Addr → Prop} {H : Hp} {ms : List Addr} {more : List (Key × V)} {xs : List (Key × Val)} (r : VRk K fr H ms more xs) : ∀ {ws : List (Key × V)} {es : List (Key × Val)}, VRk K fr H ms ws es → VRk K fr H ms (mergeK ws more) (mergeS es xs) := by
  induction r with
  | nil => intro ws es h; exact h
  | cons a b ih =>
    intro ws es h
    exact ih (h.put _ a)
def ePairs : List (FE × FE) → Env → Store → R (List (Key × Val))
  | [], _, st => .ok [] st
  | (tk, tv) :: r, ρ, st => (tk ρ st).bind fun x st1 => (tv ρ st1).bind fun y st2 => match keyOf x with
    | some key => (ePairs r ρ st2).bind fun es st3 => .ok ((key, y) :: es) st3
    | none => .bad
def eDisp (c : Bool) (ps : List (FE × FE)) : FE := fun ρ st => (ePairs ps ρ st).bind fun es st1 => bif Nat.ble es.length 15 then .ok (newD c (mergeS [] es) st1).1 (newD c (mergeS [] es) st1).2 else .bad
theorem le_pairs {K : KZ} {Z : KS} {W : WZ Z} {σ : L2.St} : ∀ {ps : List (FE × FE)} {H : Hp} {Q : List (V × V) → Hp → Prop} {fr : Addr → Prop} {ms : List Addr} {ρ : Env} {st : Store}, Wd (K.to W σ) fr H ms σ ρ st →
    G (K.to W σ) W σ fr H ms (ePairs ps ρ st) (fun es fr' H' ms' st' => Ext ms.length fr H ms fr' H' ms' ∧ SR (K.to W σ) fr' H' ms' st' ∧ ∀ kvs, VRk (K.to W σ) fr' H' ms' kvs es → Q (kvs.map fun kv => (kV kv.1, kv.2)) H') → tPairs (ps.map fun p => (LE K W p.1, LE K W p.2)) σ H Q
  | [], H, Q, fr, ms, ρ, st, w, g => (g.now w.sr).2.2 [] .nil
  | (tk, tv) :: r, H, Q, fr, ms, ρ, st, w, g => by
    refine ⟨fr, ms, ρ, st, w, g.bind.mono fun x st1 fr1 H1 ms1 _ _ ⟨e1, s1, g1⟩ v rv => ⟨fr1, ms1, ρ, st1, w.on e1 s1, g1.bind.mono fun y st2 fr2 H2 ms2 _ _ ⟨e2, s2, g2⟩ u ru => ?_⟩⟩
    cases hk : keyOf x with
    | none =>
      rw [hk] at g2
      exact g2.elim
    | some key =>
      rw [hk] at g2
      have hv := key_at rv hk
      subst hv
      refine le_pairs ((w.on e1 s1).on e2 s2) (g2.bind.mono fun es st3 fr3 H3 ms3 _ _ ⟨e3, s3, g3⟩ => ⟨e3, s3, fun kvs rk => ?_⟩)
      exact (g3.now s3).2.2 ((key, u) :: kvs) (.cons (ru.ex s2 e3) rk)
structure DPP (X : Cx) {Z : KS} (W : WZ Z) (pos : Pos) (keys : List (Option Expr)) (values : List Expr) (ps : List (FE × FE)) : Prop where
  ok : PPs X pos keys values (ps.map fun p => (LE (kx X Z) W p.1, LE (kx X Z) W p.2))
theorem dp_nil {X : Cx} {Z : KS} {W : WZ Z} {pos : Pos} : DPP X W pos [] [] [] := ⟨pps_nil⟩
theorem dp_cons {X : Cx} {Z : KS} {W : WZ Z} {pos : Pos} {k v : Expr} {ks : List (Option Expr)} {vs : List Expr} {tk tv : FE} {ps : List (FE × FE)} (hk : DE X W k tk) (hv : DE X W v tv) (hr : DPP X W pos ks vs ps) : DPP X W pos (some k :: ks) (v :: vs) ((tk, tv) :: ps) := ⟨pps_cons hk hv hr.ok⟩
/-- an object that is made ahead -/
theorem Ext.late {fr fr2 : Addr → Prop} {H H2 : Hp} {ms ms2 : List Addr} {p : Addr} {o0 : HO} (e : Ext ms.length fr (L2.upd H p o0) ms fr2 H2 ms2) (n : H p = none) : Ext ms.length fr H ms fr2 H2 ms2 := by
  have ne : ∀ {a : Addr} {u : HO}, H a = some u → a ≠ p := fun h z => by rw [z, n] at h; cases h
  have up : ∀ {a : Addr}, a ≠ p → L2.upd H p o0 a = H a := fun h => upd_ne h
  have nn : ∀ {a : Addr}, L2.upd H p o0 a = none → H a = none := fun {a} q => by
    by_cases z : a = p
    · rw [z, upd_same] at q
      cases q
    · rw [up z] at q
      exact q
  refine ⟨e.pre, fun a u h s t => e.keep a u (by rw [up (ne h)]; exact h) s t, fun a h => e.there a (upd_there h), fun a h => ?_, e.frk, fun a h => ?_⟩
  · rcases e.tk a h with q | q
    · exact .inl q
    · exact .inr (nn q)
  · rcases e.frn a h with q | q | q
    · exact .inl q
    · exact .inr (.inl (nn q))
    · exact .inr (.inr q)
theorem QD.late {K : KZ} {fr fr1 : Addr → Prop} {H H1 : Hp} {ms ms1 : List Addr} {st : Store} {D : Addr} {c : Bool} {es : List (Key × Val)} {Q : VK} {ws : List (Key × V)} (q : QV K fr1 H1 ms1 (newD c es st).1 (newD c es st).2 Q) (e : Ext ms1.length fr1 H1 ms1 fr H ms) (n : H1 D = none) (s : SR K fr H ms st) (r : VRk K fr H ms ws es)
    (hD : H D = some (.dK ws)) (np : D ∉ ms) (nf : ¬ fr D) : Q (.ref D) H := by
  cases c with
  | true =>
    have ea : Ext ms1.length fr1 H1 ms1 fr H (ms ++ [D]) := ⟨by rw [List.take_append_of_le_length e.len]; exact e.pre, e.keep, e.there, fun a ha => by
      rcases List.mem_append.mp ha with ha | ha
      · exact e.tk a ha
      · rw [List.mem_singleton.mp ha]
        exact .inr n, e.frk, e.frn⟩
    exact q _ _ (ms ++ [D]) _ ea (s.adopt nf np ⟨ws, hD, r.more⟩) (.ref (getElem?_end s.len.symm))
  | false =>
    refine q _ _ ms _ ⟨e.pre, e.keep, e.there, e.tk, fun a h => .inl (e.frk a h), fun a h => h.elim (e.frn a) fun z => .inr (.inl (z ▸ n))⟩ (s.frz hD np trivial) (.rd (ws := ws.map (·.2)) ?_ ?_ (.inr rfl) (VRs.frz r.vals))
    · rw [← r.keys, zip_fst_snd]
      exact hD
    · rw [List.length_map, List.length_map, r.length]
theorem d_disp (c : Bool) {X : Cx} {Z : KS} {W : WZ Z} {pos : Pos} {keys : List (Option Expr)} {values : List Expr} {ps : List (FE × FE)} (h : DPP X W pos keys values ps) (hall : keys.all (·.isSome) = true := by rfl) (hl : keys.length = values.length := by rfl) (h0 : keys ≠ [] := by exact fun z => by cases z) (h15 : keys.length ≤ 15 := by decide) :
    DE X W (.Dict keys values pos) (eDisp c ps) := pe_imp (pe_disp h.ok hall hl h0 h15) fun σ H Q ⟨fr, ms, ρ, st, w, g⟩ => fun p n => by
  have np : p ∉ ms := w.sr.no n
  have nf : ¬ fr p := fun z => w.sr.low p z n
  refine le_pairs (ρ := ρ) (st := st) (w.on (Ext.new _ n) (w.sr.new n)) ?_
  unfold eDisp at g
  cases hp : ePairs ps ρ st with
  | bad =>
    rw [hp] at g
    exact g.elim
  | exc x st1 =>
    rw [hp] at g
    exact (show G ((kx X Z).to W σ) W σ fr H ms (.exc x st1) (PV ((kx X Z).to W σ) Q) from g).at (Ext.new _ n)
  | ok es st1 =>
    rw [hp] at g
    obtain ⟨hb, g2⟩ := (show G ((kx X Z).to W σ) W σ fr H ms (bif Nat.ble es.length 15 then R.ok (newD c (mergeS [] es) st1).1 (newD c (mergeS [] es) st1).2 else .bad) (PV ((kx X Z).to W σ) Q) from g).cond
    intro fr1 H1 ms1 e1 s1
    refine ⟨e1, s1, fun kvs rk => ?_⟩
    have hp0 : L2.upd H p (.dK []) p = some (.dK []) := upd_same
    obtain ⟨hp, np1, nf1⟩ := e1.aside (w.sr.new n) hp0 trivial nf np
    have rm : VRk ((kx X Z).to W σ) fr1 H1 ms1 (mergeK [] kvs) (mergeS [] es) := rk.merge .nil
    have up : L2.upd H1 p (.dK (mergeK [] kvs)) p = some (.dK (mergeK [] kvs)) := upd_same
    exact ⟨hp, kvs, rfl, by rw [rk.length]; exact Nat.le_of_ble_eq_true hb, QD.late (QV.of g2) ((e1.late n).beside n) n (SR.off' hp trivial nf1 np1 s1) (VRk.off' hp trivial nf1 rm) up np1 nf1⟩
/-- dict(d) -/
def fDict (c : Bool) : FL1 := fun xs st => match xs with
  | [x] => (match dictOf st x with
    | some es => some (newD c es st)
    | none => none)
  | _ => none
theorem QV.newd {K : KZ} {fr : Addr → Prop} {H : Hp} {ms : List Addr} {st : Store} {c : Bool} {es : List (Key × Val)} {Q : VK} {ws : List (Key × V)} (q : QV K fr H ms (newD c es st).1 (newD c es st).2 Q) (s : SR K fr H ms st) (r : VRk K fr H ms ws es) {p : Addr} (n : H p = none) : Q (.ref p) (upd H p (.dK ws)) :=
  QD.late q (Ext.new (o := .dK ws) _ n) n (s.new n) (r.ex s (Ext.new _ n)) upd_same (s.no n) fun z => s.low p z n
theorem rl_dict {K : KZ} (c : Bool) : RLF K (fun xs H Q => ∃ (a : Addr) (kvs : List (Key × V)), xs = [.ref a] ∧ Rd H a (.dK kvs) ∧ ∀ p, H p = none → Q (.ref p) (upd H p (.dK kvs))) (fDict c) := fun _ fr H ms st xs sxs z st' Q s rx h q => by
  unfold fDict at h
  split at h
  · obtain ⟨v, rfl, r⟩ := vrs1 rx
    split at h
    · next es he =>
      have e5 : (newD c es st).1 = z := congrArg Prod.fst (Option.some.inj h)
      have e6 : (newD c es st).2 = st' := congrArg Prod.snd (Option.some.inj h)
      rw [← e5, ← e6] at q
      obtain ⟨a, ws, rfl, h1, h2⟩ := dct_at s r he
      exact ⟨a, ws, rfl, .inl h1, fun p n => q.newd s h2 n⟩
    · cases h
  · cases h
/-- d.get(k, z) -/
def eGet2 (to ti tz : FE) : FE := fun ρ st => (to ρ st).bind fun x st1 => match dictOf st1 x with
  | some _ => (ti ρ st1).bind fun y st2 => (tz ρ st2).bind fun z st3 => (match FL.dGet st3 x y with
    | some (some v) => .ok v st3
    | some none => .ok z st3
    | none => .bad)
  | none => .bad
theorem d_get2 {X : Cx} {Z : KS} {W : WZ Z} {o e f : Expr} {to ti tz : FE} {apos cpos : Pos} (hu : X.A.units + 1 < cLine) (ho : DE X W o to) (hi : DE X W e ti) (hz : DE X W f tz) (m : M2 X o "get" apos e f cpos := by exact ⟨rfl, rfl, rfl, rfl⟩) :
    DE X W (.Call (.Attribute o "get" apos) [e, f] [] cpos) (eGet2 to ti tz) := pe_imp (pe_dget2 hu ho hi hz m) fun σ H Q ⟨fr, ms, ρ, st, w, g⟩ => by
  refine ⟨fr, ms, ρ, st, w, g.bind.mono fun x st1 fr1 H1 ms1 _ _ ⟨e1, s1, g1⟩ v rv => ?_⟩
  cases hd : dictOf st1 x with
  | none =>
    rw [hd] at g1
    exact g1.elim
  | some es =>
    rw [hd] at g1
    obtain ⟨a, ws, rfl, h1, h2⟩ := dct_at s1 rv hd
    have w1 := w.on e1 s1
    refine ⟨a, rfl, .inl ⟨ws, .inl h1⟩, fr1, ms1, ρ, st1, w1, g1.bind.mono fun y st2 fr2 H2 ms2 _ _ ⟨e2, s2, g2⟩ u ru => ⟨fr2, ms2, ρ, st2, w1.on e2 s2, g2.bind.mono fun z st3 fr3 H3 ms3 _ _ ⟨e3, s3, g3⟩ t rt => ?_⟩⟩
    have rx := rv.ex s1 (e2.then e3)
    have ry := ru.ex s2 e3
    cases hv : FL.dGet st3 x y with
    | none =>
      rw [hv] at g3
      exact g3.elim
    | some oo =>
      rw [hv] at g3
      obtain ⟨b, o, eb, gg, g1, g2'⟩ := dget_at s3 rx ry hv
      cases eb
      cases oo with
      | some v =>
        obtain ⟨r, rfl, rr⟩ := g1 v rfl
        exact ⟨_, gg, g3.now s3 _ rr⟩
      | none =>
        rw [g2' rfl] at gg
        exact ⟨_, gg, g3.now s3 _ rt⟩
end FL
/-! own exceptions over KeyError and RuntimeError; made by a keyword, made of nothing -/
namespace FL
open PySem PySem.Spec PyProof.Rows L2 PySem.F
/-! ### the base -/
structure BaseX (B newId initId : String) (tail : List Value) : Prop where
  F : ExcBaseFacts B newId initId tail
  typ : typeOf (.type B) = pure (.type "type")
  passes : ∀ self, PySem.refuseLoop self "__setattr__" tail = pure ()
  obj : tail.contains (.type "object") = true
  stub : Manifest.isStub B = false
  hand : PySem.W.handedIn (.builtin initId) = true
/-- what of a built-in class its own subclasses need: its __init__ -/
structure InitX (B initId : String) : Prop where
  slot : Slot B "__init__" initId
  entry : entryFor table initId = some Builtin.«BaseException.__init__»
  split : splitId initId = some (B, "__init__")
  kind : builtinKind initId = some Manifest.AttrKind.slot
  row : Manifest.signature? initId = some ⟨.positional, "*", B, .self, [⟨"args", .varPos, false⟩]⟩
  noStar : (B != "*") = true
/-- a base whose __new__ stands at another one -/
structure BaseY (B Bm newId initNew initId : String) (tailN tail : List Value) : Prop where
  N : ExcBaseFacts Bm newId initNew tailN
  I : InitX B initId
  has : tail.contains (.type B) = true
  hasN : tail.contains (.type Bm) = true
  noAttr : tail.contains (.type "AttributeError") = false
  noName : tail.contains (.type "NameError") = false
  typ : typeOf (.type B) = pure (.type "type")
  passes : ∀ self, PySem.refuseLoop self "__setattr__" tail = pure ()
  obj : tail.contains (.type "object") = true
  stub : Manifest.isStub B = false
  hand : PySem.W.handedIn (.builtin initId) = true
theorem BaseX.toY {B newId initId : String} {tail : List Value} (F : BaseX B newId initId tail) : BaseY B B newId initId initId tail tail :=
  ⟨F.F, ⟨F.F.init, F.F.initEntry, F.F.initSplit, F.F.initKind, F.F.initRow, F.F.noStar⟩, F.F.hasB, F.F.hasB, F.F.noAttr, F.F.noName, F.typ, F.passes, F.obj, F.stub, F.hand⟩
theorem kerr_init : InitX "KeyError" "KeyError.__init__" := {
  slot := .of (owner := "KeyError") (n := "__init__") (by rw [typeLookup_type, builtinLookup_eq_fast] <;> kernel_rfl) (by decide +kernel) (by decide +kernel) (by decide +kernel) (.inl (by decide +kernel)) (by rw [isSubtype_type] <;> kernel_rfl)
  entry := entryFor_alias (id' := "BaseException.__init__") (by rw [fastTable_eq_tree] <;> kernel_rfl) rfl (by decide +kernel) (by rw [fastTable_eq_tree] <;> kernel_rfl)
  split := (by kernel_rfl), kind := (by kernel_rfl), row := (by kernel_rfl), noStar := (by decide +kernel) }
theorem by_KeyError : BaseY "KeyError" "LookupError" "LookupError.__new__" "LookupError.__init__" "KeyError.__init__" [.type "LookupError", .type "Exception", .type "BaseException", .type "object"] [.type "KeyError", .type "LookupError", .type "Exception", .type "BaseException", .type "object"] :=
  ⟨F.excBase_LookupError, kerr_init, by decide +kernel, by decide +kernel, by decide +kernel, by decide +kernel, by kernel_rfl, fun self => by kernel_rfl, by decide +kernel, by decide +kernel, by decide +kernel⟩
end FL
namespace PySem
namespace HandSPX
open Builtin Builtin.ObjectAttr FL
section
variable {M : Model} {A : Around} {E : Value → Shared → Prop} {h : Heap} {g : Array GenState} {d : Drawn} {t : Nat} {os : OsState}
variable {nm q : Str} {C N : Addr} {bs bm tailN : List Value} {hdct : Bool} {sn : List Str} {sub : List Value} {ab : Bool} {col : Option Bool} {dd : Option Addr} {k0 k1 k2 k3 k5 : Option Value} {B Bm newId initNew initId : String}
theorem check_newY (F : BaseY B Bm newId initNew initId tailN bm) {rest : List Value} {kw : List (Str × Value)} {Q : Unit → Shared → Prop} (hC : h.get? C = some (excClassObj nm q C N bs bm hdct sn sub ab col dd k0 k1 k2 k3 k5 newId)) (hq : Q () ⟨h, g, d, t, os⟩) :
    wpAny M A (checkBuiltinCall newId ⟨.ref C :: rest, kw⟩) Q E ⟨h, g, d, t, os⟩ := by
  have c1 : (Value.ref C :: bm).contains (.type Bm) = true := by rw [List.contains_cons, F.hasN, Bool.or_true]
  have c2 := F.N.noStar
  simp only [checkBuiltinCall, F.N.newKind, F.N.newSplit, F.N.newRow]
  repeat (first | refine wpAny_loadPart_at hC ?_ | (refine wpAny_isSubtype_exc hC ?_; rw [c1]) | refine wpAny_staticBase_exc hC ?_ | refine wpAny_madeBy_exc hC ?_ | simp only [bne_self_eq_false, Bool.false_eq_true, if_false] | wp_step)
  exact hq
theorem check_typeY {rest : List Value} {kw : List (Str × Value)} {Q : Unit → Shared → Prop} (hC : h.get? C = some (excClassObj nm q C N bs bm hdct sn sub ab col dd k0 k1 k2 k3 k5 newId)) (hq : Q () ⟨h, g, d, t, os⟩) :
    wpAny M A (checkBuiltinCall "type.__call__" ⟨.ref C :: rest, kw⟩) Q E ⟨h, g, d, t, os⟩ := by
  have c3 := tc_sub
  have c4 : (⟨h, g, d, t, os⟩ : Shared).TypeIs (.ref C) "type" := ⟨_, hC, rfl⟩
  simp only [checkBuiltinCall, tc_kind, tc_split]
  repeat (any_goals (first | assumption | with_reducible refine wpAny_loadPart_at hC ?_ | with_reducible refine wpAny_onRaise ?_ | with_reducible refine wpAny_map ?_ | wp_step))
theorem check_initY (F : BaseY B Bm newId initNew initId tailN bm) {e : Addr} {oe : Obj} {rest : List Value} {Q : Unit → Shared → Prop} (hC : h.get? C = some (excClassObj nm q C N bs bm hdct sn sub ab col dd k0 k1 k2 k3 k5 newId)) (he : h.get? e = some oe)
    (hcls : oe.cls = .ref C) (hq : Q () ⟨h, g, d, t, os⟩) : wpAny M A (checkBuiltinCall initId ⟨.ref e :: rest, []⟩) Q E ⟨h, g, d, t, os⟩ := by
  have c1 : (Value.ref C :: bm).contains (.type B) = true := by rw [List.contains_cons, F.has, Bool.or_true]
  have c2 := F.I.noStar
  simp only [checkBuiltinCall, F.I.kind, F.I.split, F.I.row]
  repeat (first | (with_reducible refine wpAny_loadPart_at he ?_; rw [hcls]) | with_reducible refine wpAny_loadPart_at hC ?_ | (with_reducible refine wpAny_isSubtype_exc hC ?_; rw [c1]) | wp_step)
  refine wpAny_onRaise ?_
  rw [show ∀ (a b : String) (n : Nat), Bind.check ⟨.positional, "*", B, .self, [⟨"args", .varPos, false⟩]⟩ a b n (List.map (fun x => x.fst) ({ pos := Value.ref e :: rest } : Args).kw) = pure () from fun a b n => check_star_args _ _ _ _ _ _]
  exact wpAny_pure hq
end
section
variable {prog : Program} {w : World} {A : Around} {E : Value → Shared → Prop} {R : Result → Shared → Prop} {h : Heap} {g : Array GenState} {d : Drawn} {t : Nat} {os : OsState}
variable {nm q : Str} {C N : Addr} {bs bm tailN : List Value} {hdct : Bool} {sn : List Str} {sub : List Value} {ab : Bool} {col : Option Bool} {dd : Option Addr} {k0 k1 k2 k3 k5 : Option Value} {B Bm newId initNew initId : String}
theorem newY (F : BaseY B Bm newId initNew initId tailN bm) {rest : List Value} {kw : List (Str × Value)} (hC : h.get? C = some (excClassObj nm q C N bs bm hdct sn sub ab col dd k0 k1 k2 k3 k5 newId))
    (hq : R (.ok (.ret (.ref (h.objs.size + 1)))) ⟨(h.push (W.kdv_tup rest)).push (excO C h.objs.size), g, d, t, os⟩) (hrest : rest.length ≤ sizeLine) : codeAny (model prog w) A (.builtin newId ⟨.ref C :: rest, kw⟩) R ⟨h, g, d, t, os⟩ := by
  have c0 := F.N.ends
  have c1 : (Value.ref C :: bm).contains (.type Bm) = true := by rw [List.contains_cons, F.hasN, Bool.or_true]
  have c2 : (Value.ref C :: bm).contains (.type "AttributeError") = false := by rw [List.contains_cons, F.noAttr] <;> rfl
  have c3 : (Value.ref C :: bm).contains (.type "NameError") = false := by rw [List.contains_cons, F.noName] <;> rfl
  refine codeAny_builtinAt F.N.entry ?_
  unfold Builtin.«BaseException.__new__»
  refine wpAt_bind ?_
  show wpAt _ _ _ (stack >>= _) _ _ _
  refine wpAt_bind (wpAt_stack fun p below => wpAt_of_wpAny ?_)
  wp_walk
  refine wpAt_of_wpAny ?_
  rw [F.N.owner]
  repeat (first | with_reducible refine wpAny_madeHere_exc F.N.canon hC ?_ | with_reducible refine wpAny_loadPart_at hC ?_ | (with_reducible refine wpAny_isSubtype_exc hC ?_; first | rw [c1] | rw [c2] | rw [c3]) | wp_step)
  show R _ _
  rw [Heap.size_push]
  exact hq
theorem type_callY (F : BaseY B Bm newId initNew initId tailN bm) {rest : List Value} {kw : List (Str × Value)} {fI : Addr} {Q : Fin → Shared → Prop} (hC : h.get? C = some (excClassObj nm q C N bs bm hdct sn sub ab col dd k0 k1 k2 k3 k5 newId))
    (hi : W.Looks (model prog w) h (typeLookup (.ref C) "__init__") (some (.ref fI))) (hb : ∀ self, W.Looks (model prog w) h (bindSpecial (.ref fI) self) (.ref fI, [self])) (hrest : rest.length ≤ sizeLine)
    (hq : codeAny (model prog w) A (.call (.ref fI) ⟨.ref (h.objs.size + 1) :: rest, kw⟩) (fun r s' => match r with | .ok (.ret v) => v = .none ∧ Q (.done (.ret (.ref (h.objs.size + 1)))) s' | .ok _ => False | .error e => E e s') ⟨(h.push (W.kdv_tup rest)).push (excO C h.objs.size), g, d, t, os⟩) :
    wpAny (model prog w) A (Builtin.«type.__call__» ⟨.ref C :: rest, kw⟩) Q E ⟨h, g, d, t, os⟩ := by
  repeat (first | with_reducible refine wpAny_loadPart_at hC ?_ | with_reducible refine wpAny_madeBy_exc hC ?_ | wp_step)
  refine codeAny_call_builtin_code (Code.quiet_builtin _ F.N.quiet) (check_newY F hC ?_)
  refine newY F hC ?_ hrest
  show wpAny _ _ _ _ _ _
  have k : ∀ b o, h.get? b = some o → ((h.push (W.kdv_tup rest)).push (excO C h.objs.size)).get? b = some o := fun b o e => Heap.get?_push_of_some _ (Heap.get?_push_of_some _ e)
  have c1 := k _ _ hC
  have c2 : ((h.push (W.kdv_tup rest)).push (excO C h.objs.size)).get? (h.objs.size + 1) = some (excO C h.objs.size) := by heap_get
  have c3 : (Value.ref C :: bm).contains (.ref C) = true := by simp
  have i1 := hi.keeps k
  have b1 := (hb (.ref (h.objs.size + 1))).keeps k
  unfold isInstance
  repeat (first | with_reducible refine wpAny_loadPart_at c2 ?_ | (with_reducible refine wpAny_isSubtype_exc c1 ?_; rw [c3]) | wp_step)
  show wpAny _ _ (typeLookup (.ref C) _) _ _ _
  refine i1.at ?_
  refine wpAny_holding (wpAny_bind (b1.at ?_))
  refine wpAny_bind (wpAny_call (codeAny_mono hq fun r s' z => ?_))
  rcases r with e | (v | _ | _ | _) <;> first | exact z | exact z.elim | skip
  obtain ⟨rfl, z⟩ := z
  first
    | exact wpAny_pure (wpAny_pure z)
    | (wp_walk; exact z)
theorem callY (F : BaseY B Bm newId initNew initId tailN bm) {rest : List Value} {kw : List (Str × Value)} {fI : Addr} (hC : h.get? C = some (excClassObj nm q C N bs bm hdct sn sub ab col dd k0 k1 k2 k3 k5 newId))
    (hi : W.Looks (model prog w) h (typeLookup (.ref C) "__init__") (some (.ref fI))) (hb : ∀ self, W.Looks (model prog w) h (bindSpecial (.ref fI) self) (.ref fI, [self])) (hrest : rest.length ≤ sizeLine)
    (hq : codeAny (model prog w) (A.under (.builtin "type.__call__" ⟨.ref C :: rest, kw⟩)) (.call (.ref fI) ⟨.ref (h.objs.size + 1) :: rest, kw⟩) (W.InitBack (h.objs.size + 1) R) ⟨(h.push (W.kdv_tup rest)).push (excO C h.objs.size), g, d, t, os⟩) :
    codeAny (model prog w) A (.call (.ref C) ⟨rest, kw⟩) R ⟨h, g, d, t, os⟩ := by
  have c1 := tc_lookup
  have c2 := tc_bind (.ref C)
  have c3 : (⟨h, g, d, t, os⟩ : Shared).TypeIs (.ref C) "type" := ⟨_, hC, rfl⟩
  refine codeAny_of_tree ?_
  show wpAny _ _ (callAny (.ref C) _) _ _ _
  repeat (any_goals (first | assumption | with_reducible refine wpAny_loadPart_at hC ?_ | wp_step))
  refine ⟨rfl, ?_⟩
  refine codeAny_call_builtin_at (Code.quiet_builtin _ (by decide +kernel)) entry_typeCall (check_typeY hC (type_callY F hC hi hb hrest ?_))
  refine codeAny_mono hq fun r s' z => ?_
  rcases r with e | (v | _ | _ | _) <;> exact z
theorem init_baseY (F : BaseY B Bm newId initNew initId tailN bm) {e t0 : Addr} {rest : List Value} (hC : h.get? C = some (excClassObj nm q C N bs bm hdct sn sub ab col dd k0 k1 k2 k3 k5 newId)) (he : h.get? e = some (excO C t0)) (hrest : rest.length ≤ sizeLine)
    (hq : ∀ h' t1, (∀ b o, b ≠ e → h.get? b = some o → h'.get? b = some o) → h'.get? e = some (excO C t1) → R (.ok (.ret .none)) ⟨h', g, d, t, os⟩) : codeAny (model prog w) A (.call (.builtin initId) ⟨.ref e :: rest, []⟩) R ⟨h, g, d, t, os⟩ := by
  refine codeAny_call_builtin F.I.slot.plain F.I.entry (check_initY F hC he rfl ?_)
  wp_walk
  refine hq _ h.objs.size (fun b o hb ho => ?_) ?_
  · rw [Heap.get?_update_other _ _ (Ne.symm hb)]
    exact Heap.get?_push_of_some _ ho
  · rw [Heap.get?_update_self _ (Heap.get?_push_of_some _ he) rfl]
    rfl
end
end HandSPX
end PySem
/-! own exception classes over any built-in base: made, raised, caught, held as values -/
namespace FL
open PySem PySem.Spec PyProof.Rows L2
/-- what the written part says of an own class at C over the base -/
structure OexB (K : PySem.W.Frag) (C : Addr) (newId : String) (tail : List Value) : Prop where
  cls : ∃ nm q N bs sn sub ab col dd k0 k1 k2 k3 k5, K.lookup C = some (excClassObj nm q C N bs tail true sn sub ab col dd k0 k1 k2 k3 k5 newId)
  sa : PySem.W.findIn K (.ref C) "__setattr__" = some (some (.builtin "object.__setattr__"))
  exC : PySem.W.subIn K (.ref C) (.type "BaseException") = some true
  tyC : PySem.W.typeIn K (.ref C) = some (.type "type")
  kC : PySem.W.keepIn K (.ref C) = true
end FL
namespace PySem
namespace HandSPX
open Builtin Builtin.ObjectAttr
section
variable {prog : Program} {w : World} {A : Around} {E : Value → Shared → Prop} {R : Result → Shared → Prop} {hp : Heap} {g : Array GenState} {d : Drawn} {t : Nat} {os : OsState}
theorem exc_osaB {K : W.Frag} {name : Str} {tk : Tok} {v : Value} {x C : Addr} {fv : Array Value} {cd : ClassData} {tail : List Value} (X : K.In hp) (hx : hp.get? x = some { cls := .ref C, data := .fields fv }) (hcd : W.clsIn K C = some cd) (hm : cd.mro = .ref C :: tail)
    (hpa : ∀ self, refuseLoop self "__setattr__" tail = pure ()) (hto : tail.contains (.type "object") = true) (hh : cd.hasDict = true) (ha : W.findIn K (.ref C) name = some none)
    (hq : ∀ h' tk' dx, (∀ b o, b ≠ x → hp.get? b = some o → h'.get? b = some o) → hp.objs.size ≤ dx → dx ≠ x → h'.get? x = some { cls := .ref C, dict := some dx, data := .fields fv } →
      h'.Ns1 dx (fun y => if y = name then some v else none) → R (.ok (.ret .none)) ⟨h', g, d, tk', os⟩) :
    codeAny (model prog w) A (.call (.builtin "object.__setattr__") ⟨[.ref x, .str name tk, v], []⟩) R ⟨hp, g, d, t, os⟩ := by
  have I : W.InstAt hp x { cls := .ref C, data := .fields fv } C none := ⟨hx, rfl, rfl, trivial⟩
  have SF := F.store_object
  have ne : cd.mro.isEmpty = false := by rw [hm]; rfl
  have hob : cd.mro.contains (.type "object") = true := by rw [hm, List.contains_cons, hto, Bool.or_true]
  have hxs : x ≠ hp.objs.size := Nat.ne_of_lt (Heap.lt_size hx)
  have sub : W.Looks (model prog w) hp (isInstance (.ref x) (.type "object")) true := I.type.andThen (W.looks_mroIn X (by unfold W.mroIn; rw [hcd, Option.bind_some, if_neg (by rw [ne]; decide), hob]))
  refine codeAny_call_builtin SF.slot.plain SF.entry (@W.check_slot (model prog w) _ _ ⟨hp, g, d, t, os⟩ "object.__setattr__" "object" "__setattr__" (.ref x) [.str name tk, v] [] _ SF.kind SF.split sub (SF.args (.ref x) (.str name tk) v) ?_)
  have hmr : W.Looks (model prog w) hp (mroOf (.ref C)) cd.mro := (W.looks_clsIn X hcd).andThen .now
  have L3 : W.Looks (model prog w) hp (storeTaker? none) none := .now
  have hcls : W.Looks (model prog w) hp (classData C) cd := W.looks_clsIn X hcd
  rw [W.osa_eq, refuse_eq]
  refine wpAny_bind (wpAny_bind (I.type.at (wpAny_bind (hmr.at ?_))))
  rw [hm, refuseLoop_ref, hpa]
  refine wpAny_pure (wpAny_bind (I.type.at (wpAny_bind ((W.looks_findIn X ha).at (wpAny_bind (L3.at ?_))))))
  show wpAny _ _ (storeInOwnDict (.ref x) (.ref C) (.str name tk) name v false) _ _ _
  obtain ⟨nm, bs, mro, ns, qn, hd, sn, sb, ab, col, del⟩ := cd
  dsimp only at hh
  subst hh
  unfold storeInOwnDict ownDictForStores
  repeat (first | with_reducible refine store_in_new ?_ ?_ | with_reducible refine wpAny_loadPart_at hx ?_ | with_reducible refine hcls.at ?_ | wp_step)
  · exact ⟨_, #[], _, (Heap.get?_update_ne _ _ _ _ hxs.symm).trans (Heap.get?_push_at rfl rfl), rfl, fun e he => absurd he (by simp), fun _ => rfl⟩
  · intro h' tk' hn' hs
    have hx₁ : (hp.push { cls := .type "dict", data := .dict #[] }).get? x = some { cls := .ref C, data := .fields fv } := Heap.get?_push_of_some _ hx
    refine hq h' tk' hp.objs.size (fun b o hb ho => ?_) (Nat.le_refl _) hxs.symm ?_ hn'
    · exact (hs.2 b (Nat.ne_of_lt (Heap.lt_size ho))).trans ((Heap.get?_update_ne _ _ _ _ hb).trans (Heap.get?_push_of_some _ ho))
    · exact (hs.2 x hxs).trans (Heap.get?_update_self _ hx₁ rfl)
end
end HandSPX
end PySem
namespace FL
open PySem PySem.Spec PyProof.Rows L2
section
variable {X : Cx} {pins : List (Addr × Obj)} {σ : L2.St} {H : Hp} {s : Shared} {a C dx : Addr} {f : Str} {y : V} {u : Value} {fs : List (Str × V)} {Q : Unit → Shared → Prop} {E : Value → Shared → Prop} {A : Around} {B Bm newId initNew initId : String} {tailN tail : List Value}
/-- self.f = y, the first one -/
theorem ost_newB (FB : BaseY B Bm newId initNew initId tailN tail) (T : OexB X.K C newId tail) (I : Inv X pins σ H s) (e : H a = some (exo a C none)) (hno : PySem.W.findIn X.K (.ref C) f = some none) (ry : RelV y u)
    (h : ∀ dx s', H dx = none → dx ≠ a → Inv X pins σ (upd (upd H dx (exd dx [(f, y)])) a (exo a C (some dx))) s' → Q () s') : wpAny (model X.prog X.w) A (setAttr (.ref a) f u) Q E s := by
  obtain ⟨nm, q, N, bs, sn, sub, ab, col, dd, k0, k1, k2, k3, k5, hC⟩ := T.cls
  have hcl : PySem.W.clsIn X.K C = some { name := nm, bases := bs, mro := .ref C :: tail, ns := N, qualname := q, hasDict := true, slotNames := sn, subclasses := sub, abstract := ab, collection := col, hasDel := false } := by unfold PySem.W.clsIn; rw [hC] <;> rfl
  obtain ⟨t1, ho⟩ := exo_at I.hok e
  obtain ⟨hp, g, d, t, os⟩ := s
  refine PySem.W.set_plain I.kIn (ox := { cls := .ref C, dict := none, data := .fields #[.ref t1, .none, .none, .none, .bool false, .none] }) (od := none) ⟨ho, rfl, rfl, trivial⟩ T.sa ?_
  refine PySem.HandSPX.exc_osaB I.kIn ho hcl rfl FB.passes FB.obj rfl hno (fun h' tk' dx k dn dne hx hn => ?_)
  have hnd : H dx = none := I.hok.fresh dn
  have nd : ∀ {b : Addr} {o : Obj}, hp.get? b = some o → b ≠ dx := fun {b o} q => Nat.ne_of_lt (Nat.lt_of_lt_of_le (Heap.lt_size q) dn)
  have na : ∀ {b : Addr}, H b = none → b ≠ a := fun {b} n z => by
    rw [z, e] at n
    cases n
  have Un1 : Un X.fs [] H (upd (upd H dx (exd dx [(f, y)])) a (exo a C (some dx))) hp h' := {
    keep := fun b o q n _ _ => k b o (na n) q
    slot := fun b o q n _ _ => ⟨o.slots, k b o (na n) q⟩
    free := fun b o q n _ => by rw [upd_ne (na n), upd_ne (nd q)]; exact n
    there := fun b o q _ => by
      by_cases hb : b = a
      · exact ⟨_, by rw [hb]; exact hx⟩
      · exact ⟨o, k b o hb q⟩
    tups := fun b xs q => by rw [upd_ne (at_ne e q exo_tup), upd_ne (ne_of_none q hnd)]; exact q
    frzs := fun b o v q => by rw [upd_ne (at_ne e q exo_frz), upd_ne (ne_of_none q hnd)]; exact q
    tbls := fun b ps q => ⟨#[], by rw [upd_ne (at_ne e q exo_tbl), upd_ne (ne_of_none q hnd), q]; simp⟩ }
  refine h dx _ hnd dne (I.un (t' := tk') Un1 fun b o q => ?_)
  by_cases hb : b = a
  · subst hb
    rw [upd_same] at q
    cases q
    exact exo_ok hx
  · rw [upd_ne hb] at q
    by_cases hd : b = dx
    · subst hd
      rw [upd_same] at q
      cases q
      exact exd_ok hn (relO_put (fs := []) ry fun g => True.intro)
    · rw [upd_ne hd] at q
      exact (I.hok b o q).stay (fun c v hc z => k c v (by
          rcases hc with hc | hc
          · rw [hc]
            exact hb
          · exact at_ne e hc exo_own) z)
        (fun c hc => by rw [upd_ne (at_ne e hc exo_own), upd_ne (ne_of_none hc hnd)]; exact hc) (fun c xs hc => by rw [upd_ne (at_ne e hc exo_tup), upd_ne (ne_of_none hc hnd)]; exact hc)
/-- B.__init__(self, ..): nothing of it is told -/
theorem oinit_okB {us : List Value} {Q : Value → Shared → Prop} (FB : BaseY B Bm newId initNew initId tailN tail) (T : OexB X.K C newId tail) (I : Inv X pins σ H s) (e : H a = some (exo a C none)) (hl : us.length ≤ sizeLine) (h : ∀ s', Inv X pins σ H s' → Q .none s') :
    wpAny (model X.prog X.w) A (call (.builtin initId) (.ref a :: us)) Q E s := by
  obtain ⟨nm, q, N, bs, sn, sub, ab, col, dd, k0, k1, k2, k3, k5, hC⟩ := T.cls
  obtain ⟨t1, ho⟩ := exo_at I.hok e
  obtain ⟨hp, g, d, t, os⟩ := s
  refine wpAny_call (PySem.HandSPX.init_baseY FB (I.kIn _ _ hC) ho hl fun h' t2 k hx => ?_)
  have J := I.write (t' := t) (x := a) (e := a) (o := exo a C none) (by rw [e]; exact True.intro) (.inl rfl) k ⟨_, hx⟩ (exo_ok hx)
  have eu : upd H a (exo a C none) = H := by
    funext b
    by_cases hb : b = a
    · rw [hb, upd_same, e]
    · rw [upd_ne hb]
  rw [eu] at J
  exact h _ J
end
/-! ### readings and rules -/
/-- B.__init__(self, ..) -/
def tBI (K : PySem.W.Frag) (newId : String) (tail : List Value) (ta : TA) : TE := fun σ H Q => ta σ H fun vs H1 => ∃ (a C : Addr) (ws : List V), vs = .ref a :: ws ∧ ws.length ≤ 1000 ∧ OexB K C newId tail ∧ H1 a = some (exo a C none) ∧ Q .non H1
/-- self.f = e -/
def tOstB (K : PySem.W.Frag) (newId : String) (tail : List Value) (f : Str) (to te : TE) : TS := fun D σ H => te σ H fun y H1 => to σ H1 fun x H2 => ∃ a C : Addr, x = .ref a ∧ OexB K C newId tail ∧ PySem.W.findIn K (.ref C) f = some none ∧
  H2 a = some (exo a C none) ∧ ∀ dx, H2 dx = none → dx ≠ a → D.nx σ (upd (upd H2 dx (exd dx [(f, y)])) a (exo a C (some dx)))
section
variable {X : Cx} {o e : Expr} {es : List Expr} {to te : TE} {ta : TA} {f : Str} {p p' p1 p2 pos : Pos} {B Bm newId initNew initId : String} {tailN tail : List Value}
theorem pe_binit {Bn : Str} {pl : Sem Bool} (FB : BaseY B Bm newId initNew initId tailN tail) (hg : Gl X Bn) (hm : X.mg Bn = none) (hB : bootBuiltins Bn = some (.type B)) (vV : PySem.W.findCls X.K (.type B) (.type "type") "__init__" = some (.val (.builtin initId))) (ha : PA X (e :: es) ta)
    (hnn : Bn ≠ "__name__") (hdb : (Bn == ("__debug__" : Str)) = false) (hc : eval (.Call (.Attribute (.Name Bn p1) "__init__" p2) (e :: es) [] pos) X.env = (do
      let ov ← eval (.Name Bn p1) X.env
      standAt p2.atName
      let (f, first) ← holding [ov] (getMethod ov "__init__" pl)
      callWith pos f first (backTo pos (starEach (e :: es) X.env)) (backToKw pos (keywordEach [] X.env))) := by rfl)
    (he : starEach (e :: es) X.env = (false, eval e X.env) :: starEach es X.env := by rfl) (hpl : (backTo pos (starEach es X.env)).any (·.1) = false := by rfl) :
    PE X (.Call (.Attribute (.Name Bn p1) "__init__" p2) (e :: es) [] pos) (tBI X.K newId tail ta) := by
  refine ⟨fun pins s σ H Q I h => ?_⟩
  refine PySem.W.methodCall_KW (ld_blt I hg hm hB ?_ hnn hdb) hc
  obtain ⟨m, fr⟩ := I.fr
  refine PySem.W.method_type fr I.ok.mod.kin FB.typ FB.stub vV FB.hand ?_
  show wpAny _ _ (callWith pos (Value.builtin initId) [] (backTo pos (starEach (e :: es) X.env)) []) _ _ _
  refine PyProof.Rows.callWith_method1 (thn (ha.run pos pins _ σ H _ (I.tok _) h) fun us s1 ⟨vs, H1, I1, r1, a, C, ws, ev, hl, T, ea, q⟩ => ?_) he hpl
  subst ev
  cases r1 with
  | @cons _ u0 _ ur ra rw' =>
    obtain rfl : u0 = Value.ref a := ra
    have hlen : ur.length ≤ sizeLine := by
      rw [← Paired.length rw', sizeLine_eq]
      omega
    exact oinit_okB FB T I1 ea hlen fun s' J => ⟨.non, H1, J, rfl, q⟩
theorem ps_ostB (FB : BaseY B Bm newId initNew initId tailN tail) (ho : PE X o to) (he : PE X e te) (hs : swapsWith e (some (.Attribute o f p')) pos.line X.env = pure false := by rfl) : PS X (.Assign [.Attribute o f p'] e pos) (tOstB X.K newId tail f to te) := by
  refine ⟨fun pins s σ H D I h => ?_⟩
  refine plainObj_wpAny_Assign_Attribute (thn (he.run pins s σ H _ I h) fun v s1 ⟨y, H1, I1, r1, q1⟩ => thn (ho.run pins s1 σ H1 _ I1 q1) fun u s2 ⟨x, H2, I2, r2, a, C, ex, T, hno, ea, q⟩ => ?_) hs
  subst ex
  obtain rfl : u = Value.ref a := r2
  exact ost_newB FB T I2 ea hno r1 fun dx s' n ne J => ⟨σ, _, J, q dx n ne⟩
/-- C(e, ..), C's own __init__ keeping sp -/
theorem pmk_oexB {CX : CXT} {x : Str} {C fI : Addr} {k : Nat} {fd : FuncData} {ps : List Str} {sp : Sp} {ds : List Value} {dvs : List V} (FB : BaseY B Bm newId initNew initId tailN tail) (T : OexB X.K C newId tail) (iC : PySem.W.findIn X.K (.ref C) "__init__" = some (some (.ref fI))) (tI : PySem.W.typeIn X.K (.ref fI) = some (.type "function"))
    (F1 : FnOk X.prog X.w X.K X.mg X.base CX k fI fd ps sp) (hr : Room (k + 1) X.A) (hb : Binds X.K fd ps ds) (hd : Vals dvs ds) (hx : Passes CX X (fun _ _ _ => False)) (hg : Gl X x) (hm : X.mg x = some (.ref C)) (ha : PA X (e :: es) ta)
    (hdb : (x == ("__debug__" : Str)) = false := by decide) (he : starEach (e :: es) X.env = (false, eval e X.env) :: starEach es X.env := by rfl) (hpl : (backTo pos (starEach es X.env)).any (·.1) = false := by rfl) :
    PMk X (.Call (.Name x p) (e :: es) [] pos) (tMkO C sp dvs ta) := by
  intro pins s σ H Q I h
  obtain ⟨nm, q, N, bs, sn, sub, ab, col, dd, k0, k1, k2, k3, k5, hC⟩ := T.cls
  refine wpAny_Call_Name_kw (ld_glob I hg hm ?_ hdb)
  refine PySem.W.callWith_K (h₀ := X.base) I.ok.mod.kin T.kC (thn (ha.run pos pins s σ H _ I h) fun us s1 ⟨vs, H1, I1, r1, hz, q1⟩ => ⟨I1.kIn, ?_⟩) he hpl
  show wpAny _ _ (call (.ref C) us) _ _ _
  obtain ⟨hp, g, dr, tk, os⟩ := s1
  have hsz : hp.objs.size ≤ hp.objs.size + 1 := Nat.le_succ _
  have hn : H1 (hp.objs.size + 1) = none := I1.hok.fresh hsz
  have hq := q1 (hp.objs.size + 1) hn
  have kk : ∀ b o, hp.get? b = some o → ((hp.push (PySem.W.kdv_tup us)).push (PySem.HandSPX.excO C hp.objs.size)).get? b = some o := fun b o e => Heap.get?_push_of_some _ (Heap.get?_push_of_some _ e)
  have hget : ((hp.push (PySem.W.kdv_tup us)).push (PySem.HandSPX.excO C hp.objs.size)).get? (hp.objs.size + 1) = some (PySem.HandSPX.excO C hp.objs.size) := by heap_get
  have I2 : Inv X pins σ (upd H1 (hp.objs.size + 1) (exo (hp.objs.size + 1) C none)) ⟨(hp.push (PySem.W.kdv_tup us)).push (PySem.HandSPX.excO C hp.objs.size), g, dr, tk, os⟩ :=
    I1.laid (t' := tk) (a := hp.objs.size + 1) (o := exo (hp.objs.size + 1) C none) (h' := (hp.push (PySem.W.kdv_tup us)).push (PySem.HandSPX.excO C hp.objs.size)) kk hsz (exo_ok hget)
  have r2 : Vals (V.ref (hp.objs.size + 1) :: (vs ++ dvs)) (Value.ref (hp.objs.size + 1) :: (us ++ ds)) := .cons rfl (r1.append hd)
  have hl : (Value.ref (hp.objs.size + 1) :: us ++ ds).length = ps.length := by
    have e := r2.length
    rw [F1.len _ _ _ _ hq] at e
    exact e.symm
  have hus : us.length ≤ sizeLine := by
    rw [← Paired.length r1, sizeLine_eq]
    omega
  refine wpAny_call (PySem.HandSPX.callY FB (I1.kIn _ _ hC) (PySem.W.looks_findIn I1.kIn iC) (fun self => PySem.W.bind_fn I1.kIn self tI) hus
    (codeAny_mono (F1.run _ X.stack _ _ ⟨Value.ref (hp.objs.size + 1) :: us, []⟩ (Value.ref (hp.objs.size + 1) :: (us ++ ds)) _ _ (fun _ _ _ => False) (hr.make C us []) (I2.env0.make C us []) (hb _ (Value.ref (hp.objs.size + 1) :: us) I2.kIn hl) r2 hq) fun r s' hq' => ?_))
  cases r with
  | error er => exact hx pins σ _ _ er s' I2 hq'
  | ok fl =>
    cases fl with
    | ret u =>
      obtain ⟨v, H2, os2, bare2, un2, hok2, rv, ev, d, fs, ea, ed, hd1, q2⟩ := hq'
      subst ev
      obtain ⟨h2, g2, d2, t2, os'⟩ := s'
      exact ⟨rv, mk_end (raises_own T.exC T.tyC) I1 hsz kk un2 hok2 os2 bare2 ea ed hd1 q2⟩
    | next => exact False.elim hq'
    | brk => exact False.elim hq'
    | cont => exact False.elim hq'
/-- C(f = e), C's own __init__ keeping sp -/
theorem pmk_oexK {CX : CXT} {x f0 : Str} {C fI : Addr} {k : Nat} {fd : FuncData} {ps : List Str} {sp : Sp} {kws : List Keyword} {tk : TA} (FB : BaseY B Bm newId initNew initId tailN tail) (T : OexB X.K C newId tail) (iC : PySem.W.findIn X.K (.ref C) "__init__" = some (some (.ref fI))) (tI : PySem.W.typeIn X.K (.ref fI) = some (.type "function"))
    (F1 : FnOk X.prog X.w X.K X.mg X.base CX k fI fd ps sp) (hp2 : ps.length = 2) (hr : Room (k + 1) X.A) (hb : ∀ (s : Shared) (u0 u : Value), X.K.In s.heap → BindsTo s fd ⟨[u0], [(f0, u)]⟩ (ps.zip [u0, u])) (hx : Passes CX X (fun _ _ _ => False)) (hg : Gl X x) (hm : X.mg x = some (.ref C)) (ha : PK X kws tk)
    (hdb : (x == ("__debug__" : Str)) = false := by decide) (hall : (backToKw pos (keywordEach kws X.env)).all (·.1.isSome) = true := by rfl) (hks : (backToKw pos (keywordEach kws X.env)).filterMap (·.1) = [f0] := by rfl)
    (hpl : ((backTo pos (starEach [] X.env)).any (·.1) || (backToKw pos (keywordEach kws X.env)).any (·.1.isNone)) = false := by rfl) : PMk X (.Call (.Name x p) [] kws pos) (tMkO C sp [] tk) := by
  intro pins s σ H Q I h
  obtain ⟨nm, q, N, bs, sn, sub, ab, col, dd, k0, k1, k2, k3, k5, hC⟩ := T.cls
  refine wpAny_Call_Name_kw (ld_glob I hg hm ?_ hdb)
  refine PySem.W.callWith_KW0 (h₀ := X.base) I.ok.mod.kin T.kC hall (thn (ha.run pos pins s σ H _ I h) fun us s1 ⟨vs, H1, I1, r1, hz, q1⟩ => ⟨I1.kIn, ?_⟩) hpl
  rw [hks]
  obtain ⟨hp, g, dr, tk, os⟩ := s1
  have hsz : hp.objs.size ≤ hp.objs.size + 1 := Nat.le_succ _
  have hn : H1 (hp.objs.size + 1) = none := I1.hok.fresh hsz
  have hq := q1 (hp.objs.size + 1) hn
  have lv := F1.len _ _ _ _ hq
  have l1 : us.length = 1 := by
    rw [← Paired.length r1]
    simp at lv
    omega
  obtain ⟨u, rfl⟩ : ∃ u, us = [u] := by
    match us, l1 with
    | [u], _ => exact ⟨u, rfl⟩
  show wpAny _ _ (call (.ref C) [] [(f0, u)]) _ _ _
  have kk : ∀ b o, hp.get? b = some o → ((hp.push (PySem.W.kdv_tup [])).push (PySem.HandSPX.excO C hp.objs.size)).get? b = some o := fun b o e => Heap.get?_push_of_some _ (Heap.get?_push_of_some _ e)
  have hget : ((hp.push (PySem.W.kdv_tup [])).push (PySem.HandSPX.excO C hp.objs.size)).get? (hp.objs.size + 1) = some (PySem.HandSPX.excO C hp.objs.size) := by heap_get
  have I2 : Inv X pins σ (upd H1 (hp.objs.size + 1) (exo (hp.objs.size + 1) C none)) ⟨(hp.push (PySem.W.kdv_tup [])).push (PySem.HandSPX.excO C hp.objs.size), g, dr, tk, os⟩ :=
    I1.laid (t' := tk) (a := hp.objs.size + 1) (o := exo (hp.objs.size + 1) C none) (h' := (hp.push (PySem.W.kdv_tup [])).push (PySem.HandSPX.excO C hp.objs.size)) kk hsz (exo_ok hget)
  have r2 : Vals (V.ref (hp.objs.size + 1) :: (vs ++ [])) [Value.ref (hp.objs.size + 1), u] := .cons rfl (by rw [List.append_nil]; exact r1)
  refine wpAny_call (PySem.HandSPX.callY FB (I1.kIn _ _ hC) (PySem.W.looks_findIn I1.kIn iC) (fun self => PySem.W.bind_fn I1.kIn self tI) (Nat.zero_le _)
    (codeAny_mono (F1.run _ X.stack _ _ ⟨[Value.ref (hp.objs.size + 1)], [(f0, u)]⟩ [Value.ref (hp.objs.size + 1), u] _ _ (fun _ _ _ => False) (hr.make C [] [(f0, u)]) (I2.env0.make C [] [(f0, u)]) (hb _ _ _ I2.kIn) r2 hq) fun r s' hq' => ?_))
  cases r with
  | error er => exact hx pins σ _ _ er s' I2 hq'
  | ok fl =>
    cases fl with
    | ret u =>
      obtain ⟨v, H2, os2, bare2, un2, hok2, rv, ev, d, fs, ea, ed, hd1, q2⟩ := hq'
      subst ev
      obtain ⟨h2, g2, d2, t2, os'⟩ := s'
      exact ⟨rv, mk_end (raises_own T.exC T.tyC) I1 hsz kk un2 hok2 os2 bare2 ea ed hd1 q2⟩
    | next => exact False.elim hq'
    | brk => exact False.elim hq'
    | cont => exact False.elim hq'
end
/-! ### such an __init__: B.__init__(self, 'm'); self.f = f -/
def spXi (K : PySem.W.Frag) (C : Addr) (newId : String) (tail : List Value) (f : Str) : Sp := fun vs H Q _ => ∃ a v, vs = [.ref a, v] ∧ H a = some (exo a C none) ∧ OexB K C newId tail ∧ PySem.W.findIn K (.ref C) f = some none ∧
  ∀ dx, H dx = none → dx ≠ a → Q .non (upd (upd H dx (exd dx [(f, v)])) a (exo a C (some dx)))
def tXi (K : PySem.W.Frag) (newId : String) (tail : List Value) (m f : Str) : TS := tSeq (tDrop (tBI K newId tail (tCons (tVar 0) (tCons (tC (.str m)) tNil)))) (tOstB K newId tail f (tVar 0) (tVar 1))
theorem ok_xi {P : Program} {w : World} {K : PySem.W.Frag} {mg : Str → Option Value} {base : Heap} {C : Addr} {newId : String} {tail : List Value} {m fl qual : Str} {st : Stmt} {f : Addr} {fd : FuncData} (F : Fun K "__init__" qual st f fd) (S : FnScope ["self", fl] ["self", fl] (defScope st))
    (walk : ∀ (cdv : Value) (A : Around) (outer : List PySem.Env) (s : Shared) (H : Hp) (E : XK), PSs (cxOf (L2.CX P w) P w K mg base ["self", fl] qual (defScope st) f cdv A outer s H E) (defBody st) (tXi K newId tail m fl)) :
    FnOk P w K mg base (L2.CX P w) 1 f fd ["self", fl] (spXi K C newId tail fl) := by
  refine F.okX (k := 0) S (fun vs H Q E h => ?_) (fun cdv A outer s H vs Q E hr h => ⟨tXi K newId tail m fl, walk cdv A outer s H E, ?_⟩)
  · obtain ⟨a, v, rfl, _⟩ := h
    rfl
  · obtain ⟨a, v, rfl, ha, T, nf, q⟩ := h
    exact ⟨_, rfl, a, C, [.str m], rfl, (by decide : 1 ≤ 1000), T, ha, _, rfl, _, rfl, a, C, rfl, T, nf, ha, q⟩
/-! ### .. and B.__init__(self, f); self.f = f -/
def tXj (K : PySem.W.Frag) (newId : String) (tail : List Value) (f : Str) : TS := tSeq (tDrop (tBI K newId tail (tCons (tVar 0) (tCons (tVar 1) tNil)))) (tOstB K newId tail f (tVar 0) (tVar 1))
theorem ok_xj {P : Program} {w : World} {K : PySem.W.Frag} {mg : Str → Option Value} {base : Heap} {C : Addr} {newId : String} {tail : List Value} {fl qual : Str} {st : Stmt} {f : Addr} {fd : FuncData} (F : Fun K "__init__" qual st f fd) (S : FnScope ["self", fl] ["self", fl] (defScope st))
    (walk : ∀ (cdv : Value) (A : Around) (outer : List PySem.Env) (s : Shared) (H : Hp) (E : XK), PSs (cxOf (L2.CX P w) P w K mg base ["self", fl] qual (defScope st) f cdv A outer s H E) (defBody st) (tXj K newId tail fl)) :
    FnOk P w K mg base (L2.CX P w) 1 f fd ["self", fl] (spXi K C newId tail fl) := by
  refine F.okX (k := 0) S (fun vs H Q E h => ?_) (fun cdv A outer s H vs Q E hr h => ⟨tXj K newId tail fl, walk cdv A outer s H E, ?_⟩)
  · obtain ⟨a, v, rfl, _⟩ := h
    rfl
  · obtain ⟨a, v, rfl, ha, T, nf, q⟩ := h
    exact ⟨_, rfl, _, rfl, a, C, [v], rfl, (by decide : 1 ≤ 1000), T, ha, _, rfl, _, rfl, a, C, rfl, T, nf, ha, q⟩
/-- what the written part says of an own class with such an __init__ -/
structure XiOk (K : PySem.W.Frag) (mg : Str → Option Value) (n fl : Str) (newId : String) (tail : List Value) (qual : Str) (st : Stmt) (fI : Addr) (fd : FuncData) : Prop where
  gm : mg n = some (.ref (cA K n))
  T : OexB K (cA K n) newId tail
  nf : PySem.W.findIn K (.ref (cA K n)) fl = some none
  iC : PySem.W.findIn K (.ref (cA K n)) "__init__" = some (some (.ref fI))
  tI : PySem.W.typeIn K (.ref fI) = some (.type "function")
  F : Fun K "__init__" qual st fI fd
  b : Binds K fd ["self", fl] []
  bk : ∀ (s : Shared) (u0 u : Value), K.In s.heap → BindsTo s fd ⟨[u0], [(fl, u)]⟩ [("self", u0), (fl, u)]
def tMk1 (C : Addr) (f : Str) (ta : TA) : L2.St → Hp → XK → Prop := fun σ H Q => ta σ H fun vs H1 => ∃ v, vs = [v] ∧ ∀ d, H1 d = none → Q (.ref C) (some d) (upd H1 d (.xd [(f, v)]))
theorem PMk.imp {X : Cx} {e : Expr} {t t' : L2.St → Hp → XK → Prop} (h : PMk X e t) (i : ∀ σ H Q, t' σ H Q → t σ H Q) : PMk X e t' := fun pins s σ H Q I q => h pins s σ H Q I (i _ _ _ q)
theorem del_back {H : Hp} {a d C : Addr} {o u : HO} {f : Str} {v : V} (hn : H a = none) (hd : d ≠ a) : upd (del (upd (upd (upd H a o) d u) a (exo a C (some d))) a) d (.xd [(f, v)]) = upd H d (.xd [(f, v)]) := by
  funext b
  by_cases e : b = d
  · rw [e, upd_same, upd_same]
  · rw [upd_ne e, upd_ne e]
    by_cases e2 : b = a
    · rw [e2, del_same, hn]
    · rw [del_ne e2, upd_ne e2, upd_ne e, upd_ne e2]
section
variable {X : Cx} {e : Expr} {ta : TA} {x fl qual : Str} {st : Stmt} {fI : Addr} {fd : FuncData} {p pos kpos : Pos} {B Bm newId initNew initId : String} {tailN tail : List Value}
theorem pure_mk1 {σ : L2.St} {H : Hp} {Q : XK} {K : PySem.W.Frag} {C : Addr} (T : OexB K C newId tail) (nf : PySem.W.findIn K (.ref C) fl = some none) (one : ∀ σ H (Q Q' : List V → Hp → Prop), (∀ vs H, Q vs H → Q' vs H) → ta σ H Q → ta σ H Q') (h : tMk1 C fl ta σ H Q) : tMkO C (spXi K C newId tail fl) [] ta σ H Q := by
  refine one _ _ _ _ (fun vs H1 ⟨v, ev, q⟩ => ⟨by rw [ev]; exact (by decide : 1 ≤ 1000), fun a hn => ?_⟩) h
  subst ev
  refine ⟨a, v, rfl, upd_same, T, nf, fun dx hd ne => ⟨rfl, dx, [(fl, v)], upd_same, ?_, ?_, ?_⟩⟩
  · rw [upd_ne ne, upd_same]
  · rw [upd_ne ne] at hd
    exact hd
  · rw [del_back hn ne]
    rw [upd_ne ne] at hd
    exact q dx hd
end
end FL
namespace FL
open PySem PySem.Spec PyProof.Rows L2
/-! ### exceptions as values, raise -/
theorem exv_ok {P : Program} {w : World} {H : Hp} {h : Heap} {a C : Addr} {d : Option Addr} {oe : Obj} {vs : Array Value} (e : h.get? a = some oe) (z : Zc (.ref C) d oe) (hd : oe.data = .fields vs) : ObjOk P w H h a (exv C d a) :=
  ⟨⟨oe, vs, e, z, hd⟩, ⟨oe, e⟩, fun _ _ ⟨o, v, q, r⟩ k => ⟨o, v, k o q, r⟩⟩
theorem exv_at {P : Program} {w : World} {H : Hp} {h : Heap} {a C : Addr} {d : Option Addr} (hok : HOk P w H h) (he : H a = some (exv C d a)) : ∃ oe vs, h.get? a = some oe ∧ Zc (.ref C) d oe ∧ oe.data = .fields vs := by
  have x : ObjOk P w H h a (exv C d a) := hok a _ he
  exact x.1
section
variable {X : Cx} {pins : List (Addr × Obj)} {σ : L2.St} {H : Hp}
theorem inv_at {s s' : Shared} (I : Inv X pins σ H s) (hh : s'.heap = s.heap) (ho : s'.os = s.os) (hb : AllBare s'.gens) : Inv X pins σ H s' := by
  obtain ⟨h', g', d', t', o'⟩ := s'
  obtain ⟨h, g, d, t, o⟩ := s
  dsimp only at hh ho hb
  subst hh ho
  exact ⟨I.ok, I.os, hb, I.base, I.loc, I.cell, I.free, I.freeC, I.pin, I.hok, I.len⟩
theorem Inv.track {sI s' : Shared} {a C : Addr} {d : Option Addr} {oe : Obj} {vs : Array Value} (J : Inv X pins σ H sI) (k : ∀ b o, sI.heap.get? b = some o → s'.heap.get? b = some o) (hne : sI.heap.get? a = none) (na : H a = none)
    (ha : s'.heap.get? a = some oe) (hz : Zc (.ref C) d oe) (hd : oe.data = .fields vs) (os : s'.os = sI.os) (ag : AllBare s'.gens) : Inv X pins σ (upd H a (exv C d a)) s' :=
  inv_at (L2.Inv.laidN (h' := s'.heap) (t' := s'.toks) (o := exv C d a) J k hne na (exv_ok ha hz hd)) rfl os ag
/-- .. in a later heap, that has it -/
theorem Inv.trackAt {sI s4 : Shared} {a C : Addr} {d : Option Addr} {oe : Obj} {vs : Array Value} (J : Inv X pins σ H sI) (J4 : Inv X pins σ H s4) (hne : sI.heap.get? a = none) (na : H a = none) (hx : X.ex = [])
    (ha : s4.heap.get? a = some oe) (hz : Zc (.ref C) d oe) (hd : oe.data = .fields vs) : Inv X pins σ (upd H a (exv C d a)) s4 := by
  have nin : ∀ b o, sI.heap.get? b = some o → b ≠ a := fun b o e z => by
    rw [z, hne] at e
    cases e
  have n0 : ∀ b o, X.s_0.heap.get? b = some o → b ≠ a := fun b o e => by
    obtain ⟨o', q⟩ := J.base.there b o e (by rw [hx]; exact fun z => nomatch z)
    exact nin b o' q
  have nN : ∀ b u, H b = some u → b ≠ a := fun b u e z => by
    rw [z, na] at e
    cases e
  refine ⟨J4.ok, J4.os, J4.bare, ⟨J4.base.keep, J4.base.slot, fun b o e n hb => ?_, J4.base.there, fun b xs e => ?_, fun b o u e => ?_, fun b ps e => ?_⟩, J4.loc, J4.cell, ?_, fun x c e => ?_, fun p hp => ?_, fun b u e => ?_, J4.len⟩
  · rw [upd_ne (n0 b o e)]
    exact J4.base.free b o e n hb
  · have q := J4.base.tups b xs e
    rw [upd_ne (nN _ _ q)]
    exact q
  · have q := J4.base.frzs b o u e
    rw [upd_ne (nN _ _ q)]
    exact q
  · obtain ⟨m, q⟩ := J4.base.tbls b ps e
    exact ⟨m, by rw [upd_ne (nN _ _ q)]; exact q⟩
  · obtain ⟨m, ⟨o, es, ep, ho, r⟩, hl⟩ := J.loc
    rw [upd_ne (nin _ _ ho)]
    exact J4.free
  · obtain ⟨v, o, ho, r⟩ := J.cell x c e
    rw [upd_ne (nin _ _ ho)]
    exact J4.freeC x c e
  · obtain ⟨e1, n1, e2⟩ := J4.pin p hp
    obtain ⟨e3, _⟩ := J.pin p hp
    exact ⟨e1, by rw [upd_ne (nin _ _ e3)]; exact n1, e2⟩
  · by_cases hb : b = a
    · subst hb
      rw [upd_same] at e
      cases e
      exact exv_ok ha hz hd
    · rw [upd_ne hb] at e
      exact (J4.hok b u e).stay (fun c v _ q => q) (fun c q => by rw [upd_ne (nN _ _ q)]; exact q) fun c xs q => by rw [upd_ne (nN _ _ q)]; exact q
end
def tExV (t : L2.St → Hp → XK → Prop) : TE := fun σ H Q => t σ H fun cls d H' => ∃ C, cls = .ref C ∧ ∀ a, H' a = none → Q (.ref a) (upd H' a (exv C d a))
theorem pe_mk {X : Cx} {e : Expr} {t : L2.St → Hp → XK → Prop} (h : PMk X e t) : PE X e (tExV t) := ⟨fun pins s σ H Q I q => wpAny_mono (h pins s σ H _ I q) (fun u s' hu => by
  obtain ⟨a, oe, vs, sI, H', cls, d, rfl, J, k, hne, ha, hz, hd, h1, na, os, ag, r, C, rfl, q⟩ := hu
  exact ⟨.ref a, _, Inv.track J k hne na ha hz hd os ag, rfl, q a na⟩) fun _ _ z => z⟩
def xvOf : Val → Option XV
  | .ex0 n => some (n, none)
  | .ex1 n f y => some (n, some (f, y))
  | _ => none
def xvV : XV → Val
  | (n, none) => .ex0 n
  | (n, some (f, y)) => .ex1 n f y
theorem xv_eq {x : Val} {c : XV} (h : xvOf x = some c) : x = xvV c := by
  cases x <;> first
    | (cases h; rfl)
    | cases h
/-- the exception that a wish tells of, tracked -/
theorem xv_vr {K : KZ} {fr : Addr → Prop} {H : Hp} {ms : List Addr} {st : Store} {d : Option Addr} (s : SR K fr H ms st) : ∀ {c : XV} {a : Addr}, XR K fr H ms d c → H a = none → VR K fr (upd H a (exv (cA K c.1) d a)) ms (.ref a) (xvV c)
  | (n, none), a, r, na => by
    have e : d = none := r
    subst e
    exact .ex0 upd_same
  | (n, some (f, y)), a, r, na => by
    obtain ⟨dd, v, rfl, h1, h2⟩ := r
    exact .ex1 upd_same ((upd_ne (ne_of_none h1 na)).trans h1) (h2.ex s (Ext.new _ na))
def LM (K : KZ) {Z : KS} (W : WZ Z) (te : FE) : L2.St → Hp → XK → Prop := fun σ H Q => ∃ fr ms ρ st, Wd (K.to W σ) fr H ms σ ρ st ∧ G (K.to W σ) W.w σ fr H ms (te ρ st) (fun x fr' H' ms' st' => ∃ c, xvOf x = some c ∧
  ∀ fr'' H'' ms'' d, Ext ms'.length fr' H' ms' fr'' H'' ms'' → SR (K.to W σ) fr'' H'' ms'' st' → XR (K.to W σ) fr'' H'' ms'' d c → Q (.ref (cA K c.1)) d H'')
abbrev DM (X : Cx) {Z : KS} (W : WZ Z) (e : Expr) (te : FE) : Prop := PMk X e (LM (kx X Z) W te)
def eMk1 (n f : Str) (ta : FA) : FE := fun ρ st => (ta ρ st).bind fun xs st1 => match xs with
  | [x] => .ok (.ex1 n f x) st1
  | _ => .bad
theorem LA.mono {K : KZ} {Z : KS} {W : WZ Z} {t : FA} {σ : L2.St} {H : Hp} {Q Q' : List V → Hp → Prop} (i : ∀ vs H, Q vs H → Q' vs H) (h : LA K W t σ H Q) : LA K W t σ H Q' := by
  obtain ⟨fr, ms, ρ, st, w, g⟩ := h
  exact ⟨fr, ms, ρ, st, w, g.mono fun xs st1 fr1 H1 ms1 _ _ p vs rs => i _ _ (p vs rs)⟩
section
variable {X : Cx} {Z : KS} {W : WZ Z} {e : Expr} {ta : FA} {te : FE} {x fl qual : Str} {st : Stmt} {fI : Addr} {fd : FuncData} {p pos kpos : Pos} {B Bm newId initNew initId : String} {tailN tail : List Value}
theorem le_mk1 {K : KZ} {n f : Str} {σ : L2.St} {H : Hp} {Q : XK} : LM K W (eMk1 n f ta) σ H Q → tMk1 (cA K n) f (LA K W ta) σ H Q := fun ⟨fr, ms, ρ, st, w, g⟩ =>
  ⟨fr, ms, ρ, st, w, g.bind.mono fun xs st1 fr1 H1 ms1 _ _ ⟨e1, s1, g1⟩ vs rs => by
    split at g1
    · obtain ⟨v, rfl, rv⟩ := vrs1 rs
      refine ⟨v, rfl, fun d hd => ?_⟩
      obtain ⟨c, hc, q⟩ := g1.now s1
      cases hc
      exact q _ _ _ (some d) (Ext.new _ hd) (s1.new hd) ⟨d, v, rfl, upd_same, rv.ex s1 (Ext.new _ hd)⟩
    · exact g1.elim⟩
/-- C(e), C's own __init__ keeping its one field -/
theorem m_mk1 (FB : BaseY B Bm newId initNew initId tailN tail) (T : XiOk X.K X.mg x fl newId tail qual st fI fd) (ok : FnOk X.prog X.w X.K X.mg X.base (L2.CX X.prog X.w) 1 fI fd ["self", fl] (spXi X.K (cA X.K x) newId tail fl)) (hr : Room 2 X.A) (ha : DA X W [e] ta) (hg : Gl X x := by rfl)
    (hdb : (x == ("__debug__" : Str)) = false := by decide) (he : starEach [e] X.env = (false, eval e X.env) :: starEach [] X.env := by rfl) (hpl : (backTo pos (starEach [] X.env)).any (·.1) = false := by rfl) : DM X W (.Call (.Name x p) [e] [] pos) (eMk1 x fl ta) :=
  FL.PMk.imp (pmk_oexB FB T.T T.iC T.tI ok hr T.b .nil (fun _ _ _ _ _ _ _ ⟨_, _, _, _, _, _, _, _, _, _, _, _, z⟩ => z.elim) hg T.gm ha hdb he hpl) fun σ H Q h => pure_mk1 T.T T.nf (fun _ _ _ _ i h => LA.mono i h) (le_mk1 h)
/-- C(f = e) -/
theorem m_mk1K {kws : List Keyword} (FB : BaseY B Bm newId initNew initId tailN tail) (T : XiOk X.K X.mg x fl newId tail qual st fI fd) (ok : FnOk X.prog X.w X.K X.mg X.base (L2.CX X.prog X.w) 1 fI fd ["self", fl] (spXi X.K (cA X.K x) newId tail fl)) (hr : Room 2 X.A) (ha : PK X kws (LA (kx X Z) W ta)) (hg : Gl X x := by rfl)
    (hdb : (x == ("__debug__" : Str)) = false := by decide) (hall : (backToKw pos (keywordEach kws X.env)).all (·.1.isSome) = true := by rfl) (hks : (backToKw pos (keywordEach kws X.env)).filterMap (·.1) = [fl] := by rfl)
    (hpl : ((backTo pos (starEach [] X.env)).any (·.1) || (backToKw pos (keywordEach kws X.env)).any (·.1.isNone)) = false := by rfl) : DM X W (.Call (.Name x p) [] kws pos) (eMk1 x fl ta) :=
  FL.PMk.imp (pmk_oexK FB T.T T.iC T.tI ok rfl hr T.bk (fun _ _ _ _ _ _ _ ⟨_, _, _, _, _, _, _, _, _, _, _, _, z⟩ => z.elim) hg T.gm ha hdb hall hks hpl) fun σ H Q h => pure_mk1 T.T T.nf (fun _ _ _ _ i h => LA.mono i h) (le_mk1 h)
/-- C(), without an own __init__ -/
theorem pmk_own0 {C : Addr} {bmB : List Value} {B newId initId : String} (F : ExcBaseFacts B newId initId bmB) (q : PySem.W.excIn X.K C bmB newId = true) (gC : X.mg x = some (.ref C)) (kC : PySem.W.keepIn X.K (.ref C) = true) (r : Raises X (.ref C)) (hg : Gl X x) (hdb : (x == ("__debug__" : Str)) = false := by decide) :
    PMk X (.Call (.Name x p) [] [] pos) (fun _ H Q => Q (.ref C) none H) := by
  intro pins s σ H Q I h
  refine wpAny_Call_Name_kw (ld_glob I hg gC ?_ hdb)
  refine PySem.W.callWith_K0 I.kIn kC ?_
  show wpAny _ _ (call (.ref C) []) _ _ _
  obtain ⟨bm, N, nm, qn, bs, hdct, sn, sub, ab, col, dd, k0, k1, k2, k3, k5, mN, hC, hN, hni, T⟩ := exc_obj I.kIn q
  refine wpAny_call_exc_subT F T hC hN hni (fun h' e hm => ?_) (Nat.zero_le _)
  exact mk_of I hm r h (I.hok.gone hm.new)
/-- what the written part says of an own class without __init__ -/
structure Xo0 (K : PySem.W.Frag) (mg : Str → Option Value) (n : Str) (newId : String) (tail : List Value) : Prop where
  gm : mg n = some (.ref (cA K n))
  q : PySem.W.excIn K (cA K n) tail newId = true
  kC : PySem.W.keepIn K (.ref (cA K n)) = true
  exC : PySem.W.subIn K (.ref (cA K n)) (.type "BaseException") = some true
  tyC : PySem.W.typeIn K (.ref (cA K n)) = some (.type "type")
def eMk0 (n : Str) : FE := fun _ st => .ok (.ex0 n) st
theorem m_mk0 (FB : BaseX B newId initId tail) (T : Xo0 X.K X.mg x newId tail) (hg : Gl X x := by rfl) (hdb : (x == ("__debug__" : Str)) = false := by decide) : DM X W (.Call (.Name x p) [] [] pos) (eMk0 x) :=
  FL.PMk.imp (pmk_own0 FB.F T.q T.gm T.kC (raises_own T.exC T.tyC) hg hdb) fun σ H Q ⟨fr, ms, ρ, st, w, g⟩ => by
    obtain ⟨c, hc, q⟩ := g.now w.sr
    cases hc
    exact q _ _ _ none (Ext.refl _ _ _ _) w.sr rfl
theorem mk0_x {n : Str} : ∀ ρ st y st', eMk0 n ρ st = .ok y st' → (xvOf y).isSome = true := fun ρ st y st' h => by
  cases h
  rfl
theorem d_exv (h : DM X W e te) (hx : ∀ ρ st x st', te ρ st = .ok x st' → (xvOf x).isSome = true) : DE X W e te := pe_imp (pe_mk h) fun σ H Q ⟨fr, ms, ρ, st, w, g⟩ => by
  refine ⟨fr, ms, ρ, st, w, ?_⟩
  cases hr : te ρ st with
  | bad =>
    rw [hr] at g
    exact g.elim
  | exc y st1 =>
    rw [hr] at g
    exact g
  | ok y st1 =>
    rw [hr] at g
    intro fr1 H1 ms1 e1 s1
    have hs := hx _ _ _ _ hr
    cases hc : xvOf y with
    | none =>
      rw [hc] at hs
      cases hs
    | some c =>
      refine ⟨c, rfl, fun fr2 H2 ms2 d e2 s2 r => ⟨_, rfl, fun a na => ?_⟩⟩
      rw [xv_eq hc] at g
      exact g _ _ _ ((e1.then e2).then (Ext.new _ na)) (s2.new na) _ (xv_vr s2 r na)
theorem mk1_x {n f : Str} : ∀ ρ st x st', eMk1 n f ta ρ st = .ok x st' → (xvOf x).isSome = true := fun ρ st x st' h => by
  unfold eMk1 at h
  cases hr : ta ρ st with
  | bad =>
    rw [hr] at h
    cases h
  | exc y st1 =>
    rw [hr] at h
    cases h
  | ok y st1 =>
    rw [hr] at h
    dsimp only [R.bind] at h
    split at h
    · cases h
      rfl
    · cases h
/-- raise -/
def sRaise (te : FE) : FS := fun ρ st => (te ρ st).to ρ fun x st1 => match xvOf x with
  | some c => .ex c ρ st1
  | none => .bad
theorem s_raise (hc : X.calm = true) (tk : Takes X W) (h : DM X W e te) : DS X W (.Raise (some e) none pos) (sRaise te) := ps_imp (ps_raise hc tk h) fun D σ H ⟨fr, ms, ρ, st, w, g⟩ =>
  ⟨fr, ms, ρ, st, w, (g.to w).mono fun x st1 fr1 H1 ms1 _ _ ⟨e1, s1, w1, g1⟩ => by
    cases hc : xvOf x with
    | none =>
      rw [hc] at g1
      exact g1.elim
    | some c =>
      rw [hc] at g1
      exact ⟨c, rfl, fun fr2 H2 ms2 d e2 s2 r => g1 _ _ _ σ d e2 rfl (w1.on e2 s2) r⟩⟩
end
/-! ### try -/
def endsAt (oi : Option Nat) (D : Ends) : Ends := match oi with
  | some i => { nx := fun σ' H' => D.nx (σ'.set i none) H', rt := D.rt, bk := fun σ' H' => D.bk (σ'.set i none) H', ct := fun σ' H' => D.ct (σ'.set i none) H' }
  | none => D
def putAt {α : Type} (oi : Option Nat) (σ : List (Option α)) (x : α) : List (Option α) := match oi with
  | some i => σ.set i (some x)
  | none => σ
/-- what the clauses wish of an exception of the body -/
def wHd (K : PySem.W.Frag) (Wout : WX) (D : Ends) : List (Value × Option Nat × TS) → WX
  | [] => Wout
  | (c, oi, ts) :: r => fun cls d σ H => ∃ b, PySem.W.exmOne K cls c = some b ∧ (b = true → ∃ C, cls = .ref C ∧ ∀ a, H a = none → ts (endsAt oi D) (putAt oi σ (.ref a)) (upd H a (exv C d a))) ∧ (b = false → wHd K Wout D r cls d σ H)
inductive HdX (X : Cx) : List ExceptHandler → List (Value × Option Nat × TS) → Prop
  | nil : HdX X [] []
  | plain {x : Str} {c : Value} {ts : TS} {b₀ : Stmt} {suite : List Stmt} {np pos' : Pos} {hds : List ExceptHandler} {l : List (Value × Option Nat × TS)} (hc : Names X x c) (hsu : ∀ (a : Addr) (pn : List (Addr × Obj)), PSs (X.suite a pn) (b₀ :: suite) ts) (r : HdX X hds l) :
      HdX X (.ExceptHandler (some (.Name x np)) none (b₀ :: suite) pos' :: hds) ((c, none, ts) :: l)
  | named {x n : Str} {i : Nat} {c : Value} {ts : TS} {b₀ : Stmt} {suite : List Stmt} {np pos' : Pos} {hds : List ExceptHandler} {l : List (Value × Option Nat × TS)} (hc : Names X x c) (hi : X.N[i]? = some n) (hln : X.env.kindOf n = some .local) (hsu : ∀ (a : Addr) (pn : List (Addr × Obj)), PSs (X.suite a pn) (b₀ :: suite) ts) (r : HdX X hds l) :
      HdX X (.ExceptHandler (some (.Name x np)) (some n) (b₀ :: suite) pos' :: hds) ((c, some i, ts) :: l)
section
variable {X : Cx} {pins : List (Addr × Obj)} {σ : L2.St} {H : Hp} {s : Shared}
theorem Inv.toSuite {a : Addr} (I : Inv X pins σ H s) : Inv (X.suite a (X.pn ++ pins)) [] σ H s :=
  ⟨L2.Cx.Ok.suite I.ok _ _, I.os, I.bare, I.base, I.loc, I.cell, I.free, I.freeC, fun p hp => I.pin p (by rw [List.append_nil] at hp; exact hp), I.hok, I.len⟩
theorem Inv.ofSuite {a : Addr} {pn' : List (Addr × Obj)} (I : Inv (X.suite a (X.pn ++ pins)) pn' σ H s) (ok : X.Ok) : Inv X pins σ H s :=
  ⟨ok, I.os, I.bare, I.base, I.loc, I.cell, I.free, I.freeC, fun p hp => I.pin p (List.mem_append_left _ hp), I.hok, I.len⟩
end
section
variable {X : Cx} {body : List Stmt} {h₀ : ExceptHandler} {hds : List ExceptHandler} {l : List (Value × Option Nat × TS)} {pos : Pos} {tb : WX → TS} {Wout : WX}
theorem ps_tryX (hs : X.stack = X.env :: X.outer) (hf : X.env.frame = some X.env.locals) (hN : X.N.Nodup) (hex : X.ex = []) (tk : Takes X Wout)
    (hb : ∀ (W : WX) (pn : List (Addr × Obj)) (xe : Value → Shared → Prop), Takes (X.tr pn xe) W → PassesOwn (model X.prog X.w) X.A X.env xe → PSs (X.tr pn xe) body (tb W))
    (hh : HdX X (h₀ :: hds) l) : PS X (.Try body (h₀ :: hds) [] [] pos) (fun D σ H => tb (wHd X.K Wout D l) D σ H) := by
  refine ⟨fun pins s σ H D I h => ?_⟩
  have ok := I.ok
  have hfr : X.A.frames = some (X.env :: X.outer) := by rw [ok.frames, hs]
  refine wpAny_Try_except ?_
  refine wpAny_mono ((hb (wHd X.K Wout D l) (X.pn ++ pins) (fun e s₁ => wpAny (model X.prog X.w) X.A (noteFrame e X.env) (fun _ s₂ => wpAny (model X.prog X.w) X.A (setFlight e none) (fun _ s₃ =>
    wpAny (model X.prog X.w) X.A (handleBy e X.env (h₀ :: hds)) (SP X pins D) X.xe s₃) X.xe s₂) X.xe s₁) (fun u s' xx => ?_) PassesOwn.looking).run [] s σ H D (L2.Inv.toTry I _) h) (fun f s1 hsp => ?_) (fun e s1 he => he)
  · obtain ⟨a, B, sI, pins', σ', H', cls, d, rfl, J', nb, up, sky, na, os, ag, w⟩ := xx
    have J : Inv X pins σ' H' sI := L2.Inv.ofTry J' ok
    have sky' : Sky B (X.env :: X.outer) a (Zc cls d) X.env.locals s'.heap := by rw [← hs]; exact sky
    show wpAny (model X.prog X.w) X.A (noteFrame (.ref a) X.env) _ _ _
    refine Sky.land Zc.steady hfr hf sky' fun h3 fl3 up3 => ?_
    have J3 : Inv X pins σ' H' { s' with heap := h3 } := J.landed nb fl3.1 (up.trans up3) os ag
    obtain ⟨oe3, vs3, he3, hz3, hd3⟩ := fl3.there
    have notFr : ∀ {h : Heap} {o : Obj} {vs : Array Value}, h.FunFrames B (X.env :: X.outer) → h.get? a = some o → o.data = .fields vs → a ∉ frs (X.env :: X.outer) := fun {h o vs} ff e dd hm => by
      obtain ⟨_, o', e', hnf⟩ := ff.mem hm
      rw [e] at e'; cases e'
      exact hnf _ dd
    have nfr := notFr fl3.2.2.1 he3 hd3
    have hne : sI.heap.get? a = none := by
      cases e : sI.heap.get? a with
      | none => rfl
      | some o =>
        have q := nb a o e (by rw [hs]; exact nfr)
        have q2 := fl3.2.1
        rw [q] at q2
        cases q2
    have S3 : Inv (X.suite a (X.pn ++ pins)) [] σ' H' { s' with heap := h3 } := Inv.toSuite J3
    have go : ∀ {hds' : List ExceptHandler} {l' : List (Value × Option Nat × TS)}, HdX X hds' l' → wHd X.K Wout D l' cls d σ' H' →
        wpAny (model X.prog X.w) X.A (handleBy (.ref a) X.env hds') (SP X pins D) X.xe { s' with heap := h3 } := by
      intro hds' l' hk
      have LT : PySem.W.Looks (model X.prog X.w) h3 (typeOf (.ref a)) cls := fun A Q E s k q => wpAny_typeOf_ref (k _ _ he3) (by rw [hz3.1]; exact q)
      have test : ∀ {x : Str} {c : Value} {np : Pos} {Q : Value → Shared → Prop} {E : Value → Shared → Prop}, Names X x c → Q c { s' with heap := h3 } → wpAny (model X.prog X.w) (X.A.mark (some (.ref a))) (eval (.Name x np) X.env) Q E { s' with heap := h3 } := fun {x c np Q E} hc q => by
        obtain ⟨hg, hdbg, hm | ⟨hm, hv, hnn⟩⟩ := hc
        · exact ld_glob (X := X.suite a (X.pn ++ pins)) S3 hg hm q hdbg
        · exact ld_blt (X := X.suite a (X.pn ++ pins)) S3 hg hm hv q hnn hdbg
      induction hk with
      | nil =>
        intro w
        refine wpAny_handleBy_nil ?_
        obtain ⟨k1, k2, k3, oe, vs, T, oT, ts', he, hz, hd, h1, hr⟩ := id fl3
        unfold PySem.passOn
        refine wpAny_bind (wpAny_field he hd h1 ?_)
        rw [if_neg (show ¬ ((Value.ref T == Value.none) = true) from by simp)]
        have fin : wpAny (model X.prog X.w) X.A (setFlight (.ref a) X.env.frame) (fun _ s4 => wpAny (model X.prog X.w) X.A (throw (.ref a) : Sem Flow) (SP X pins D) X.xe s4) X.xe { s' with heap := h3 } := by
          rw [hf]
          refine HandSPX.setFlight_upZ fl3 fun h4 hh4 up4 => wpAny_throw (tk _ _ ?_)
          exact ⟨a, B, sI, pins, σ', H', cls, d, rfl, J, nb, (up.trans up3).trans up4, .inr (.inr (by rw [hs]; exact hh4)), na, os, ag, w⟩
        first
          | exact wpAny_bind (wpAny_pure (wpAny_bind fin))
          | exact wpAny_bind fin
      | @plain x c ts b₀ suite np pos' hds2 l2 hc hsu r ih =>
        intro w
        obtain ⟨b, hb1, hyes, hno⟩ := w
        have LM := PySem.W.exm_one (M := model X.prog X.w) (J3.kIn) LT hb1
        refine wpAny_handleBy_cons (codeAny_handlers_test ?_) (by intro q; cases q)
        refine test hc (LM.here ?_)
        cases b with
        | true =>
          obtain ⟨C, rfl, hy⟩ := hyes rfl
          refine codeAny_handlers_suite ?_
          refine HandSPX.lands_againZ fl3 fun h4 fl4 up4 => ?_
          have J4 : Inv X pins σ' H' { s' with heap := h4 } := J.landed nb fl4.1 ((up.trans up3).trans up4) os ag
          obtain ⟨oe4, vs4, he4, hz4, hd4⟩ := fl4.there
          have S4 := Inv.toSuite (a := a) (Inv.trackAt (s4 := { s' with heap := h4 }) J J4 hne na hex he4 hz4 hd4)
          refine wpAny_mono ((hsu a (X.pn ++ pins)).run [] _ _ _ _ S4 (hy a na)) (fun f s6 hsp => ?_) (fun _ _ z => False.elim z)
          cases f with
          | next =>
            obtain ⟨σ6, H6, S6, q6⟩ := hsp
            exact ⟨_, _, Inv.ofSuite S6 ok, q6⟩
          | brk =>
            obtain ⟨σ6, H6, S6, q6⟩ := hsp
            exact ⟨_, _, Inv.ofSuite S6 ok, q6⟩
          | cont =>
            obtain ⟨σ6, H6, S6, q6⟩ := hsp
            exact ⟨_, _, Inv.ofSuite S6 ok, q6⟩
          | ret u =>
            obtain ⟨v6, σ6, H6, S6, r6, q6⟩ := hsp
            exact ⟨_, _, _, Inv.ofSuite S6 ok, r6, q6⟩
        | false =>
          show wpAny _ X.A (handleBy (.ref a) X.env hds2) _ _ _
          exact ih (hno rfl)
      | @named x n i c ts b₀ suite np pos' hds2 l2 hc hi hln hsu r ih =>
        intro w
        obtain ⟨b, hb1, hyes, hno⟩ := w
        have LM := PySem.W.exm_one (M := model X.prog X.w) (J3.kIn) LT hb1
        have hloc : Loc X.env.scope n := .inl hln
        refine wpAny_handleBy_cons (codeAny_handlers_test ?_) (by intro q; cases q)
        refine test hc (LM.here ?_)
        cases b with
        | true =>
          obtain ⟨C, rfl, hy⟩ := hyes rfl
          refine codeAny_handlers_suite_as ?_
          refine HandSPX.lands_againZ fl3 fun h4 fl4 up4 => ?_
          have J4 : Inv X pins σ' H' { s' with heap := h4 } := J.landed nb fl4.1 ((up.trans up3).trans up4) os ag
          obtain ⟨oe4, vs4, he4, hz4, hd4⟩ := fl4.there
          have S4 := Inv.toSuite (a := a) (Inv.trackAt (s4 := { s' with heap := h4 }) J J4 hne na hex he4 hz4 hd4)
          refine store_ok (X := X.suite a (X.pn ++ pins)) (v := .ref a) S4 hN hi hloc rfl (fun s5 S5 => ?_) (.inr hln)
          refine wpAny_mono ((hsu a (X.pn ++ pins)).run [] s5 _ _ _ S5 (hy a na)) (fun f s6 hsp => ?_) (fun _ _ z => False.elim z)
          have end_ : ∀ {σ6 : L2.St} {H6 : Hp} {Q : Shared → Prop}, Inv (X.suite a (X.pn ++ pins)) [] σ6 H6 s6 → (∀ s7, Inv X pins (σ6.set i none) H6 s7 → Q s7) →
              wpAny (model X.prog X.w) X.A (do bindName X.env n .none; unbindBehindTheSuite X.env n pos') (fun _ s7 => Q s7) X.xe s6 := fun {σ6 H6 Q} S6 hq => gone_ok (Inv.ofSuite S6 ok) hN hi hln hq
          cases f with
          | next =>
            obtain ⟨σ6, H6, S6, q6⟩ := hsp
            exact end_ S6 fun s7 J7 => ⟨_, _, J7, q6⟩
          | brk =>
            obtain ⟨σ6, H6, S6, q6⟩ := hsp
            exact end_ S6 fun s7 J7 => ⟨_, _, J7, q6⟩
          | cont =>
            obtain ⟨σ6, H6, S6, q6⟩ := hsp
            exact end_ S6 fun s7 J7 => ⟨_, _, J7, q6⟩
          | ret u =>
            obtain ⟨v6, σ6, H6, S6, r6, q6⟩ := hsp
            exact end_ S6 fun s7 J7 => ⟨_, _, _, J7, r6, q6⟩
        | false =>
          show wpAny _ X.A (handleBy (.ref a) X.env hds2) _ _ _
          exact ih (hno rfl)
    exact go hh w
  · cases f with
    | next =>
      obtain ⟨σ', H', J', q⟩ := hsp
      exact wpAny_execs_nil ⟨σ', H', L2.Inv.ofTry J' ok, q⟩
    | brk =>
      obtain ⟨σ', H', J', q⟩ := hsp
      exact ⟨σ', H', L2.Inv.ofTry J' ok, q⟩
    | cont =>
      obtain ⟨σ', H', J', q⟩ := hsp
      exact ⟨σ', H', L2.Inv.ofTry J' ok, q⟩
    | ret u =>
      obtain ⟨v, σ', H', J', r, q⟩ := hsp
      exact ⟨v, σ', H', L2.Inv.ofTry J' ok, r, q⟩
end
/-- which class lies under which -/
abbrev ClsT := Str → Str → Option Bool
def TbOk (K : PySem.W.Frag) (tb : ClsT) : Prop := ∀ n m b, tb n m = some b → PySem.W.exmOne K (.ref (cA K n)) (.ref (cA K m)) = some b
def S.unname (r : S) (oi : Option Nat) : S := match oi with
  | none => (match r with
    | .ex _ _ _ => .bad
    | r => r)
  | some i => (match r with
    | .nx ρ st => .nx (ρ.set i none) st
    | .bk ρ st => .bk (ρ.set i none) st
    | .ct ρ st => .ct (ρ.set i none) st
    | .rt x st => .rt x st
    | _ => .bad)
def hnd (tb : ClsT) (x : XV) (ρ : Env) (st : Store) : List (Str × Option Nat × FS) → S
  | [] => .ex x ρ st
  | (c, oi, u) :: r => (match tb x.1 c with
    | some true => (u (putAt oi ρ (xvV x)) st).unname oi
    | some false => hnd tb x ρ st r
    | none => .bad)
def sTry (tb : ClsT) (hs : List (Str × Option Nat × FS)) (t : FS) : FS := fun ρ st => match t ρ st with
  | .ex x ρ1 st1 => hnd tb x ρ1 st1 hs
  | r => r
theorem Wd.unput {K : KZ} {fr : Addr → Prop} {H : Hp} {ms : List Addr} {σ : L2.St} {ρ : Env} {st : Store} (w : Wd K fr H ms σ ρ st) (i : Nat) : Wd K fr H ms (σ.set i none) (ρ.set i none) st := by
  refine ⟨by rw [List.length_set, List.length_set, w.len], fun j y hj => ?_, w.sr⟩
  by_cases e : i = j
  · subst e
    by_cases hl : i < ρ.length
    · rw [List.getElem?_set_self hl] at hj
      cases hj
    · rw [List.getElem?_eq_none (by rw [List.length_set]; omega)] at hj
      cases hj
  · rw [List.getElem?_set_ne e] at hj
    rw [List.getElem?_set_ne e]
    exact w.env j y hj
theorem GS.unname {K : KZ} {Z : KS} {W : WZ Z} {fr : Addr → Prop} {H : Hp} {ms : List Addr} {D : Ends} : ∀ {oi : Option Nat} {r : S}, (∀ i, oi = some i → i ∉ W.cs) → GS K W fr H ms (r.unname oi) D → GS K W.no fr H ms r (endsAt oi D)
  | none, .nx ρ st, _, g => g
  | none, .rt ρ st, _, g => g
  | none, .bk ρ st, _, g => g
  | none, .ct ρ st, _, g => g
  | none, .ex _ _ _, _, g => g.elim
  | none, .bad, _, g => g
  | some i, .nx ρ st, h, g => fun fr' H' ms' σ' e' m w => g _ _ _ _ e' ((gamOf_put (h i rfl)).trans m) (w.unput i)
  | some i, .rt ρ st, _, g => g
  | some i, .bk ρ st, h, g => fun fr' H' ms' σ' e' m w => g _ _ _ _ e' ((gamOf_put (h i rfl)).trans m) (w.unput i)
  | some i, .ct ρ st, h, g => fun fr' H' ms' σ' e' m w => g _ _ _ _ e' ((gamOf_put (h i rfl)).trans m) (w.unput i)
  | some i, .ex _ _ _, _, g => g.elim
  | some i, .bad, _, g => g
theorem Wd.putAt {K : KZ} {fr : Addr → Prop} {H : Hp} {ms : List Addr} {σ : L2.St} {ρ : Env} {st : Store} {v : V} {x : Val} (w : Wd K fr H ms σ ρ st) (h : VR K fr H ms v x) : ∀ oi : Option Nat, Wd K fr H ms (FL.putAt oi σ v) (FL.putAt oi ρ x) st
  | none => w
  | some i => w.put h i
theorem gamOf_putAt {Z : KS} {W : WZ Z} {σ : L2.St} {v : V} : ∀ {oi : Option Nat}, (∀ i, oi = some i → i ∉ W.cs) → gamOf W (FL.putAt oi σ v) = gamOf W σ
  | none, _ => rfl
  | some i, h => gamOf_put (h i rfl)
abbrev lH (K : KZ) {Z : KS} (W : WZ Z) (hs : List (Str × Option Nat × FS)) : List (Value × Option Nat × TS) := hs.map fun p => (.ref (cA K p.1), p.2.1, LS K W.no p.2.2)
theorem hnd_at {K : KZ} {Z : KS} {Wout : WZ Z} {tb : ClsT} (ht : TbOk K tb) {D : Ends} {x : XV} {ρ : Env} {st : Store} {σ : L2.St} {fr : Addr → Prop} {H : Hp} {ms : List Addr} {d : Option Addr} (m : gamOf Wout σ = K.gam) (w : Wd K fr H ms σ ρ st) (r : XR K fr H ms d x) :
    ∀ hs : List (Str × Option Nat × FS), (∀ p ∈ hs, ∀ i, p.2.1 = some i → i ∉ Wout.cs) → GS K Wout fr H ms (hnd tb x ρ st hs) D → wHd K Wout D (lH K Wout hs) (.ref (cA K x.1)) d σ H
  | [], _, g => g _ _ _ σ d (Ext.refl _ _ _ _) m w r
  | (c, oi, u) :: l, hc, g => by
    unfold hnd at g
    split at g
    · next h =>
      refine ⟨true, ht _ _ _ h, fun _ => ⟨_, rfl, fun a na => ?_⟩, fun z => by cases z⟩
      have e := Ext.new (fr := fr) (ms := ms) (o := exv (cA K x.1) d a) ms.length na
      have hoi : ∀ i, oi = some i → i ∉ Wout.cs := hc _ List.mem_cons_self
      have m2 : gamOf Wout.no (FL.putAt oi σ (V.ref a)) = K.gam := (gamOf_putAt (W := Wout.no) hoi).trans m
      refine ⟨fr, ms, FL.putAt oi ρ (xvV x), st, ?_, ?_⟩
      · rw [KZ.to_eq m2]
        exact (w.on e (w.sr.new na)).putAt (xv_vr w.sr r na) oi
      · rw [KZ.to_eq m2]
        exact GS.at (GS.unname hoi g) e
    · next h => exact ⟨false, ht _ _ _ h, (fun z => by cases z), fun _ => hnd_at ht m w r l (fun p hp => hc p (List.mem_cons_of_mem _ hp)) g⟩
    · exact g.elim
theorem le_try {K : KZ} {Z : KS} {Wout : WZ Z} {tb : ClsT} (ht : TbOk K tb) {hs : List (Str × Option Nat × FS)} (hc : ∀ p ∈ hs, ∀ i, p.2.1 = some i → i ∉ Wout.cs) {t : FS} {D : Ends} {σ : L2.St} {H : Hp} (h : LS K Wout (sTry tb hs t) D σ H) : LS K (Wout.wi (wHd K Wout D (lH K Wout hs))) t D σ H := by
  obtain ⟨fr, ms, ρ, st, w, g⟩ := h
  refine ⟨fr, ms, ρ, st, w, ?_⟩
  unfold sTry at g
  cases hr : t ρ st with
  | ex x ρ1 st1 =>
    rw [hr] at g
    refine fun fr' H' ms' σ' d e' m' w' r => ?_
    exact hnd_at (K := K.to Wout σ) (Wout := Wout) ht (D := D) m' w' r hs hc (GS.at g e')
  | nx ρ1 st1 =>
    rw [hr] at g
    exact g
  | rt x st1 =>
    rw [hr] at g
    exact g
  | bk ρ1 st1 =>
    rw [hr] at g
    exact g
  | ct ρ1 st1 =>
    rw [hr] at g
    exact g
  | bad =>
    rw [hr] at g
    exact g
structure DH (X : Cx) {Z : KS} (W : WZ Z) (hds : List ExceptHandler) (hs : List (Str × Option Nat × FS)) : Prop where
  ok : HdX X hds (lH (kx X Z) W hs)
  cs : ∀ p ∈ hs, ∀ i, p.2.1 = some i → i ∉ W.cs
theorem ZOk.tr {X : Cx} {Z : KS} {W V : WZ Z} (h : ZOk X W) (e : V.z = W.z) (pn : List (Addr × Obj)) (xe : Value → Shared → Prop) : ZOk (X.tr pn xe) V :=
  ⟨fun c i q => h.at_ c i (e ▸ q), fun c i q => h.nb c i (e ▸ q), fun c i q => h.nf c i (e ▸ q)⟩
section
variable {X : Cx} {Z : KS} {W : WZ Z} {body : List Stmt} {h₀ : ExceptHandler} {hds : List ExceptHandler} {hs : List (Str × Option Nat × FS)} {pos : Pos} {t : FS} {tb : ClsT}
theorem s_try (ht : TbOk X.K tb) (hN : X.N.Nodup) (tk : Takes X W) (hb : ∀ (V : WZ Z) (pn : List (Addr × Obj)) (xe : Value → Shared → Prop), Takes (X.tr pn xe) V → PassesOwn (model X.prog X.w) X.A X.env xe → V.z = W.z → V.cs = W.cs → DSs (X.tr pn xe) V body t)
    (hh : DH X W (h₀ :: hds) hs) (hst : X.stack = X.env :: X.outer := by rfl) (hf : X.env.frame = some X.env.locals := by rfl) (hex : X.ex = [] := by rfl) : DS X W (.Try body (h₀ :: hds) [] [] pos) (sTry tb hs t) :=
  ps_imp (ps_tryX (tb := fun V => LS (kx X Z) (W.wi V) t) hst hf hN hex tk (fun V pn xe tk' po => hb (W.wi V) pn xe tk' po rfl rfl) hh.ok) fun D σ H => le_try ht hh.cs
theorem h_nil : DH X W [] [] := ⟨.nil, fun p z => (nomatch z)⟩
theorem h_plain {x : Str} {u : FS} {b₀ : Stmt} {suite : List Stmt} {np pos' : Pos} (hm : X.mg x = some (.ref (cA X.K x))) (hsu : ∀ (a : Addr) (pn : List (Addr × Obj)), DSs (X.suite a pn) W.no (b₀ :: suite) u) (r : DH X W hds hs) (hg : Gl X x := by rfl) (hdb : (x == ("__debug__" : Str)) = false := by decide) :
    DH X W (.ExceptHandler (some (.Name x np)) none (b₀ :: suite) pos' :: hds) ((x, none, u) :: hs) := ⟨.plain ⟨hg, hdb, .inl hm⟩ hsu r.ok, List.forall_mem_cons.mpr ⟨fun i z => (nomatch z), r.cs⟩⟩
theorem h_named (i : Nat) {x n : Str} {u : FS} {b₀ : Stmt} {suite : List Stmt} {np pos' : Pos} (hm : X.mg x = some (.ref (cA X.K x))) (hsu : ∀ (a : Addr) (pn : List (Addr × Obj)), DSs (X.suite a pn) W.no (b₀ :: suite) u) (r : DH X W hds hs) (hi : X.N[i]? = some n := by rfl) (hln : X.env.kindOf n = some .local := by rfl) (hg : Gl X x := by rfl) (hdb : (x == ("__debug__" : Str)) = false := by decide) (hcs : i ∉ W.cs := by exact not_cs (by assumption) (by decide)) :
    DH X W (.ExceptHandler (some (.Name x np)) (some n) (b₀ :: suite) pos' :: hds) ((x, some i, u) :: hs) := ⟨.named ⟨hg, hdb, .inl hm⟩ hi hln hsu r.ok, List.forall_mem_cons.mpr ⟨fun j z => (by cases z; exact hcs), r.cs⟩⟩
end
end FL
namespace FL
open PySem PySem.Spec PyProof.Rows L2
/-! ### a name of the module: a class -/
theorem d_gl {X : Cx} {Z : KS} {W : WZ Z} {x : Str} {pos : Pos} (hm : X.mg x = some (.ref (cA X.K x))) (hg : Gl X x := by rfl) (hd : (x == ("__debug__" : Str)) = false := by decide) : DE X W (.Name x pos) (eC (.gl x)) := d_glob hm (v := .ref (cA X.K x)) rfl (fun _ _ _ _ => .gl x) hg hd
/-! ### what is asked of exceptions -/
structure XcOk (K : PySem.W.Frag) (n : Str) : Prop where
  ga : PySem.W.findIn K (.ref (cA K n)) "__getattribute__" = some (some (.builtin "BaseException.__getattribute__"))
  gg : PySem.W.findIn K (.ref (cA K n)) "__getattr__" = some none
  exC : PySem.W.subIn K (.ref (cA K n)) (.type "BaseException") = some true
  hdC : PySem.W.hasDictIn K (cA K n) = true
  cl : PySem.W.findIn K (.ref (cA K n)) "__class__" = some (some (.builtin "object.__class__"))
  hm : PySem.W.mroIn K (cA K n) (.type "object") = some true
  isC : PySem.W.isClsIn K (cA K n) = true
  ty : PySem.W.typeIn K (.ref (cA K n)) = some (.type "type")
  hn : PySem.W.specialIn K (.builtin "object.__class__") "__get__" = some (some (.builtin "getset_descriptor.__get__"))
  htk : PySem.W.takesIn K (.builtin "object.__class__") = some true
/-- a tracked exception, in the heap -/
theorem exv_inst {X : Cx} {pins : List (Addr × Obj)} {σ : L2.St} {H : Hp} {s : Shared} {a C : Addr} {d : Option Addr} (I : Inv X pins σ H s) (h : H a = some (exv C d a)) (hd : d = none ∨ ∃ dd fs, d = some dd ∧ H dd = some (.xd fs)) :
    ∃ ox od, PySem.W.InstAt s.heap a ox C od ∧ ∀ dd fs f v, d = some dd → H dd = some (.xd fs) → fs.lookup f = some v → ∃ (o : Obj) (u : Value), od = some o ∧ PySem.W.lookIn f o = some (some u) ∧ RelV v u := by
  obtain ⟨oe, vs, ha, hz, hv⟩ := exv_at I.hok h
  rcases hd with rfl | ⟨dd, fs, rfl, hdd⟩
  · refine ⟨oe, none, ⟨ha, hz.1, by unfold PySem.W.notCls; rw [hv] <;> rfl, by rw [hz.2]; trivial⟩, fun dd fs f v e => by cases e⟩
  · have hx : ObjOk X.prog X.w H s.heap dd (.xd fs) := I.hok dd _ hdd
    obtain ⟨mA, hns, hr⟩ := hx
    obtain ⟨od, ho, hl⟩ := lookIn_ns hns
    refine ⟨oe, some od, ⟨ha, hz.1, by unfold PySem.W.notCls; rw [hv] <;> rfl, by rw [hz.2]; exact ho⟩, fun dd' fs' f v e1 e2 e3 => ?_⟩
    cases e1
    rw [hdd] at e2
    cases e2
    obtain ⟨u, hu, ru⟩ := RelO.some_of (v := v) (o := mA f) (by rw [← e3]; exact hr f)
    exact ⟨od, u, rfl, by rw [hl, hu], ru⟩
/-- e.f -/
def eXf (cs : List Str) (f : Str) (te : FE) : FE := fun ρ st => (te ρ st).bind fun x st1 => match x with
  | .ex1 n g y => bif cs.contains n && decide (g = f) then .ok y st1 else .bad
  | _ => .bad
def tXv (K : PySem.W.Frag) (f : Str) (te : TE) : TE := fun σ H Q => te σ H fun x H1 => ∃ a n dd v, x = .ref a ∧ H1 a = some (exv (cA K n) (some dd) a) ∧ H1 dd = some (.xd [(f, v)]) ∧ XcOk K n ∧ PySem.W.findIn K (.ref (cA K n)) f = some none ∧ Q v H1
theorem pe_xv {X : Cx} {e : Expr} {te : TE} {f : Str} {pos : Pos} (he : PE X e te) (hb : attributeBase e f X.env (eval e X.env) = eval e X.env := by rfl) : PE X (.Attribute e f pos) (tXv X.K f te) := by
  refine ⟨fun pins s σ H Q I h => ?_⟩
  refine attr_of hb (thn (he.run pins s σ H _ I h) fun u s1 hh => ?_)
  obtain ⟨x, H1, I1, rx, a, n, dd, v, rfl, ha, hd, T, hno, q⟩ := hh
  obtain rfl : u = Value.ref a := rx
  obtain ⟨ox, od, J, hl⟩ := exv_inst I1 ha (.inr ⟨dd, _, rfl, hd⟩)
  obtain ⟨o, u, rfl, hu, ru⟩ := hl dd _ f v rfl hd (by simp [List.lookup])
  exact HandSPX.exc_get I1.kIn J T.ga T.gg T.exC (PySem.W.findObj_own T.hdC hno rfl hu) (handed_of ru) ⟨v, H1, I1.tok _, ru, q⟩
theorem d_xf {X : Cx} {Z : KS} {W : WZ Z} {e : Expr} {te : FE} {pos : Pos} (cs : List Str) (f : Str) (hC : ∀ n ∈ cs, XcOk X.K n ∧ PySem.W.findIn X.K (.ref (cA X.K n)) f = some none) (he : DE X W e te) (hb : attributeBase e f X.env (eval e X.env) = eval e X.env := by rfl) : DE X W (.Attribute e f pos) (eXf cs f te) :=
  pe_imp (pe_xv he hb) fun σ H Q ⟨fr, ms, ρ, st, w, g⟩ => ⟨fr, ms, ρ, st, w, g.bind.mono fun x st1 fr1 H1 ms1 _ _ ⟨e1, s1, g1⟩ v rv => by
    cases x with
    | ex1 n g' y =>
      obtain ⟨hb, g2⟩ := (show G ((kx X Z).to W σ) W σ fr1 H1 ms1 (bif cs.contains n && decide (g' = f) then R.ok y st1 else .bad) (PV ((kx X Z).to W σ) Q) from g1).cond
      obtain ⟨h1, h2⟩ := Bool.and_eq_true_iff.mp hb
      have h2 := of_decide_eq_true h2
      subst h2
      cases rv with
      | ex1 h3 h4 r => exact ⟨_, n, _, _, rfl, h3, h4, (hC n (by simpa using h1)).1, (hC n (by simpa using h1)).2, g2.now s1 _ r⟩
    | _ => exact g1.elim⟩
/-! ### isinstance(e, C), isinstance(e, (C, ..)) of an exception -/
abbrev ClsB := Str → String → Option Bool
def isOne (tb : ClsT) (tB : ClsB) (n : Str) : Val → Option Bool
  | .gl m => tb n m
  | .ty T => tB n T
  | _ => none
def isAny (tb : ClsT) (tB : ClsB) (n : Str) : List Val → Option Bool
  | [] => some false
  | c :: r => (match isOne tb tB n c with
    | some true => some true
    | some false => isAny tb tB n r
    | none => none)
structure TbI (K : PySem.W.Frag) (tb : ClsT) (tB : ClsB) : Prop where
  own : ∀ n m b, tb n m = some b → XcOk K n ∧ PySem.W.kitOne K (.ref (cA K n)) (.ref (cA K m)) = some b
  blt : ∀ n T b, tB n T = some b → XcOk K n ∧ PySem.W.kitOne K (.ref (cA K n)) (.type T) = some b
def rIsX (K : PySem.W.Frag) : List V → Hp → VK → Prop := fun xs H Q => ∃ a n d c b, xs = [.ref a, c] ∧ H a = some (exv (cA K n) d a) ∧ (d = none ∨ ∃ dd fs, d = some dd ∧ H dd = some (.xd fs)) ∧ XcOk K n ∧
  ((∃ u, (∀ w, RelV c w → w = u) ∧ PySem.W.kitOne K (.ref (cA K n)) u = some b) ∨ ∃ p ws, c = .ref p ∧ SqT K H p ws ∧ ∀ vs, Vals ws vs → PySem.W.kitAny K (.ref (cA K n)) vs = some b) ∧ Q (.bl b) H
theorem call_isX {X : Cx} : CallR X (.builtin "isinstance") (rIsX X.K) := by
  intro pins s σ H xs us Q I r h
  obtain ⟨a, n, d, c, b, rfl, ha, hd, T, hk, q⟩ := h
  cases r with
  | cons rx rr =>
    cases rr with
    | cons rt rr =>
      cases rr
      cases rx
      obtain ⟨ox, od, J, _⟩ := exv_inst I ha hd
      have Z := PySem.W.kitx_exc (K := X.K) (x := a) (ox := ox) (C := cA X.K n) (od := od) T.isC T.ga T.gg T.exC T.cl T.hn T.htk T.hm
      rcases hk with ⟨u, hu, hk⟩ | ⟨p, ws, rfl, hs, hk⟩
      · have e := hu _ rt
        subst e
        exact PySem.W.kia_one Z I.kIn J hk (fun z => nomatch z) fun tk => ⟨.bl b, H, I.kept (t' := tk) fun _ _ z => z, rfl, q⟩
      · cases rt
        obtain ⟨its, rv, ⟨o, ho, hc, m, hd'⟩, hz⟩ := I.tuple hs
        obtain ⟨cls, dct, data, sl⟩ := o
        dsimp only at hc hd'
        subst hc hd'
        exact PySem.W.kia_tup Z I.kIn J ho (hk _ rv) (fun z => nomatch z) fun tk => ⟨.bl b, H, I.kept (t' := tk) fun _ _ z => z, rfl, q⟩
/-- the classes that are asked for -/
def isCs (tb : ClsT) (tB : ClsB) (n : Str) : Val → Option Bool
  | .tup cs => (match cs with
    | [] => none
    | cs => isAny tb tB n cs)
  | c => isOne tb tB n c
def fIsX (tb : ClsT) (tB : ClsB) : FL1 := fun xs st => match xs with
  | [x, c] => (match xvOf x with
    | some p => (match isCs tb tB p.1 c with
      | some b => some (.bl b, st)
      | none => none)
    | none => none)
  | _ => none
theorem isOne_at {K : KZ} {tb : ClsT} {tB : ClsB} (ht : TbI K tb tB) {n : Str} {c : Val} {b : Bool} {fr : Addr → Prop} {H : Hp} {ms : List Addr} {v : V} (h : isOne tb tB n c = some b) (r : VR K fr H ms v c) :
    XcOk K n ∧ ∃ u, (∀ w, RelV v w → w = u) ∧ PySem.W.kitOne K (.ref (cA K n)) u = some b := by
  unfold isOne at h
  split at h
  · cases r
    obtain ⟨h1, h2⟩ := ht.own _ _ _ h
    exact ⟨h1, _, fun w z => z, h2⟩
  · cases r
    obtain ⟨h1, h2⟩ := ht.blt _ _ _ h
    exact ⟨h1, _, fun w z => z, h2⟩
  · cases h
theorem isAny_at {K : KZ} {tb : ClsT} {tB : ClsB} (ht : TbI K tb tB) {n : Str} {fr : Addr → Prop} {H : Hp} {ms : List Addr} : ∀ {cs : List Val} {ws : List V} {b : Bool}, isAny tb tB n cs = some b → VRs K fr H ms ws cs → ∀ vs, Vals ws vs → PySem.W.kitAny K (.ref (cA K n)) vs = some b
  | [], _, _, h, .nil, _, z => by
    cases h
    cases z
    rfl
  | c :: cs, _, _, h, .cons a r, _, z => by
    cases z with
    | @cons _ z0 _ zs z1 z2 =>
    show (match PySem.W.kitOne K (.ref (cA K n)) z0 with
      | some true => some true
      | some false => PySem.W.kitAny K (.ref (cA K n)) zs
      | none => none) = some _
    unfold isAny at h
    split at h
    · next h1 =>
      cases h
      obtain ⟨_, u, hu, hk⟩ := isOne_at ht h1 a
      rw [hu _ z1, hk]
    · next h1 =>
      obtain ⟨_, u, hu, hk⟩ := isOne_at ht h1 a
      rw [hu _ z1, hk]
      exact isAny_at ht h r _ z2
    · cases h
theorem isAny_ok {K : KZ} {tb : ClsT} {tB : ClsB} (ht : TbI K tb tB) {n : Str} {c : Val} {cs : List Val} {b : Bool} (h : isAny tb tB n (c :: cs) = some b) {fr : Addr → Prop} {H : Hp} {ms : List Addr} {ws : List V} (r : VRs K fr H ms ws (c :: cs)) : XcOk K n := by
  cases r with
  | cons a r =>
    unfold isAny at h
    split at h
    · next h1 => exact (isOne_at ht h1 a).1
    · next h1 => exact (isOne_at ht h1 a).1
    · cases h
theorem isCs_eq {tb : ClsT} {tB : ClsB} {n : Str} {c : Val} {b : Bool} (h : isCs tb tB n c = some b) : (∃ c0 cs, c = .tup (c0 :: cs) ∧ isAny tb tB n (c0 :: cs) = some b) ∨ isOne tb tB n c = some b := by
  cases c with
  | tup cs =>
    cases cs with
    | nil => cases h
    | cons c0 cs => exact .inl ⟨c0, cs, rfl, h⟩
  | _ => exact .inr h
theorem rl_isX {K : KZ} {tb : ClsT} {tB : ClsB} (ht : TbI K tb tB) : RLF K (rIsX K) (fIsX tb tB) := fun γ fr H ms st xs sxs z st' Q s rx h q => by
  unfold fIsX at h
  split at h
  · next x c =>
    obtain ⟨v, u, rfl, rv, ru⟩ := vrs2 rx
    split at h
    · next p hp =>
      split at h
      · next b hb =>
        cases h
        have qq := q.now s (.bl _)
        have hx := xv_eq hp
        subst hx
        have hv : ∃ a d, v = .ref a ∧ H a = some (exv (cA K p.1) d a) ∧ (d = none ∨ ∃ dd fs, d = some dd ∧ H dd = some (.xd fs)) := by
          obtain ⟨n, o⟩ := p
          cases o with
          | none =>
            cases rv with
            | ex0 h => exact ⟨_, none, rfl, h, .inl rfl⟩
          | some p =>
            obtain ⟨f, y⟩ := p
            cases rv with
            | ex1 h1 h2 r => exact ⟨_, _, rfl, h1, .inr ⟨_, _, rfl, h2⟩⟩
        obtain ⟨a, d, rfl, ha, hd⟩ := hv
        rcases isCs_eq hb with ⟨c0, cs, rfl, hb⟩ | hb
        · obtain ⟨a2, ws, rfl, h1, h2⟩ := vr_tup ru
          exact ⟨a, p.1, d, _, b, rfl, ha, hd, isAny_ok (K := K.gm γ) ht hb h2, .inr ⟨a2, ws, rfl, h1, isAny_at (K := K.gm γ) ht hb h2⟩, qq⟩
        · obtain ⟨hc, hk⟩ := isOne_at (K := K.gm γ) ht hb ru
          exact ⟨a, p.1, d, _, b, rfl, ha, hd, hc, .inl hk, qq⟩
      · cases h
    · cases h
  · cases h
/-! ### the tables -/
def tabO (l : List (Str × Str × Bool)) : ClsT := fun n m => (l.find? fun e => decide (e.1 = n) && decide (e.2.1 = m)).map (·.2.2)
def tabB (l : List (Str × String × Bool)) : ClsB := fun n m => (l.find? fun e => decide (e.1 = n) && decide (e.2.1 = m)).map (·.2.2)
theorem tabO_at {l : List (Str × Str × Bool)} {n m : Str} {b : Bool} (h : tabO l n m = some b) : (n, m, b) ∈ l := by
  unfold tabO at h
  obtain ⟨e, he, hb⟩ := Option.map_eq_some_iff.mp h
  have h1 := List.mem_of_find?_eq_some he
  have h2 := List.find?_some he
  simp at h2
  obtain ⟨h3, h4⟩ := h2
  subst h3 h4 hb
  exact h1
theorem tabB_at {l : List (Str × String × Bool)} {n : Str} {m : String} {b : Bool} (h : tabB l n m = some b) : (n, m, b) ∈ l := by
  unfold tabB at h
  obtain ⟨e, he, hb⟩ := Option.map_eq_some_iff.mp h
  have h1 := List.mem_of_find?_eq_some he
  have h2 := List.find?_some he
  simp at h2
  obtain ⟨h3, h4⟩ := h2
  subst h3 h4 hb
  exact h1
theorem kit_blt {K : PySem.W.Frag} {C : Addr} {T : String} {b : Bool} (h1 : PySem.W.kitMeta T = true) (h2 : PySem.W.subIn K (.ref C) (.type T) = some b) : PySem.W.kitOne K (.ref C) (.type T) = some b := by
  show (if (Value.ref C == Value.type T) = true then some true else if PySem.W.kitMeta T = true then PySem.W.subIn K (.ref C) (.type T) else none) = some b
  rw [if_neg (by simp), if_pos h1]
  exact h2
theorem kit_own {K : PySem.W.Frag} {C D : Addr} {b : Bool} (h0 : PySem.W.subIn K (.ref D) (.ref D) = some true) (h1 : PySem.W.isClsIn K D = true) (h2 : PySem.W.typeIn K (.ref D) = some (.type "type")) (h3 : PySem.W.subIn K (.ref C) (.ref D) = some b) : PySem.W.kitOne K (.ref C) (.ref D) = some b := by
  have e2 : ((PySem.W.clsIn K D).isSome && PySem.W.typeIn K (.ref D) == some (.type "type")) = true := by
    have h1' : (PySem.W.clsIn K D).isSome = true := h1
    rw [h1', h2] <;> rfl
  show (if (Value.ref C == Value.ref D) = true then some true else if ((PySem.W.clsIn K D).isSome && PySem.W.typeIn K (.ref D) == some (.type "type")) = true then PySem.W.subIn K (.ref C) (.ref D) else none) = some b
  by_cases e : C = D
  · subst e
    rw [if_pos (by simp)]
    rw [h0] at h3
    exact h3
  · rw [if_neg (by simpa using e), if_pos e2]
    exact h3
theorem exm_own {K : PySem.W.Frag} {cls : Value} {D : Addr} {b : Bool} (h0 : PySem.W.subIn K (.ref D) (.type "BaseException") = some true) (h1 : PySem.W.isClsIn K D = true) (h2 : PySem.W.typeIn K (.ref D) = some (.type "type")) (h3 : PySem.W.subIn K cls (.ref D) = some b) : PySem.W.exmOne K cls (.ref D) = some b := by
  have e1 : (PySem.W.subIn K (.ref D) (.type "BaseException") == some true) = true := by rw [h0] <;> rfl
  have e2 : ((PySem.W.clsIn K D).isSome && PySem.W.typeIn K (.ref D) == some (.type "type")) = true := by
    have h1' : (PySem.W.clsIn K D).isSome = true := h1
    rw [h1', h2] <;> rfl
  show (if (PySem.W.subIn K (.ref D) (.type "BaseException") == some true) = true then (if ((PySem.W.clsIn K D).isSome && PySem.W.typeIn K (.ref D) == some (.type "type")) = true then PySem.W.subIn K cls (.ref D) else none) else none) = some b
  rw [if_pos e1, if_pos e2]
  exact h3
/-! ### the bases -/
theorem bx_ValueError : BaseY "ValueError" "ValueError" "ValueError.__new__" "ValueError.__init__" "ValueError.__init__" [.type "ValueError", .type "Exception", .type "BaseException", .type "object"] [.type "ValueError", .type "Exception", .type "BaseException", .type "object"] := BaseX.toY ⟨F.excBase_ValueError, by kernel_rfl, F.store_ValueError.passes, by decide +kernel, by decide +kernel, by decide +kernel⟩
theorem bx_LookupError : BaseY "LookupError" "LookupError" "LookupError.__new__" "LookupError.__init__" "LookupError.__init__" [.type "LookupError", .type "Exception", .type "BaseException", .type "object"] [.type "LookupError", .type "Exception", .type "BaseException", .type "object"] := BaseX.toY ⟨F.excBase_LookupError, by kernel_rfl, F.store_LookupError.passes, by decide +kernel, by decide +kernel, by decide +kernel⟩
theorem bx_ZeroDivisionError : BaseY "ZeroDivisionError" "ZeroDivisionError" "ZeroDivisionError.__new__" "ZeroDivisionError.__init__" "ZeroDivisionError.__init__" [.type "ZeroDivisionError", .type "ArithmeticError", .type "Exception", .type "BaseException", .type "object"] [.type "ZeroDivisionError", .type "ArithmeticError", .type "Exception", .type "BaseException", .type "object"] := BaseX.toY ⟨F.excBase_ZeroDivisionError, by kernel_rfl, F.store_ZeroDivisionError.passes, by decide +kernel, by decide +kernel, by decide +kernel⟩
theorem bx_IndexError : BaseY "IndexError" "IndexError" "IndexError.__new__" "IndexError.__init__" "IndexError.__init__" [.type "IndexError", .type "LookupError", .type "Exception", .type "BaseException", .type "object"] [.type "IndexError", .type "LookupError", .type "Exception", .type "BaseException", .type "object"] := BaseX.toY ⟨F.excBase_IndexError, by kernel_rfl, F.store_IndexError.passes, by decide +kernel, by decide +kernel, by decide +kernel⟩
theorem bx_OverflowError : BaseY "OverflowError" "OverflowError" "OverflowError.__new__" "OverflowError.__init__" "OverflowError.__init__" [.type "OverflowError", .type "ArithmeticError", .type "Exception", .type "BaseException", .type "object"] [.type "OverflowError", .type "ArithmeticError", .type "Exception", .type "BaseException", .type "object"] := BaseX.toY ⟨F.excBase_OverflowError, by kernel_rfl, F.store_OverflowError.passes, by decide +kernel, by decide +kernel, by decide +kernel⟩
theorem bx_RuntimeError : BaseY "RuntimeError" "RuntimeError" "RuntimeError.__new__" "RuntimeError.__init__" "RuntimeError.__init__" [.type "RuntimeError", .type "Exception", .type "BaseException", .type "object"] [.type "RuntimeError", .type "Exception", .type "BaseException", .type "object"] := BaseX.toY ⟨F.excBase_RuntimeError, by kernel_rfl, F.store_RuntimeError.passes, by decide +kernel, by decide +kernel, by decide +kernel⟩
theorem bz_RuntimeError : BaseX "RuntimeError" "RuntimeError.__new__" "RuntimeError.__init__" [.type "RuntimeError", .type "Exception", .type "BaseException", .type "object"] := ⟨F.excBase_RuntimeError, by kernel_rfl, F.store_RuntimeError.passes, by decide +kernel, by decide +kernel, by decide +kernel⟩
theorem bx_KeyError : BaseY "KeyError" "LookupError" "LookupError.__new__" "LookupError.__init__" "KeyError.__init__" [.type "LookupError", .type "Exception", .type "BaseException", .type "object"] [.type "KeyError", .type "LookupError", .type "Exception", .type "BaseException", .type "object"] := by_KeyError
/-- the rule for a def, its sizes told -/
theorem okN {P : Program} {w : World} {K : PySem.W.Frag} {mg : Str → Option Value} {base : Heap} {x qual : Str} {params : Arguments} {body : List Stmt} {scope : Scope} {dvs : List V} {kws : List (Str × V)} {f : Addr} {fd : FuncData} {N ps : List Str} {lv k n : Nat} {t : FS} {Z : KS} {z : Bool} (F : FunD K x qual params body scope dvs kws f fd) (S : FnScope N ps scope)
    (hk : k = ps.length) (hn : n = N.length) (walk : ∀ (cdv : Value) (A : Around) (outer : List PySem.Env) (s : Shared) (H : Hp) (E : XK), Room lv (cxOf (L2.CX P w) P w K mg base N qual scope f cdv A outer s H E).A → (cxOf (L2.CX P w) P w K mg base N qual scope f cdv A outer s H E).A.guards = some [] →
      ∀ W : WZ Z, Takes (cxOf (L2.CX P w) P w K mg base N qual scope f cdv A outer s H E) W → W.z = (fun _ => none) → W.cs = [] → DSs (cxOf (L2.CX P w) P w K mg base N qual scope f cdv A outer s H E) W body t) : FnF Z P w K mg base (lv + 1) f fd ps (fnF z k n t) := by
  subst hk hn
  exact okF z F S walk
/-- {} that is only read -/
def eDictZ : FE := fun _ st => .ok (.rd [] []) st
theorem d_dictZ {X : Cx} {Z : KS} {W : WZ Z} {pos : Pos} : DE X W (.Dict [] [] pos) eDictZ := pe_imp pe_dnewK fun σ H Q ⟨fr, ms, ρ, st, w, g⟩ => fun p n => QV.newd (c := false) (es := []) (ws := []) (QV.of g) w.sr .nil n
/-- a name of the module leads there -/
theorem cA_of {K : PySem.W.Frag} {n : Str} {C : Addr} (h : PySem.W.nsIn K mainGlobals n = some (some (.ref C))) : cA K n = C := by
  unfold cA
  rw [h]
end FL
/-! rules for readings: loops, comprehensions, ends of defs; no program in sight -/
namespace FL
open PySem PySem.Spec PyProof.Rows L2
/-- what a turn of a loop must bring: J goes on, P stands at an end -/
def S.turnP (r : S) (J : Env → Store → Prop) (P : S → Prop) : Prop := match r with
  | .nx ρ st => J ρ st
  | .ct ρ st => J ρ st
  | .bk ρ st => P (.nx ρ st)
  | .bad => False
  | r => P r
theorem S.turn_of {r : S} {J : Env → Store → Prop} {P : S → Prop} {f : Env → Store → S} (h : r.turnP J P) (hf : ∀ ρ st, J ρ st → P (f ρ st)) : P (r.turn f) := by
  cases r <;> first
    | exact hf _ _ h
    | exact h
    | exact h.elim
theorem fl_inv {cur : Its} {g : FG} {b : FS} {xs : List Val} {P : S → Prop} (J : Nat → Env → Store → Prop) (hc : ∀ i ρ st, J i ρ st → cur st = some xs)
    (hs : ∀ i x ρ st, xs[i]? = some x → J i ρ st → ∃ ρ1 st1, g x ρ st = some (ρ1, st1) ∧ (b ρ1 st1).turnP (J (i + 1)) P) (he : ∀ ρ st, J xs.length ρ st → P (.nx ρ st)) :
    ∀ m i ρ st, xs.length < i + m → i ≤ xs.length → J i ρ st → P (fl cur g b m i ρ st)
  | 0, i, ρ, st, h1, h2, _ => by omega
  | m + 1, i, ρ, st, h1, h2, h3 => by
    unfold fl
    rw [hc i ρ st h3]
    dsimp only
    cases e : xs[i]? with
    | none =>
      have := List.getElem?_eq_none_iff.mp e
      have e2 : i = xs.length := by omega
      subst e2
      exact he ρ st h3
    | some x =>
      obtain ⟨ρ1, st1, e1, h4⟩ := hs i x ρ st e h3
      dsimp only
      rw [e1]
      dsimp only
      have := (List.getElem?_eq_some_iff.mp e).1
      exact S.turn_of h4 fun ρ2 st2 h5 => fl_inv J hc hs he m (i + 1) ρ2 st2 (by omega) (by omega) h5
/-- a for: by what holds between two turns -/
theorem for_inv {vz : List Nat} {wi : FI} {g : FG} {b : FS} {ρ : Env} {st st1 : Store} {cur : Its} {P : S → Prop} (xs : List Val) (J : Nat → Env → Store → Prop) (hw : wi ρ st = .ok cur st1) (hl : xs.length < 1000000) (h0 : J 0 (wipeF ρ vz) st1) (hc : ∀ i ρ st, J i ρ st → cur st = some xs)
    (hs : ∀ i x ρ st, xs[i]? = some x → J i ρ st → ∃ ρ1 st1, g x ρ st = some (ρ1, st1) ∧ (b ρ1 st1).turnP (J (i + 1)) P) (he : ∀ ρ st, J xs.length ρ st → P (.nx ρ st)) : P (sFor vz wi g b ρ st) := by
  unfold sFor
  rw [hw]
  exact fl_inv J hc hs he bigN 0 _ _ (by show xs.length < 0 + 1000000; omega) (Nat.zero_le _) h0
/-- .. that comes to its end -/
theorem for_nx {vz : List Nat} {wi : FI} {g : FG} {b : FS} {ρ : Env} {st st1 : Store} {cur : Its} (xs : List Val) (J : Nat → Env → Store → Prop) (hw : wi ρ st = .ok cur st1) (hl : xs.length < 1000000) (h0 : J 0 (wipeF ρ vz) st1) (hc : ∀ i ρ st, J i ρ st → cur st = some xs)
    (hs : ∀ i x ρ st, xs[i]? = some x → J i ρ st → ∃ ρ1 st1, g x ρ st = some (ρ1, st1) ∧ (b ρ1 st1).turnP (J (i + 1)) fun _ => False) : ∃ ρ' st', sFor vz wi g b ρ st = .nx ρ' st' ∧ J xs.length ρ' st' :=
  for_inv (P := fun r => ∃ ρ' st', r = .nx ρ' st' ∧ J xs.length ρ' st') xs J hw hl h0 hc (fun i x ρ st h1 h2 => let ⟨ρ1, st1, e, q⟩ := hs i x ρ st h1 h2; ⟨ρ1, st1, e, by
    cases hb : b ρ1 st1 <;> rw [hb] at q <;> first | exact q | exact q.elim⟩) fun ρ st h => ⟨ρ, st, rfl, h⟩
theorem wl_inv {c : FT} {b : FS} {P : S → Prop} (J : Nat → Env → Store → Prop)
    (hs : ∀ n ρ st, J n ρ st → ∃ t st1, c ρ st = .ok t st1 ∧ (bif t then (b ρ st1).turnP (fun ρ2 st2 => ∃ k, k < n ∧ J k ρ2 st2) P else P (.nx ρ st1))) : ∀ m n ρ st, n < m → J n ρ st → P (wl c b m ρ st)
  | 0, n, ρ, st, h1, _ => by omega
  | m + 1, n, ρ, st, h1, h2 => by
    unfold wl
    obtain ⟨t, st1, e, q⟩ := hs n ρ st h2
    rw [e]
    dsimp only [R.to]
    cases t with
    | true => exact S.turn_of q fun ρ2 st2 ⟨k, hk, h5⟩ => wl_inv J hs m k ρ2 st2 (by omega) h5
    | false => exact q
/-- a while: J n, n a number that falls -/
theorem while_inv {vz : List Nat} {c : FT} {b : FS} {ρ : Env} {st : Store} {P : S → Prop} (J : Nat → Env → Store → Prop) {n : Nat} (hn : n < 1000000) (h0 : J n (wipeF ρ vz) st)
    (hs : ∀ n ρ st, J n ρ st → ∃ t st1, c ρ st = .ok t st1 ∧ (bif t then (b ρ st1).turnP (fun ρ2 st2 => ∃ k, k < n ∧ J k ρ2 st2) P else P (.nx ρ st1))) : P (sWhile vz c b ρ st) := wl_inv J hs bigN n _ _ hn h0
theorem lcl_inv {cur : Its} {g : FG} {tt : FT} {te : FE} {ρ : Env} {xs : List Val} (J : Nat → List Val → Store → Prop) (hz : xs.length ≤ sizeLine) (hc : ∀ i acc st, J i acc st → cur st = some xs)
    (hs : ∀ i x acc st, xs[i]? = some x → J i acc st → ∃ o st1, lc1 g tt te x ρ st = some (o, st1) ∧ J (i + 1) (acc ++ o.toList) st1) :
    ∀ m i acc st, xs.length < i + m → i ≤ xs.length → acc.length ≤ i → J i acc st → ∃ acc' st', lcl cur g tt te ρ m i acc st = some (acc', st') ∧ J xs.length acc' st'
  | 0, i, acc, st, h1, h2, _, _ => by omega
  | m + 1, i, acc, st, h1, h2, ha, h3 => by
    unfold lcl
    rw [hc i acc st h3]
    dsimp only
    cases e : xs[i]? with
    | none =>
      have := List.getElem?_eq_none_iff.mp e
      have e2 : i = xs.length := by omega
      subst e2
      exact ⟨acc, st, rfl, h3⟩
    | some x =>
      obtain ⟨o, st1, e1, h4⟩ := hs i x acc st e h3
      have hi := (List.getElem?_eq_some_iff.mp e).1
      dsimp only
      rw [e1]
      cases o with
      | none =>
        rw [show acc ++ (none : Option Val).toList = acc from List.append_nil _] at h4
        exact lcl_inv J hz hc hs m (i + 1) acc st1 (by omega) (by omega) (by omega) h4
      | some y =>
        dsimp only
        rw [show Nat.blt acc.length sizeLine = true from Nat.ble_eq_true_of_le (show acc.length + 1 ≤ sizeLine by omega)]
        exact lcl_inv J hz hc hs m (i + 1) (acc ++ [y]) st1 (by omega) (by omega) (by rw [List.length_append]; simp; omega) h4
/-- a comprehension -/
theorem lc_inv {c : Bool} {wi : FI} {g : FG} {tt : FT} {te : FE} {vs : List Nat} {ρ : Env} {st st1 : Store} {cur : Its} (xs : List Val) (J : Nat → List Val → Store → Prop) (hw : wi ρ st = .ok cur st1) (hz : xs.length ≤ 10000) (h0 : J 0 [] st1) (hc : ∀ i acc st, J i acc st → cur st = some xs)
    (hs : ∀ i x acc st, xs[i]? = some x → J i acc st → ∃ o st1, lc1 g tt te x (wipeF ρ vs) st = some (o, st1) ∧ J (i + 1) (acc ++ o.toList) st1) : ∃ acc st2, eLc c wi g tt te vs ρ st = .ok (newL c acc st2).1 (newL c acc st2).2 ∧ J xs.length acc st2 := by
  obtain ⟨acc, st2, e, h⟩ := lcl_inv (ρ := wipeF ρ vs) (g := g) (tt := tt) (te := te) J (Nat.le_trans hz (by decide)) hc hs bigN 0 [] st1 (by show xs.length < 0 + 1000000; omega) (Nat.zero_le _) (Nat.le_refl _) h0
  refine ⟨acc, st2, ?_, h⟩
  unfold eLc
  rw [hw]
  dsimp only [R.bind]
  rw [e]
theorem lcl_map {xs : List Val} {g : FG} {tt : FT} {te : FE} {ρ : Env} {st : Store} (f : Val → Option Val) (hz : xs.length ≤ sizeLine) (hs : ∀ x ∈ xs, lc1 g tt te x ρ st = some (f x, st)) {cur : Its} (hc : cur st = some xs) :
    ∀ m i acc, xs.length < i + m → i ≤ xs.length → acc.length ≤ i → lcl cur g tt te ρ m i acc st = some (acc ++ (xs.drop i).filterMap f, st)
  | 0, i, acc, h1, h2, _ => by omega
  | m + 1, i, acc, h1, h2, ha => by
    unfold lcl
    rw [hc]
    dsimp only
    cases e : xs[i]? with
    | none =>
      have := List.getElem?_eq_none_iff.mp e
      rw [List.drop_of_length_le (by omega)]
      simp
    | some x =>
      have hi := (List.getElem?_eq_some_iff.mp e)
      obtain ⟨hi, ex⟩ := hi
      dsimp only
      rw [hs x (List.mem_of_getElem? e)]
      rw [List.drop_eq_getElem_cons hi, ex]
      cases h : f x with
      | none =>
        dsimp only
        rw [lcl_map f hz hs hc m (i + 1) acc (by omega) (by omega) (by omega), List.filterMap_cons_none h]
      | some y =>
        dsimp only
        rw [show Nat.blt acc.length sizeLine = true from Nat.ble_eq_true_of_le (show acc.length + 1 ≤ sizeLine by omega)]
        dsimp only [cond_true]
        rw [lcl_map f hz hs hc m (i + 1) (acc ++ [y]) (by omega) (by omega) (by rw [List.length_append]; simp; omega), List.filterMap_cons_some h]
        simp
/-- a comprehension that changes nothing: an item of each item, or none -/
theorem lc_fm {c : Bool} {wi : FI} {g : FG} {tt : FT} {te : FE} {vs : List Nat} {ρ : Env} {st st1 : Store} {cur : Its} (xs : List Val) (f : Val → Option Val) (hw : wi ρ st = .ok cur st1) (hc : cur st1 = some xs) (hz : xs.length ≤ 10000)
    (hs : ∀ x ∈ xs, lc1 g tt te x (wipeF ρ vs) st1 = some (f x, st1)) : eLc c wi g tt te vs ρ st = .ok (newL c (xs.filterMap f) st1).1 (newL c (xs.filterMap f) st1).2 := by
  unfold eLc
  rw [hw]
  dsimp only [R.bind]
  rw [lcl_map f (Nat.le_trans hz (by decide)) hs hc bigN 0 [] (by show xs.length < 0 + 1000000; omega) (Nat.zero_le _) (Nat.le_refl _)]
  simp
/-- .. of each -/
theorem lc_map {c : Bool} {wi : FI} {g : FG} {tt : FT} {te : FE} {vs : List Nat} {ρ : Env} {st st1 : Store} {cur : Its} (xs : List Val) (f : Val → Val) (hw : wi ρ st = .ok cur st1) (hc : cur st1 = some xs) (hz : xs.length ≤ 10000)
    (hs : ∀ x ∈ xs, lc1 g tt te x (wipeF ρ vs) st1 = some (some (f x), st1)) : eLc c wi g tt te vs ρ st = .ok (newL c (xs.map f) st1).1 (newL c (xs.map f) st1).2 := by
  rw [lc_fm xs (fun x => some (f x)) hw hc hz hs]
  simp
end FL
/-! the readings, step by step: equations for `simp only [seval]` -/
namespace FL
open PySem PySem.Spec PyProof.Rows L2
/-- an equation that is no unfolding to the kernel's eyes -/
theorem nd {α : Sort u} {a b : α} (h : a = b) : a = b := h
section
variable {α β : Type} {ρ ρ' : Env} {st st' st1 : Store} {x y z : Val} {n m i : Nat}
/-! ends -/
theorem cond_t {u v : α} : cond true u v = u := nd rfl
theorem cond_f {u v : α} : cond false u v = v := nd rfl
theorem dec_t {d : Decidable True} : @decide True d = true := by cases d <;> first | rfl | (exact absurd trivial ‹_›)
theorem dec_f {d : Decidable False} : @decide False d = false := by cases d <;> first | rfl | (exact False.elim ‹_›)
theorem not_t : (!true) = false := nd rfl
theorem not_f : (!false) = true := nd rfl
theorem and_t {b : Bool} : (true && b) = b := nd rfl
theorem and_f {b : Bool} : (false && b) = false := nd rfl
theorem or_t {b : Bool} : (true || b) = true := nd rfl
theorem or_f {b : Bool} : (false || b) = b := nd rfl
theorem and_t' {b : Bool} : (b && true) = b := by cases b <;> rfl
theorem or_f' {b : Bool} : (b || false) = b := by cases b <;> rfl
theorem R.bind_ok {a : α} {f : α → Store → R β} : (R.ok a st).bind f = f a st := nd rfl
theorem R.bind_exc {c : XV} {f : α → Store → R β} : (R.exc c st : R α).bind f = .exc c st := nd rfl
theorem R.to_ok {a : α} {f : α → Store → S} : (R.ok a st).to ρ f = f a st := nd rfl
theorem R.to_exc {c : XV} {f : α → Store → S} : (R.exc c st : R α).to ρ f = .ex c ρ st := nd rfl
theorem R.opt_some {p : α × Store} : R.opt (some p) = .ok p.1 p.2 := nd rfl
theorem then_nx {f : Env → Store → S} : (S.nx ρ st).then f = f ρ st := nd rfl
theorem then_rt {f : Env → Store → S} : (S.rt x st).then f = .rt x st := nd rfl
theorem then_bk {f : Env → Store → S} : (S.bk ρ st).then f = .bk ρ st := nd rfl
theorem then_ct {f : Env → Store → S} : (S.ct ρ st).then f = .ct ρ st := nd rfl
theorem then_ex {c : XV} {f : Env → Store → S} : (S.ex c ρ st).then f = .ex c ρ st := nd rfl
theorem turnP_nx {J : Env → Store → Prop} {P : S → Prop} : (S.nx ρ st).turnP J P = J ρ st := nd rfl
theorem turnP_ct {J : Env → Store → Prop} {P : S → Prop} : (S.ct ρ st).turnP J P = J ρ st := nd rfl
theorem turnP_bk {J : Env → Store → Prop} {P : S → Prop} : (S.bk ρ st).turnP J P = P (.nx ρ st) := nd rfl
theorem turnP_rt {J : Env → Store → Prop} {P : S → Prop} : (S.rt x st).turnP J P = P (.rt x st) := nd rfl
theorem turnP_ex {c : XV} {J : Env → Store → Prop} {P : S → Prop} : (S.ex c ρ st).turnP J P = P (.ex c ρ st) := nd rfl
theorem fst_eq {a : α} {b : β} : (a, b).1 = a := nd rfl
theorem snd_eq {a : α} {b : β} : (a, b).2 = b := nd rfl
/-! names -/
theorem set_z {a b : α} {l : List α} : (a :: l).set 0 b = b :: l := nd rfl
theorem set_s {a b : α} {l : List α} : (a :: l).set (n + 1) b = a :: l.set n b := nd rfl
theorem eV_z {l : Env} : eV 0 (some x :: l) st = .ok x st := nd rfl
theorem eV_s {l : Env} {a : Option Val} : eV (n + 1) (a :: l) st = eV n l st := nd rfl
theorem eC_eq : eC x ρ st = .ok x st := nd rfl
theorem wipeF_nil : wipeF ρ [] = ρ := nd rfl
theorem wipeF_cons {v : Nat} {vs : List Nat} : wipeF ρ (v :: vs) = (wipeF ρ vs).set v none := nd rfl
theorem startF_nil : startF n [] = List.replicate n none := nd rfl
theorem startF_cons {xs : List Val} : startF (n + 1) (x :: xs) = some x :: startF n xs := by
  unfold startF
  rw [List.map_cons, List.length_cons, Nat.add_sub_add_right]
  rfl
theorem rep_z {a : α} : List.replicate 0 a = [] := nd rfl
theorem rep_s {a : α} : List.replicate (n + 1) a = a :: List.replicate n a := nd rfl
theorem lenB_nil : (([] : List α).length == 0) = true := nd rfl
theorem lenB_cons {a : α} {l : List α} : ((a :: l).length == n + 1) = (l.length == n) := by
  rw [List.length_cons]
  rw [Bool.eq_iff_iff]
  simp
theorem fnF_eq {b : Bool} {k : Nat} {t : FS} {xs : List Val} (h : xs.length = k) : fnF b k n t xs st = retF b st (t (startF n xs) st) := by unfold fnF; rw [show (xs.length == k) = true by simp [h]]; rfl
theorem retF_rt : retF false st (.rt x st1) = .ok x st1 := nd rfl
theorem retF_nx : retF false st (.nx ρ st1) = .ok .non st1 := nd rfl
theorem retF_ex {c : XV} : retF false st (.ex c ρ st1) = .exc c st1 := nd rfl
theorem retF_rtz : retF true st (.rt x st1) = .ok (retV st x st1).1 (retV st x st1).2 := nd rfl
theorem retF_nxz : retF true st (.nx ρ st1) = .ok (retV st .non st1).1 (retV st .non st1).2 := nd rfl
theorem retF_exz {c : XV} : retF true st (.ex c ρ st1) = .exc (retX st c st1).1 (retX st c st1).2 := nd rfl
end
section
variable {ρ : Env} {st st' st1 : Store} {x y z : Val} {n m i j k : Nat} {t u v : FS} {te ta tb tc : FE} {c c' : FT} {f f' : F2} {a a' : FA}
/-! statements -/
theorem sNext_eq  : sNext ρ st = .nx ρ st := nd rfl
theorem sBrk_eq  : sBrk ρ st = .bk ρ st := nd rfl
theorem sCnt_eq  : sCnt ρ st = .ct ρ st := nd rfl
theorem sSeq_eq  : sSeq t u ρ st = (t ρ st).then u := nd rfl
def kDrop (ρ : Env) : Val → Store → S := fun x s => .nx ρ s
theorem kDrop_eq (ρ : Env) (x : Val) (s : Store) : kDrop ρ x s = .nx ρ s := nd rfl
theorem sDrop_eq  : sDrop te ρ st = (te ρ st).to ρ (kDrop ρ) := nd rfl
def kRet  : Val → Store → S := fun x s => .rt x s
theorem kRet_eq  (x : Val) (s : Store) : kRet  x s = .rt x s := nd rfl
theorem sRet_eq  : sRet te ρ st = (te ρ st).to ρ kRet := nd rfl
theorem sRetN_eq  : sRetN ρ st = .rt .non st := nd rfl
def kIf (t u : FS) (ρ : Env) : Bool → Store → S := fun b s => bif b then t ρ s else u ρ s
theorem kIf_t (t u : FS) (ρ : Env) (s : Store) : kIf t u ρ true s = t ρ s := nd rfl
theorem kIf_f (t u : FS) (ρ : Env) (s : Store) : kIf t u ρ false s = u ρ s := nd rfl
theorem sIf_eq  : sIf c t u ρ st = (c ρ st).to ρ (kIf t u ρ) := nd rfl
def kSet (i : Nat) (ρ : Env) : Val → Store → S := fun x s => .nx (ρ.set i (some x)) s
theorem kSet_eq (i : Nat) (ρ : Env) (x : Val) (s : Store) : kSet i ρ x s = .nx (ρ.set i (some x)) s := nd rfl
theorem sSet_eq  : sSet i te ρ st = (te ρ st).to ρ (kSet i ρ) := nd rfl
def kPar (i j : Nat) (ρ : Env) : List Val → Store → S := fun xs s => match xs with
  | [x, y] => .nx ((ρ.set i (some x)).set j (some y)) s
  | _ => .bad
theorem kPar_eq (i j : Nat) (ρ : Env) (x y : Val) (s : Store) : kPar i j ρ [x, y] s = .nx ((ρ.set i (some x)).set j (some y)) s := nd rfl
theorem sPar_eq : sPar i j a ρ st = (a ρ st).to ρ (kPar i j ρ) := nd rfl
def kPar3 (i j k : Nat) (ρ : Env) : List Val → Store → S := fun xs s => match xs with
  | [x, y, z] => .nx (((ρ.set i (some x)).set j (some y)).set k (some z)) s
  | _ => .bad
theorem kPar3_eq (i j k : Nat) (ρ : Env) (x y z : Val) (s : Store) : kPar3 i j k ρ [x, y, z] s = .nx (((ρ.set i (some x)).set j (some y)).set k (some z)) s := nd rfl
theorem sPar3_eq : sPar3 i j k a ρ st = (a ρ st).to ρ (kPar3 i j k ρ) := nd rfl
/-- what a target's storing comes to -/
def ofG (o : Option (Env × Store)) : S := match o with
  | some (ρ', st') => .nx ρ' st'
  | none => .bad
theorem ofG_some {p : Env × Store} : ofG (some p) = .nx p.1 p.2 := nd rfl
def kAsg (g : FG) (ρ : Env) : Val → Store → S := fun x s => ofG (g x ρ s)
theorem kAsg_eq (g : FG) (ρ : Env) (x : Val) (s : Store) : kAsg g ρ x s = ofG (g x ρ s) := nd rfl
theorem sAsg_eq {g : FG} : sAsg te g ρ st = (te ρ st).to ρ (kAsg g ρ) := nd rfl
def kUnp (n : Nat) (g : FGs) (ρ : Env) : List Val → Store → S := fun xs s => bif xs.length == n then ofG (g xs ρ s) else .bad
theorem kUnp_eq (n : Nat) (g : FGs) (ρ : Env) (xs : List Val) (s : Store) (h : xs.length = n) : kUnp n g ρ xs s = ofG (g xs ρ s) := by unfold kUnp; rw [show (xs.length == n) = true by simp [h]]; rfl
theorem sUnp_eq {g : FGs} : sUnp n a g ρ st = (a ρ st).to ρ (kUnp n g ρ) := nd rfl
theorem sWipe_eq {vs : List Nat} : sWipe vs t ρ st = (t ρ st).wiped vs := nd rfl
theorem wiped_nx {vs : List Nat} : (S.nx ρ st).wiped vs = .nx (wipeF ρ vs) st := nd rfl
theorem wiped_bk {vs : List Nat} : (S.bk ρ st).wiped vs = .bk (wipeF ρ vs) st := nd rfl
theorem wiped_ct {vs : List Nat} : (S.ct ρ st).wiped vs = .ct (wipeF ρ vs) st := nd rfl
theorem wiped_rt {vs : List Nat} : (S.rt x st).wiped vs = .rt x st := nd rfl
theorem wiped_ex {c : XV} {vs : List Nat} : (S.ex c ρ st).wiped vs = .ex c ρ st := nd rfl
def kFor (g : FG) (t : FS) (ρ : Env) : Its → Store → S := fun cur s => fl cur g t bigN 0 ρ s
theorem kFor_eq (g : FG) (t : FS) (ρ : Env) (cur : Its) (s : Store) : kFor g t ρ cur s = fl cur g t bigN 0 ρ s := nd rfl
theorem sFor_eq {vz : List Nat} {wi : FI} {g : FG} : sFor vz wi g t ρ st = (wi ρ st).to ρ (kFor g t (wipeF ρ vz)) := nd rfl
theorem sWhile_eq {vz : List Nat} : sWhile vz c t ρ st = wl c t bigN (wipeF ρ vz) st := nd rfl
def kRaise (ρ : Env) : Val → Store → S := fun x s => match xvOf x with
  | some c => .ex c ρ s
  | none => .bad
theorem kRaise_1 (ρ : Env) (n f : Str) (x : Val) (s : Store) : kRaise ρ (.ex1 n f x) s = .ex (n, some (f, x)) ρ s := nd rfl
theorem kRaise_0 (ρ : Env) (n : Str) (s : Store) : kRaise ρ (.ex0 n) s = .ex (n, none) ρ s := nd rfl
theorem sRaise_eq : sRaise te ρ st = (te ρ st).to ρ (kRaise ρ) := nd rfl
/-- behind a try's body -/
def S.caught (r : S) (tb : ClsT) (hs : List (Str × Option Nat × FS)) : S := match r with
  | .ex x ρ1 st1 => hnd tb x ρ1 st1 hs
  | r => r
theorem sTry_eq {tb : ClsT} {hs : List (Str × Option Nat × FS)} : sTry tb hs t ρ st = (t ρ st).caught tb hs := nd rfl
theorem caught_nx {tb : ClsT} {hs : List (Str × Option Nat × FS)} : (S.nx ρ st).caught tb hs = .nx ρ st := nd rfl
theorem caught_rt {tb : ClsT} {hs : List (Str × Option Nat × FS)} : (S.rt x st).caught tb hs = .rt x st := nd rfl
theorem caught_ex {c : XV} {tb : ClsT} {hs : List (Str × Option Nat × FS)} : (S.ex c ρ st).caught tb hs = hnd tb c ρ st hs := nd rfl
/-! targets -/
/-- a target behind another one -/
def thenG (o : Option (Env × Store)) (gs : FGs) (r : List Val) : Option (Env × Store) := match o with
  | some (ρ1, st1) => gs r ρ1 st1
  | none => none
theorem thenG_some {p : Env × Store} {gs : FGs} {r : List Val} : thenG (some p) gs r = gs r p.1 p.2 := nd rfl
theorem gN_eq : gN i x ρ st = some (ρ.set i (some x), st) := nd rfl
theorem gNil_eq : gNil [] ρ st = some (ρ, st) := nd rfl
theorem gCons_eq {g : FG} {gs : FGs} {r : List Val} : gCons g gs (x :: r) ρ st = thenG (g x ρ st) gs r := nd rfl
theorem gTup_eq {gs : FGs} {xs : List Val} (h : xs.length = n) : gTup n gs (.tup xs) ρ st = gs xs ρ st := by unfold gTup; dsimp only; rw [show (xs.length == n) = true by simp [h]]; rfl
/-- o[i] = x -/
def putAt1 (st : Store) (p : Nat) (i x : Val) (ρ : Env) : Option (Env × Store) := match st[p]? with
  | some (.lst xs) => (match i with
    | .int i => (match ixN xs.length i with
      | some j => some (ρ, st.set p (.lst (xs.set j x)))
      | none => none)
    | _ => none)
  | some (.dic es) => (match keyOf i with
    | some k => bif es.length.blt sizeLine then some (ρ, st.set p (.dic (putS es k x))) else none
    | none => none)
  | _ => none
theorem putAt_lst {p : Nat} {xs : List Val} {i : Int} (h : st[p]? = some (.lst xs)) (h0 : 0 ≤ i) (h1 : i < (xs.length : Int)) : putAt1 st p (.int i) x ρ = some (ρ, st.set p (.lst (xs.set i.toNat x))) := by
  unfold putAt1
  rw [h]
  dsimp only
  rw [show ixN xs.length i = some i.toNat by unfold ixN; rw [if_pos h0, if_pos h1]]
def kSub1 (ti : FE) (x : Val) (ρ : Env) (r : R Val) : Option (Env × Store) := match r with
  | .ok (.ref p) st1 => (match ti ρ st1 with
    | .ok i st2 => putAt1 st2 p i x ρ
    | _ => none)
  | _ => none
def kSub2 (p : Nat) (x : Val) (ρ : Env) (r : R Val) : Option (Env × Store) := match r with
  | .ok i st2 => putAt1 st2 p i x ρ
  | _ => none
theorem gSub_eq {to ti : FE} : gSub to ti x ρ st = kSub1 ti x ρ (to ρ st) := by
  unfold gSub kSub1
  cases to ρ st with
  | ok o st1 =>
    cases o <;> first
      | rfl
      | (dsimp only
         cases ti ρ st1 <;> rfl)
  | exc c s => rfl
  | bad => rfl
theorem kSub1_ok {ti : FE} {p : Nat} : kSub1 ti x ρ (.ok (.ref p) st) = kSub2 p x ρ (ti ρ st) := by
  unfold kSub1 kSub2
  dsimp only
theorem kSub2_ok {p : Nat} {i : Val} : kSub2 p x ρ (.ok i st) = putAt1 st p i x ρ := nd rfl
/-! expressions -/
def kOp2 (f : F2) (x : Val) : Val → Store → R Val := fun y s => R.opt (f x y s)
theorem kOp2_eq (f : F2) (x : Val) (y : Val) (s : Store) : kOp2 f x y s = R.opt (f x y s) := nd rfl
def kOp1 (f : F2) (tb : FE) (ρ : Env) : Val → Store → R Val := fun x s => (tb ρ s).bind (kOp2 f x)
theorem kOp1_eq (f : F2) (tb : FE) (ρ : Env) (x : Val) (s : Store) : kOp1 f tb ρ x s = (tb ρ s).bind (kOp2 f x) := nd rfl
theorem eOp_eq  : eOp f ta tb ρ st = (ta ρ st).bind (kOp1 f tb ρ) := nd rfl
def kUn (f : F1) : Val → Store → R Val := fun x s => R.opt (f x s)
theorem kUn_eq (f : F1) (x : Val) (s : Store) : kUn f x s = R.opt (f x s) := nd rfl
theorem eUn_eq {f1 : F1} : eUn f1 ta ρ st = (ta ρ st).bind (kUn f1) := nd rfl
def kB : Val → Store → R Bool := fun x s => match x with
  | .bl b => .ok b s
  | _ => .bad
theorem kB_eq (b : Bool) (s : Store) : kB (.bl b) s = .ok b s := nd rfl
theorem tB_eq : tB te ρ st = (te ρ st).bind kB := nd rfl
def kCh4 (f' : F2) (y : Val) : Val → Store → R Val := fun u s => R.opt (f' y u s)
theorem kCh4_eq (f' : F2) (y u : Val) (s : Store) : kCh4 f' y u s = R.opt (f' y u s) := nd rfl
def kCh3 (f' : F2) (tc : FE) (ρ : Env) (y : Val) : Val → Store → R Val := fun z s => match z with
  | .bl true => (tc ρ s).bind (kCh4 f' y)
  | .bl false => .ok (.bl false) s
  | _ => .bad
theorem kCh3_t (f' : F2) (tc : FE) (ρ : Env) (y : Val) (s : Store) : kCh3 f' tc ρ y (.bl true) s = (tc ρ s).bind (kCh4 f' y) := nd rfl
theorem kCh3_f (f' : F2) (tc : FE) (ρ : Env) (y : Val) (s : Store) : kCh3 f' tc ρ y (.bl false) s = .ok (.bl false) s := nd rfl
def kCh2 (f f' : F2) (tc : FE) (ρ : Env) (x : Val) : Val → Store → R Val := fun y s => (R.opt (f x y s)).bind (kCh3 f' tc ρ y)
theorem kCh2_eq (f f' : F2) (tc : FE) (ρ : Env) (x y : Val) (s : Store) : kCh2 f f' tc ρ x y s = (R.opt (f x y s)).bind (kCh3 f' tc ρ y) := nd rfl
def kCh1 (f f' : F2) (tb tc : FE) (ρ : Env) : Val → Store → R Val := fun x s => (tb ρ s).bind (kCh2 f f' tc ρ x)
theorem kCh1_eq (f f' : F2) (tb tc : FE) (ρ : Env) (x : Val) (s : Store) : kCh1 f f' tb tc ρ x s = (tb ρ s).bind (kCh2 f f' tc ρ x) := nd rfl
theorem eChain_eq : eChain f f' ta tb tc ρ st = (ta ρ st).bind (kCh1 f f' tb tc ρ) := by
  rfl
def kAnd (t : FT) (ρ : Env) : Bool → Store → R Bool := fun b s => bif b then t ρ s else .ok false s
theorem kAnd_t (t : FT) (ρ : Env) (s : Store) : kAnd t ρ true s = t ρ s := nd rfl
theorem kAnd_f (t : FT) (ρ : Env) (s : Store) : kAnd t ρ false s = .ok false s := nd rfl
theorem tAnd_eq  : tAnd c c' ρ st = (c ρ st).bind (kAnd c' ρ) := nd rfl
def kOr (t : FT) (ρ : Env) : Bool → Store → R Bool := fun b s => bif b then .ok true s else t ρ s
theorem kOr_t (t : FT) (ρ : Env) (s : Store) : kOr t ρ true s = .ok true s := nd rfl
theorem kOr_f (t : FT) (ρ : Env) (s : Store) : kOr t ρ false s = t ρ s := nd rfl
theorem tOr_eq  : tOr c c' ρ st = (c ρ st).bind (kOr c' ρ) := nd rfl
def kNot  : Bool → Store → R Bool := fun b s => .ok (!b) s
theorem kNot_eq  (b : Bool) (s : Store) : kNot  b s = .ok (!b) s := nd rfl
theorem tNot_eq  : tNot c ρ st = (c ρ st).bind kNot := nd rfl
theorem tYes_eq  : tYes ρ st = .ok true st := nd rfl
def kEAnd (t : FE) (ρ : Env) : Val → Store → R Val := fun x s => match x with
  | .bl true => t ρ s
  | .bl false => .ok (.bl false) s
  | _ => .bad
theorem kEAnd_t (t : FE) (ρ : Env) (s : Store) : kEAnd t ρ (.bl true) s = t ρ s := nd rfl
theorem kEAnd_f (t : FE) (ρ : Env) (s : Store) : kEAnd t ρ (.bl false) s = .ok (.bl false) s := nd rfl
theorem eAnd_eq : eAnd ta tb ρ st = (ta ρ st).bind (kEAnd tb ρ) := nd rfl
def kEOr (t : FE) (ρ : Env) : Val → Store → R Val := fun x s => match x with
  | .bl true => .ok (.bl true) s
  | .bl false => t ρ s
  | _ => .bad
theorem kEOr_t (t : FE) (ρ : Env) (s : Store) : kEOr t ρ (.bl true) s = .ok (.bl true) s := nd rfl
theorem kEOr_f (t : FE) (ρ : Env) (s : Store) : kEOr t ρ (.bl false) s = t ρ s := nd rfl
theorem eOr_eq : eOr ta tb ρ st = (ta ρ st).bind (kEOr tb ρ) := nd rfl
def kENot : Val → Store → R Val := fun x s => match x with
  | .bl b => .ok (.bl (!b)) s
  | _ => .bad
theorem kENot_eq (b : Bool) (s : Store) : kENot (.bl b) s = .ok (.bl (!b)) s := nd rfl
theorem eNot_eq : eNot ta ρ st = (ta ρ st).bind kENot := nd rfl
def kEIf (ta tb : FE) (ρ : Env) : Bool → Store → R Val := fun b s => bif b then ta ρ s else tb ρ s
theorem kEIf_t (ta tb : FE) (ρ : Env) (s : Store) : kEIf ta tb ρ true s = ta ρ s := nd rfl
theorem kEIf_f (ta tb : FE) (ρ : Env) (s : Store) : kEIf ta tb ρ false s = tb ρ s := nd rfl
theorem eIf_eq  : eIf c ta tb ρ st = (c ρ st).bind (kEIf ta tb ρ) := nd rfl
theorem aNil_eq  : aNil ρ st = .ok [] st := nd rfl
def kCons2 (x : Val) : List Val → Store → R (List Val) := fun xs s => .ok (x :: xs) s
theorem kCons2_eq (x : Val) (xs : List Val) (s : Store) : kCons2 x xs s = .ok (x :: xs) s := nd rfl
def kCons1 (a : FA) (ρ : Env) : Val → Store → R (List Val) := fun x s => (a ρ s).bind (kCons2 x)
theorem kCons1_eq (a : FA) (ρ : Env) (x : Val) (s : Store) : kCons1 a ρ x s = (a ρ s).bind (kCons2 x) := nd rfl
theorem aCons_eq  : aCons te a ρ st = (te ρ st).bind (kCons1 a ρ) := nd rfl
def kTup  : List Val → Store → R Val := fun xs s => bif Nat.ble xs.length sizeLine then .ok (.tup xs) s else .bad
theorem kTup_eq  (xs : List Val) (s : Store) (h : xs.length ≤ 10000) : kTup  xs s = .ok (.tup xs) s := by
  unfold kTup
  rw [show Nat.ble xs.length sizeLine = true from Nat.ble_eq_true_of_le (Nat.le_trans h (by decide))]
  rfl
theorem eTup_eq  : eTup a ρ st = (a ρ st).bind kTup := nd rfl
/-- a new list's result -/
def okL (b : Bool) (xs : List Val) (s : Store) : R Val := .ok (newL b xs s).1 (newL b xs s).2
theorem okL_f {xs : List Val} : okL false xs st = .ok (.ro xs) st := nd rfl
theorem okL_t {xs : List Val} : okL true xs st = .ok (.ref st.length) (st ++ [.lst xs]) := nd rfl
def kLst (b : Bool) : List Val → Store → R Val := fun xs s => bif Nat.ble xs.length sizeLine then okL b xs s else .bad
theorem kLst_eq (b : Bool) (xs : List Val) (s : Store) (h : xs.length ≤ 10000) : kLst b xs s = okL b xs s := by
  unfold kLst
  rw [show Nat.ble xs.length sizeLine = true from Nat.ble_eq_true_of_le (Nat.le_trans h (by decide))]
  rfl
theorem eLst_eq {b : Bool} : eLst b a ρ st = (a ρ st).bind (kLst b) := nd rfl
theorem newL_f {xs : List Val} : newL false xs st = (.ro xs, st) := nd rfl
theorem newL_t {xs : List Val} : newL true xs st = (.ref st.length, st ++ [.lst xs]) := nd rfl
theorem app_nil {xs : List Val} : xs ++ [] = xs := List.append_nil xs
theorem app_cons {xs ys : List Val} : (x :: xs) ++ ys = x :: (xs ++ ys) := nd rfl
theorem nil_app {ys : List Val} : [] ++ ys = ys := nd rfl
def kCall (F : List Val → Store → R Val) (ds : List Val) : List Val → Store → R Val := fun xs s => F (xs ++ ds) s
theorem kCall_eq (F : List Val → Store → R Val) (ds : List Val) (xs : List Val) (s : Store) : kCall F ds xs s = F (xs ++ ds) s := nd rfl
theorem eCall_eq {F : List Val → Store → R Val} {ds : List Val} : eCall F ds a ρ st = (a ρ st).bind (kCall F ds) := nd rfl
def kCallK (F : List Val → Store → R Val) (pl : List Nat) : List Val → Store → R Val := fun xs s => bif xs.length == pl.length then F (byPl pl xs) s else .bad
theorem kCallK_eq (F : List Val → Store → R Val) (pl : List Nat) (xs : List Val) (s : Store) (h : xs.length = pl.length) : kCallK F pl xs s = F (byPl pl xs) s := by
  unfold kCallK
  rw [show (xs.length == pl.length) = true by simp [h]]
  rfl
theorem eCallK_eq {F : List Val → Store → R Val} {pl : List Nat} : eCallK F pl a ρ st = (a ρ st).bind (kCallK F pl) := nd rfl
def kCallM2 (F : List Val → Store → R Val) (n m : Nat) (ds : List Val) (pl : List Nat) (xs : List Val) : List Val → Store → R Val := fun zs s => bif (xs.length == n) && (zs.length == m) then F (byPl pl (xs ++ (ds ++ zs))) s else .bad
theorem kCallM2_eq (F : List Val → Store → R Val) (n m : Nat) (ds : List Val) (pl : List Nat) (xs : List Val) (zs : List Val) (s : Store) (h : (xs.length = n) ∧ (zs.length = m)) : kCallM2 F n m ds pl xs zs s = F (byPl pl (xs ++ (ds ++ zs))) s := by
  unfold kCallM2
  rw [show ((xs.length == n) && (zs.length == m)) = true by simp [h]]
  rfl
def kCallM1 (F : List Val → Store → R Val) (n m : Nat) (ds : List Val) (pl : List Nat) (a : FA) (ρ : Env) : List Val → Store → R Val := fun xs s => (a ρ s).bind (kCallM2 F n m ds pl xs)
theorem kCallM1_eq (F : List Val → Store → R Val) (n m : Nat) (ds : List Val) (pl : List Nat) (a : FA) (ρ : Env) (xs : List Val) (s : Store) : kCallM1 F n m ds pl a ρ xs s = (a ρ s).bind (kCallM2 F n m ds pl xs) := nd rfl
theorem eCallM_eq {F : List Val → Store → R Val} {ds : List Val} {pl : List Nat} : eCallM F n m ds pl a a' ρ st = (a ρ st).bind (kCallM1 F n m ds pl a' ρ) := nd rfl
theorem byPl_nil {ws : List Val} : byPl [] ws = [] := rfl
theorem byPl_nil' {ws : List Val} : byPl [] ws = [] := nd rfl
def nthA (ws : List Val) (i : Nat) (r : List Val) : List Val := match ws[i]? with
  | some w => w :: r
  | none => r
theorem byPl_cons {i : Nat} {pl : List Nat} {ws : List Val} : byPl (i :: pl) ws = nthA ws i (byPl pl ws) := by
  unfold byPl nthA
  cases h : ws[i]? with
  | none => rw [List.filterMap_cons_none h]
  | some w => rw [List.filterMap_cons_some h]
theorem nthA_z {w : Val} {ws r : List Val} : nthA (w :: ws) 0 r = w :: r := nd rfl
theorem nthA_s {w : Val} {ws r : List Val} : nthA (w :: ws) (n + 1) r = nthA ws n r := nd rfl
def kBf (f : FL1) : List Val → Store → R Val := fun xs s => R.opt (f xs s)
theorem kBf_eq (f : FL1) (xs : List Val) (s : Store) : kBf f xs s = R.opt (f xs s) := nd rfl
theorem eB_eq {f1 : FL1} : eB f1 a ρ st = (a ρ st).bind (kBf f1) := nd rfl
/-- what a method has made of its list -/
def mOut (st : Store) (p : Nat) (o : Option (Val × List Val)) : R Val := match o with
  | some (z, zs) => .ok z (st.set p (.lst zs))
  | none => .bad
theorem mOut_some {p : Nat} {q : Val × List Val} : mOut st p (some q) = .ok q.1 (st.set p (.lst q.2)) := nd rfl
def onL (o : Option (List Val)) (f : List Val → R Val) : R Val := match o with
  | some xs => f xs
  | none => .bad
def kM3 (f : FM) (p : Nat) (ys : List Val) (s : Store) : List Val → R Val := fun xs => mOut s p (f xs ys)
theorem kM3_eq {f : FM} {p : Nat} {ys xs : List Val} {s : Store} : kM3 f p ys s xs = mOut s p (f xs ys) := nd rfl
def kM2 (f : FM) (p : Nat) : List Val → Store → R Val := fun ys s => onL (lstAt s p) (kM3 f p ys s)
theorem kM2_eq {f : FM} {p : Nat} {ys : List Val} {s : Store} : kM2 f p ys s = onL (lstAt s p) (kM3 f p ys s) := nd rfl
def kM1' (f : FM) (a : FA) (ρ : Env) (p : Nat) (s : Store) : List Val → R Val := fun _ => (a ρ s).bind (kM2 f p)
theorem kM1'_eq {f : FM} {p : Nat} {xs : List Val} {s : Store} : kM1' f a ρ p s xs = (a ρ s).bind (kM2 f p) := nd rfl
def kM1 (f : FM) (a : FA) (ρ : Env) : Val → Store → R Val := fun x s => match x with
  | .ref p => onL (lstAt s p) (kM1' f a ρ p s)
  | _ => .bad
theorem kM1_eq {f : FM} {p : Nat} {s : Store} : kM1 f a ρ (.ref p) s = onL (lstAt s p) (kM1' f a ρ p s) := nd rfl
theorem onL_some {xs : List Val} {f : List Val → R Val} : onL (some xs) f = f xs := nd rfl
theorem eM_eq {f : FM} : eM f te a ρ st = (te ρ st).bind (kM1 f a ρ) := by
  unfold eM
  congr 1
def kExt2 (p : Nat) : Val → Store → R Val := fun y s => match lstAt s p, plOf s y with
  | some xs, some zs => bif Nat.ble (xs.length + zs.length) sizeLine then .ok .non (s.set p (.lst (xs ++ zs))) else .bad
  | _, _ => .bad
def kSl3 (b : Bool) (x : Val) (l : Option Int) : Option Int → Store → R Val := fun h s => R.opt (slF b x l h s)
theorem kSl3_eq (b : Bool) (x : Val) (l : Option Int) (h : Option Int) (s : Store) : kSl3 b x l h s = R.opt (slF b x l h s) := nd rfl
def kSl2 (b : Bool) (hi : FO) (ρ : Env) (x : Val) : Option Int → Store → R Val := fun l s => (hi ρ s).bind (kSl3 b x l)
theorem kSl2_eq (b : Bool) (hi : FO) (ρ : Env) (x : Val) (l : Option Int) (s : Store) : kSl2 b hi ρ x l s = (hi ρ s).bind (kSl3 b x l) := nd rfl
def kSl1 (b : Bool) (lo hi : FO) (ρ : Env) : Val → Store → R Val := fun x s => (lo ρ s).bind (kSl2 b hi ρ x)
theorem kSl1_eq (b : Bool) (lo hi : FO) (ρ : Env) (x : Val) (s : Store) : kSl1 b lo hi ρ x s = (lo ρ s).bind (kSl2 b hi ρ x) := nd rfl
theorem eSl_eq {b : Bool} {lo hi : FO} : eSl b te lo hi ρ st = (te ρ st).bind (kSl1 b lo hi ρ) := nd rfl
theorem oNo_eq  : oNo ρ st = .ok none st := nd rfl
def kAt : Val → Store → R (Option Int) := fun x s => match x with
  | .int i => .ok (some i) s
  | _ => .bad
theorem kAt_eq (i : Int) (s : Store) : kAt (.int i) s = .ok (some i) s := nd rfl
theorem oAt_eq : oAt te ρ st = (te ρ st).bind kAt := nd rfl
def kIsi (T : Ty) : Val → Store → R Val := fun x s => match tyF s x with
  | some U => .ok (.bl (U.le T)) s
  | none => .bad
theorem kIsi_eq {T U : Ty} {s : Store} (h : tyF s x = some U) : kIsi T x s = .ok (.bl (U.le T)) s := by unfold kIsi; rw [h]
theorem kIsi_non {T : Ty} {s : Store} : kIsi T .non s = .ok (.bl (Ty.le .non T)) s := nd rfl
theorem kIsi_bl {T : Ty} {s : Store} {b : Bool} : kIsi T (.bl b) s = .ok (.bl (Ty.le .bool T)) s := nd rfl
theorem kIsi_int {T : Ty} {s : Store} {i : Int} : kIsi T (.int i) s = .ok (.bl (Ty.le .int T)) s := nd rfl
theorem kIsi_str {T : Ty} {s : Store} {i : Str} : kIsi T (.str i) s = .ok (.bl (Ty.le .str T)) s := nd rfl
theorem kIsi_tup {T : Ty} {s : Store} {xs : List Val} : kIsi T (.tup xs) s = .ok (.bl (Ty.le .tuple T)) s := nd rfl
theorem kIsi_ro {T : Ty} {s : Store} {xs : List Val} : kIsi T (.ro xs) s = .ok (.bl (Ty.le .list T)) s := nd rfl
theorem kIsi_wr {T : Ty} {s : Store} {xs : List Val} : kIsi T (.wr xs) s = .ok (.bl (Ty.le .list T)) s := nd rfl
theorem kIsi_rd {T : Ty} {s : Store} {ks : List Key} {xs : List Val} : kIsi T (.rd ks xs) s = .ok (.bl (Ty.le .dict T)) s := nd rfl
theorem eIsi_eq {T : Ty} : eIsi T te ρ st = (te ρ st).bind (kIsi T) := nd rfl
def kTru : Val → Store → R Bool := fun x s => match truF s x with
  | some b => .ok b s
  | none => .bad
theorem kTru_eq {b : Bool} {s : Store} (h : truF s x = some b) : kTru x s = .ok b s := by unfold kTru; rw [h]
theorem kTru_non {s : Store} : kTru .non s = .ok false s := nd rfl
theorem kTru_bl {s : Store} {b : Bool} : kTru (.bl b) s = .ok b s := nd rfl
theorem kTru_int {s : Store} {i : Int} : kTru (.int i) s = .ok (i != 0) s := nd rfl
theorem kTru_tup {s : Store} {xs : List Val} : kTru (.tup xs) s = .ok (!xs.isEmpty) s := nd rfl
theorem kTru_ro {s : Store} {xs : List Val} : kTru (.ro xs) s = .ok (!xs.isEmpty) s := nd rfl
theorem tTru_eq : tTru te ρ st = (te ρ st).bind kTru := nd rfl
def kRev (b : Bool) : Val → Store → R Val := fun x s => R.opt (revF b x s)
theorem kRev_eq {b : Bool} {s : Store} : kRev b x s = R.opt (revF b x s) := nd rfl
theorem eRev_eq {b : Bool} : eRev b te ρ st = (te ρ st).bind (kRev b) := nd rfl
def kMk1 (n f : Str) : List Val → Store → R Val := fun xs s => match xs with
  | [x] => .ok (.ex1 n f x) s
  | _ => .bad
theorem kMk1_eq {n f : Str} {s : Store} : kMk1 n f [x] s = .ok (.ex1 n f x) s := nd rfl
theorem eMk1_eq {n f : Str} : eMk1 n f a ρ st = (a ρ st).bind (kMk1 n f) := nd rfl
/-- a comprehension's result -/
def lcOut (b : Bool) (o : Option (List Val × Store)) : R Val := match o with
  | some (xs, st2) => .ok (newL b xs st2).1 (newL b xs st2).2
  | none => .bad
theorem lcOut_some {b : Bool} {p : List Val × Store} : lcOut b (some p) = okL b p.1 p.2 := nd rfl
def kLc (b : Bool) (g : FG) (c : FT) (te : FE) (ρ : Env) : Its → Store → R Val := fun cur s => lcOut b (lcl cur g c te ρ bigN 0 [] s)
theorem kLc_eq {b : Bool} {g : FG} {cur : Its} {s : Store} : kLc b g c te ρ cur s = lcOut b (lcl cur g c te ρ bigN 0 [] s) := nd rfl
theorem eLc_eq {b : Bool} {wi : FI} {g : FG} {vs : List Nat} : eLc b wi g c te vs ρ st = (wi ρ st).bind (kLc b g c te (wipeF ρ vs)) := nd rfl
/-- an item's end -/
def lcEnd (r : R Val) : Option (Option Val × Store) := match r with
  | .ok y s => some (some y, s)
  | _ => none
theorem lcEnd_ok : lcEnd (.ok x st) = some (some x, st) := nd rfl
def lcTst (te : FE) (ρ : Env) (r : R Bool) : Option (Option Val × Store) := match r with
  | .ok true s => lcEnd (te ρ s)
  | .ok false s => some (none, s)
  | _ => none
theorem lcTst_t : lcTst te ρ (.ok true st) = lcEnd (te ρ st) := nd rfl
theorem lcTst_f : lcTst te ρ (.ok false st) = some (none, st) := nd rfl
def lcTg (tt : FT) (te : FE) (o : Option (Env × Store)) : Option (Option Val × Store) := match o with
  | some (ρ1, st1) => lcTst te ρ1 (tt ρ1 st1)
  | none => none
theorem lcTg_some {p : Env × Store} : lcTg c te (some p) = lcTst te p.1 (c p.1 p.2) := nd rfl
theorem lc1_eq {g : FG} : lc1 g c te x ρ st = lcTg c te (g x ρ st) := by
  unfold lc1 lcTg
  cases g x ρ st with
  | none => rfl
  | some p =>
    dsimp only
    unfold lcTst
    cases c p.1 p.2 with
    | ok b s =>
      cases b with
      | true =>
        dsimp only
        unfold lcEnd
        cases te p.1 s <;> rfl
      | false => rfl
    | exc _ _ => rfl
    | bad => rfl
/-! what is walked -/
def curR (o : Option Its) (s : Store) : R Its := match o with
  | some cur => .ok cur s
  | none => .bad
theorem curR_some {cur : Its} : curR (some cur) st = .ok cur st := nd rfl
def kSeq : Val → Store → R Its := fun x s => curR (curOf s x) s
theorem kSeq_eq {s : Store} : kSeq x s = curR (curOf s x) s := nd rfl
theorem iSeq_eq : iSeq te ρ st = (te ρ st).bind kSeq := nd rfl
def kRg1 : List Val → Store → R Its := fun xs s => match xs with
  | [.int n] => bif okRg 0 n then .ok (fun (_ : Store) => some (rngs 0 n.toNat)) s else .bad
  | _ => .bad
theorem kRg1_eq {n : Int} {s : Store} (h : (-4611686018427387904 ≤ n ∧ n < 4611686018427387904)) : kRg1 [.int n] s = .ok (fun (_ : Store) => some (rngs 0 n.toNat)) s := by
  unfold kRg1
  dsimp only
  rw [show okRg 0 n = true by unfold okRg; exact decide_eq_true (by omega)]
  rfl
theorem iRg1_eq : iRg1 a ρ st = (a ρ st).bind kRg1 := nd rfl
def kRg2 : List Val → Store → R Its := fun xs s => match xs with
  | [.int a, .int b] => bif okRg a b then .ok (fun (_ : Store) => some (rngs a (b - a).toNat)) s else .bad
  | _ => .bad
theorem kRg2_eq {n m : Int} {s : Store} (h : (-4611686018427387904 ≤ n ∧ n < 4611686018427387904) ∧ (-4611686018427387904 ≤ m ∧ m < 4611686018427387904)) : kRg2 [.int n, .int m] s = .ok (fun (_ : Store) => some (rngs n (m - n).toNat)) s := by
  unfold kRg2
  dsimp only
  rw [show okRg n m = true by unfold okRg; exact decide_eq_true (by omega)]
  rfl
theorem iRg2_eq : iRg2 a ρ st = (a ρ st).bind kRg2 := nd rfl
def enR (o : Option Its) (s : Store) : R Its := match o with
  | some cur => .ok (enC cur) s
  | none => .bad
theorem enR_some {cur : Its} : enR (some cur) st = .ok (enC cur) st := nd rfl
def kEn : List Val → Store → R Its := fun xs s => match xs with
  | [x] => enR (curOf s x) s
  | _ => .bad
theorem kEn_eq {s : Store} : kEn [x] s = enR (curOf s x) s := nd rfl
theorem iEn_eq : iEn a ρ st = (a ρ st).bind kEn := nd rfl
def zpR (b : Bool) (o o' : Option Its) (s : Store) : R Its := match o, o' with
  | some c1, some c2 => .ok (zpC b c1 c2) s
  | _, _ => .bad
theorem zpR_some {b : Bool} {c1 c2 : Its} : zpR b (some c1) (some c2) st = .ok (zpC b c1 c2) st := nd rfl
def kZp (b : Bool) : List Val → Store → R Its := fun xs s => match xs with
  | [x, y] => zpR b (curOf s x) (curOf s y) s
  | _ => .bad
theorem kZp_eq {b : Bool} {s : Store} : kZp b [x, y] s = zpR b (curOf s x) (curOf s y) s := nd rfl
theorem iZpB_eq {b : Bool} : iZpB b a ρ st = (a ρ st).bind (kZp b) := nd rfl
/-! listings -/
def kRgL1 (b : Bool) : Val → Store → R Val := fun x s => match x with
  | .int n => bif okRgB 0 n then .ok (newL b (rngs 0 (n - 0).toNat) s).1 (newL b (rngs 0 (n - 0).toNat) s).2 else .bad
  | _ => .bad
theorem kRgL1_eq {b : Bool} {n : Int} {s : Store} (h : (-4611686018427387904 ≤ n ∧ n < 4611686018427387904) ∧ (n - 0).toNat ≤ 10000) : kRgL1 b (.int n) s = okL b (rngs 0 (n - 0).toNat) s := by
  unfold kRgL1
  dsimp only
  rw [show okRgB 0 n = true by unfold okRgB okRg; rw [decide_eq_true (by omega), decide_eq_true (Nat.le_trans (show ((n) - 0).toNat ≤ 10000 by omega) (by decide))]; rfl]
  rfl
theorem eListRg1_eq {b : Bool} : eListRg1 b te ρ st = (te ρ st).bind (kRgL1 b) := nd rfl
def kRgT1 : Val → Store → R Val := fun x s => match x with
  | .int n => bif okRgB 0 n then .ok (.tup (rngs 0 (n - 0).toNat)) s else .bad
  | _ => .bad
theorem kRgT1_eq {n : Int} {s : Store} (h : (-4611686018427387904 ≤ n ∧ n < 4611686018427387904) ∧ (n - 0).toNat ≤ 10000) : kRgT1 (.int n) s = .ok (.tup (rngs 0 (n - 0).toNat)) s := by
  unfold kRgT1
  dsimp only
  rw [show okRgB 0 n = true by unfold okRgB okRg; rw [decide_eq_true (by omega), decide_eq_true (Nat.le_trans (show ((n) - 0).toNat ≤ 10000 by omega) (by decide))]; rfl]
  rfl
theorem eTupRg1_eq : eTupRg1 te ρ st = (te ρ st).bind kRgT1 := nd rfl
def kRgL2 (b : Bool) (x : Val) : Val → Store → R Val := fun y s => match x, y with
  | .int n, .int m => bif okRgB n m then .ok (newL b (rngs n (m - n).toNat) s).1 (newL b (rngs n (m - n).toNat) s).2 else .bad
  | _, _ => .bad
theorem kRgL2_eq {b : Bool} {n m : Int} {s : Store} (h : (-4611686018427387904 ≤ n ∧ n < 4611686018427387904) ∧ (-4611686018427387904 ≤ m ∧ m < 4611686018427387904) ∧ (m - n).toNat ≤ 10000) : kRgL2 b (.int n) (.int m) s = okL b (rngs n (m - n).toNat) s := by
  unfold kRgL2
  dsimp only
  rw [show okRgB n m = true by unfold okRgB okRg; rw [decide_eq_true (by omega), decide_eq_true (Nat.le_trans (show ((m) - n).toNat ≤ 10000 by omega) (by decide))]; rfl]
  rfl
def kRgL2a (b : Bool) (tb : FE) (ρ : Env) : Val → Store → R Val := fun x s => (tb ρ s).bind (kRgL2 b x)
theorem kRgL2a_eq {b : Bool} {s : Store} : kRgL2a b tb ρ x s = (tb ρ s).bind (kRgL2 b x) := nd rfl
theorem eListRg2_eq {b : Bool} : eListRg2 b ta tb ρ st = (ta ρ st).bind (kRgL2a b tb ρ) := nd rfl
def kRgT2 (x : Val) : Val → Store → R Val := fun y s => match x, y with
  | .int n, .int m => bif okRgB n m then .ok (.tup (rngs n (m - n).toNat)) s else .bad
  | _, _ => .bad
theorem kRgT2_eq {n m : Int} {s : Store} (h : (-4611686018427387904 ≤ n ∧ n < 4611686018427387904) ∧ (-4611686018427387904 ≤ m ∧ m < 4611686018427387904) ∧ (m - n).toNat ≤ 10000) : kRgT2 (.int n) (.int m) s = .ok (.tup (rngs n (m - n).toNat)) s := by
  unfold kRgT2
  dsimp only
  rw [show okRgB n m = true by unfold okRgB okRg; rw [decide_eq_true (by omega), decide_eq_true (Nat.le_trans (show ((m) - n).toNat ≤ 10000 by omega) (by decide))]; rfl]
  rfl
def kRgT2a (tb : FE) (ρ : Env) : Val → Store → R Val := fun x s => (tb ρ s).bind (kRgT2 x)
theorem kRgT2a_eq {s : Store} : kRgT2a tb ρ x s = (tb ρ s).bind (kRgT2 x) := nd rfl
theorem eTupRg2_eq : eTupRg2 ta tb ρ st = (ta ρ st).bind (kRgT2a tb ρ) := nd rfl
variable {xs ys : List Val}
theorem cur_tup : curOf st (.tup xs) = some fun _ => some xs := nd rfl
theorem cur_ro : curOf st (.ro xs) = some fun _ => some xs := nd rfl
theorem cur_wr : curOf st (.wr xs) = some fun _ => some xs := nd rfl
theorem lstAt_of {p : Nat} (h : st[p]? = some (.lst xs)) : lstAt st p = some xs := by unfold lstAt; rw [h]
theorem cur_ref {p : Nat} (h : st[p]? = some (.lst xs)) : curOf st (.ref p) = some fun s => lstAt s p := by
  unfold curOf
  dsimp only
  rw [lstAt_of h]
theorem enC_c : enC (fun _ => some xs) = fun _ => some (enL xs) := nd rfl
theorem seq_tup : seqOf st (.tup xs) = some xs := nd rfl
theorem seq_ro : seqOf st (.ro xs) = some xs := nd rfl
theorem seq_wr : seqOf st (.wr xs) = some xs := nd rfl
theorem lst_ro : lstOf st (.ro xs) = some xs := nd rfl
theorem lst_wr : lstOf st (.wr xs) = some xs := nd rfl
theorem pl_ro : plOf st (.ro xs) = some xs := nd rfl
theorem seq_ref {p : Nat} (h : st[p]? = some (.lst xs)) : seqOf st (.ref p) = some xs := lstAt_of h
theorem lst_ref {p : Nat} (h : st[p]? = some (.lst xs)) : lstOf st (.ref p) = some xs := lstAt_of h
theorem pl_ref {p : Nat} (h : st[p]? = some (.lst xs)) : plOf st (.ref p) = some xs := lstAt_of h
theorem store_set {p : Nat} {c : Cell} (h : p < st.length) : (st.set p c)[p]? = some c := by
  rw [List.getElem?_set_self h]
theorem store_set_ne {p q : Nat} {c : Cell} (h : p ≠ q) : (st.set p c)[q]? = st[q]? := List.getElem?_set_ne h
theorem store_new {c : Cell} : (st ++ [c])[st.length]? = some c := getElem?_end rfl
theorem store_app {p : Nat} {cs : Store} (h : p < st.length) : (st ++ cs)[p]? = st[p]? := List.getElem?_append_left h
/-! whole numbers -/
variable {a1 a2 : Int} {b : Bool}
theorem fAdd_i : fAdd b (.int a1) (.int a2) st = some (.int (a1 + a2), st) := nd rfl
theorem fSub_i : fSub (.int a1) (.int a2) st = some (.int (a1 - a2), st) := nd rfl
theorem fMod_i (h : 0 < a2) : fMod (.int a1) (.int a2) st = some (.int (a1 % a2), st) := by
  show (bif decide (0 < a2) then some (Val.int (a1 % a2), st) else none) = _
  rw [decide_eq_true h]; rfl
theorem okMul_l (h : -18446744073709551616 < a1 ∧ a1 < 18446744073709551616) : okMul a1 a2 = true := by
  unfold okMul
  rw [decide_eq_true (Or.inl (by simpa using h))]
  rfl
theorem okMul_r (h : -18446744073709551616 < a2 ∧ a2 < 18446744073709551616) : okMul a1 a2 = true := by
  unfold okMul
  rw [decide_eq_true (Or.inr (by simpa using h))]
  rfl
theorem fMul_i (h : (-18446744073709551616 < a1 ∧ a1 < 18446744073709551616) ∨ (-18446744073709551616 < a2 ∧ a2 < 18446744073709551616)) : fMul b (.int a1) (.int a2) st = some (.int (a1 * a2), st) := by
  show (bif okMul a1 a2 then some (Val.int (a1 * a2), st) else none) = _
  rw [h.elim okMul_l okMul_r]; rfl
theorem fDiv_i (h : 0 < a2 ∧ a2 < 1152921504606846976) : fDiv (.int a1) (.int a2) st = some (.int (a1 / a2), st) := by
  show (bif okDiv a2 then some (Val.int (a1 / a2), st) else none) = _
  have h1 : a2.natAbs < 2 ^ 60 := by omega
  have h2 : a2.natAbs.log2 < 9000 := Nat.lt_of_lt_of_le (PySem.Flt.log2_lt_of (by decide) h1) (by decide)
  unfold okDiv
  rw [decide_eq_true h.1, decide_eq_true h2]; rfl
theorem fLt_i : fLt (.int a1) (.int a2) st = some (.bl (decide (a1 < a2)), st) := nd rfl
theorem fLe_i : fLe (.int a1) (.int a2) st = some (.bl (decide (a1 ≤ a2)), st) := nd rfl
theorem fGt_i : fGt (.int a1) (.int a2) st = some (.bl (decide (a2 < a1)), st) := nd rfl
theorem fGe_i : fGe (.int a1) (.int a2) st = some (.bl (decide (a2 ≤ a1)), st) := nd rfl
theorem fNeg_i : fNeg (.int a1) st = some (.int (-a1), st) := nd rfl
theorem fEq_i : fEq false (.int a1) (.int a2) st = some (.bl (decide (a1 = a2)), st) := nd rfl
theorem fNe_i : fEq true (.int a1) (.int a2) st = some (.bl (!decide (a1 = a2)), st) := nd rfl
theorem fEq_s {s1 s2 : Str} : fEq false (.str s1) (.str s2) st = some (.bl (decide (s1 = s2)), st) := nd rfl
theorem fNe_s {s1 s2 : Str} : fEq true (.str s1) (.str s2) st = some (.bl (!decide (s1 = s2)), st) := nd rfl
theorem fIsN_eq : fIsN b x .non st = some (.bl (bif b then !isN x else isN x), st) := nd rfl
theorem isN_non : isN .non = true := nd rfl
theorem isN_bl : isN (.bl b) = false := nd rfl
theorem isN_int : isN (.int a1) = false := nd rfl
theorem isN_str {s1 : Str} : isN (.str s1) = false := nd rfl
theorem isN_tup : isN (.tup xs) = false := nd rfl
theorem isN_ro : isN (.ro xs) = false := nd rfl
theorem isN_ref : isN (.ref n) = false := nd rfl
theorem isN_ex1 {c f : Str} : isN (.ex1 c f x) = false := nd rfl
theorem isN_ex0 {c : Str} : isN (.ex0 c) = false := nd rfl
theorem ble_sz {k : Nat} (h : k ≤ 10000) : Nat.ble k sizeLine = true := Nat.ble_eq_true_of_le (Nat.le_trans h (by decide))
theorem fAdd_tup (h : xs.length + ys.length ≤ 10000) : fAdd b (.tup xs) (.tup ys) st = some (.tup (xs ++ ys), st) := by
  show (bif Nat.ble (xs.length + ys.length) sizeLine then some (Val.tup (xs ++ ys), st) else none) = _
  rw [ble_sz h]; rfl
theorem fAdd_ro (h : xs.length + ys.length ≤ 10000) : fAdd b (.ro xs) (.ro ys) st = some (newL b (xs ++ ys) st) := by
  show (bif Nat.ble (xs.length + ys.length) sizeLine then some (newL b (xs ++ ys) st) else none) = _
  rw [ble_sz h]; rfl
theorem okRg_eq (h : (-4611686018427387904 ≤ a1 ∧ a1 < 4611686018427387904) ∧ (-4611686018427387904 ≤ a2 ∧ a2 < 4611686018427387904)) : okRg a1 a2 = true := by
  unfold okRg
  exact decide_eq_true ⟨by omega, by omega, by omega, by omega⟩
theorem fLen_tup (h : xs.length ≤ 10000) : fLen [.tup xs] st = some (.int (xs.length : Nat), st) := by
  have := ble_sz h
  unfold fLen
  simp only [seqOf]
end
end FL
/-! loops as folds, comprehensions as maps -/
namespace FL
open PySem L2
theorem fl_foldS {α σ : Type} (l : List α) (e : α → Val) (f : σ → α → σ) (P : List α → σ → Prop) (E : σ → Env) (T : σ → Store) {cur : Its} {g : FG} {b : FS} (hc : ∀ s, cur (T s) = some (l.map e))
    (hb : ∀ d a r s, l = d ++ a :: r → P d s → ∃ ρ1 st1, g (e a) (E s) (T s) = some (ρ1, st1) ∧ (b ρ1 st1 = .nx (E (f s a)) (T (f s a)) ∨ b ρ1 st1 = .ct (E (f s a)) (T (f s a))) ∧ P (d ++ [a]) (f s a)) :
    ∀ (m : Nat) (d r : List α) (s : σ), l = d ++ r → P d s → r.length < m → fl cur g b m d.length (E s) (T s) = .nx (E (r.foldl f s)) (T (r.foldl f s)) ∧ P l (r.foldl f s)
  | 0, d, r, s, h1, h2, h3 => by omega
  | m + 1, d, [], s, h1, h2, h3 => by
    unfold fl
    rw [hc]
    dsimp only
    rw [List.append_nil] at h1
    subst h1
    rw [List.getElem?_eq_none (by rw [List.length_map]; exact Nat.le_refl _)]
    exact ⟨rfl, h2⟩
  | m + 1, d, a :: r, s, h1, h2, h3 => by
    obtain ⟨ρ1, st1, q1, q2, q3⟩ := hb d a r s h1 h2
    unfold fl
    rw [hc]
    dsimp only
    have e1 : (l.map e)[d.length]? = some (e a) := by
      rw [List.getElem?_map, h1, List.getElem?_append_right (Nat.le_refl _), Nat.sub_self]
      rfl
    rw [e1]
    dsimp only
    rw [q1]
    dsimp only
    have ih := fl_foldS l e f P E T hc hb m (d ++ [a]) r (f s a) (by rw [h1, List.append_assoc]; rfl) q3 (by simpa using h3)
    rw [List.length_append] at ih
    rcases q2 with q2 | q2 <;> rw [q2] <;> exact ih
/-- a for as a fold: the store stays -/
theorem fl_fold {α σ : Type} (l : List α) (e : α → Val) (f : σ → α → σ) (E : σ → Env) (s0 : σ) {g : FG} {b : FS} {st : Store} (hl : l.length < 1000000)
    (hb : ∀ a s, a ∈ l → ∃ ρ1 st1, g (e a) (E s) st = some (ρ1, st1) ∧ b ρ1 st1 = .nx (E (f s a)) st) : fl (fun _ => some (l.map e)) g b bigN 0 (E s0) st = .nx (E (l.foldl f s0)) st :=
  (fl_foldS (cur := fun _ => some (l.map e)) l e f (fun _ _ => True) E (fun _ => st) (fun _ => rfl) (fun d a r s h _ => let ⟨ρ1, st1, q1, q2⟩ := hb a s (by rw [h]; simp); ⟨ρ1, st1, q1, .inl q2, trivial⟩) bigN [] l s0 rfl trivial hl).1
/-- .. by what holds behind each part; the store may change -/
theorem fl_foldP {α σ : Type} (l : List α) (e : α → Val) (f : σ → α → σ) (P : List α → σ → Prop) (E : σ → Env) (T : σ → Store) (s0 : σ) {cur : Its} {g : FG} {b : FS} (hl : l.length < 1000000) (h0 : P [] s0) (hc : ∀ s, cur (T s) = some (l.map e))
    (hb : ∀ d a r s, l = d ++ a :: r → P d s → ∃ ρ1 st1, g (e a) (E s) (T s) = some (ρ1, st1) ∧ (b ρ1 st1 = .nx (E (f s a)) (T (f s a)) ∨ b ρ1 st1 = .ct (E (f s a)) (T (f s a))) ∧ P (d ++ [a]) (f s a)) :
    fl cur g b bigN 0 (E s0) (T s0) = .nx (E (l.foldl f s0)) (T (l.foldl f s0)) ∧ P l (l.foldl f s0) := fl_foldS l e f P E T hc hb bigN [] l s0 rfl h0 hl
/-- a loop by a relation: what holds behind each part of the row -/
theorem fl_rel {α : Type} (l : List α) (e : α → Val) (J : List α → Env → Store → Prop) {cur : Its} {g : FG} {b : FS} {ρ : Env} {st : Store} {Q : S → Prop} (hl : l.length < 1000000) (h0 : J [] ρ st) (hc : ∀ d ρ st, J d ρ st → cur st = some (l.map e))
    (hb : ∀ d a r ρ st, l = d ++ a :: r → J d ρ st → ∃ ρ1 st1, g (e a) ρ st = some (ρ1, st1) ∧ (b ρ1 st1).turnP (J (d ++ [a])) Q) (he : ∀ ρ st, J l ρ st → Q (.nx ρ st)) : Q (fl cur g b bigN 0 ρ st) := by
  refine fl_inv (xs := l.map e) (fun i ρ st => i ≤ l.length ∧ J (l.take i) ρ st) (fun i ρ st h => hc _ _ _ h.2) (fun i x ρ st hx h => ?_) (fun ρ st h => ?_) bigN 0 ρ st (by rw [List.length_map]; exact Nat.lt_of_lt_of_le hl (Nat.le_add_left _ _)) (Nat.zero_le _) ⟨Nat.zero_le _, by rw [List.take_zero]; exact h0⟩
  · rw [List.getElem?_map] at hx
    cases e1 : l[i]? with
    | none => rw [e1] at hx; cases hx
    | some a =>
      rw [e1] at hx
      cases hx
      have hi := (List.getElem?_eq_some_iff.mp e1).1
      have ea := (List.getElem?_eq_some_iff.mp e1).2
      have el : l = l.take i ++ a :: l.drop (i + 1) := by
        rw [← ea, ← List.drop_eq_getElem_cons hi, List.take_append_drop]
      have et : l.take (i + 1) = l.take i ++ [a] := by rw [List.take_add_one, e1]; rfl
      obtain ⟨ρ1, st1, q1, q2⟩ := hb _ a _ ρ st el h.2
      refine ⟨ρ1, st1, q1, ?_⟩
      rw [et]
      have w : ∀ {r : S} {J J' : Env → Store → Prop}, (∀ ρ st, J ρ st → J' ρ st) → r.turnP J Q → r.turnP J' Q := fun {r J J'} i h => by
        cases r <;> first
          | exact i _ _ h
          | exact h
      exact w (fun _ _ z => ⟨hi, z⟩) q2
  · rw [List.length_map, List.take_length] at h
    exact he ρ st h.2
/-- .. that comes to its end -/
theorem fl_nx {α : Type} (l : List α) (e : α → Val) (J : List α → Env → Store → Prop) {cur : Its} {g : FG} {b : FS} {ρ : Env} {st : Store} (hl : l.length < 1000000) (h0 : J [] ρ st) (hc : ∀ d ρ st, J d ρ st → cur st = some (l.map e))
    (hb : ∀ d a r ρ st, l = d ++ a :: r → J d ρ st → ∃ ρ1 st1, g (e a) ρ st = some (ρ1, st1) ∧ (b ρ1 st1).turnP (J (d ++ [a])) fun _ => False) : ∃ ρ' st', fl cur g b bigN 0 ρ st = .nx ρ' st' ∧ J l ρ' st' :=
  fl_rel (Q := fun r => ∃ ρ' st', r = .nx ρ' st' ∧ J l ρ' st') l e J hl h0 hc (fun d a r ρ st h1 h2 => let ⟨ρ1, st1, q1, q2⟩ := hb d a r ρ st h1 h2; ⟨ρ1, st1, q1, by
    cases hr : b ρ1 st1 <;> rw [hr] at q2 <;> first | exact q2 | exact q2.elim⟩) fun ρ st h => ⟨ρ, st, rfl, h⟩
/-- range -/
theorem rngs_map (lo : Int) (n : Nat) : rngs lo n = (List.range n).map fun i => Val.int (lo + (i : Nat)) := rfl
/-- a comprehension as a filter and a map -/
theorem lcl_fm {α : Type} (l : List α) (e : α → Val) (f : α → Option Val) {cur : Its} {g : FG} {tt : FT} {te : FE} {ρ : Env} {st : Store} (hc : cur st = some (l.map e)) (hz : l.length ≤ 10000) (hs : ∀ a ∈ l, lc1 g tt te (e a) ρ st = some (f a, st)) :
    lcl cur g tt te ρ bigN 0 [] st = some (l.filterMap f, st) := by
  have key : ∀ (m : Nat) (d r : List α) (acc : List Val), l = d ++ r → acc.length ≤ d.length → r.length < m → lcl cur g tt te ρ m d.length acc st = some (acc ++ r.filterMap f, st) := by
    intro m
    induction m with
    | zero => intro d r acc _ _ h; omega
    | succ m ih =>
      intro d r acc h1 h2 h3
      unfold lcl
      rw [hc]
      dsimp only
      have hll : l.length = d.length + r.length := by rw [h1, List.length_append]
      cases r with
      | nil =>
        rw [List.getElem?_eq_none (by rw [List.length_map, hll]; simp)]
        simp
      | cons a r =>
        have e1 : (l.map e)[d.length]? = some (e a) := by
          rw [List.getElem?_map, h1, List.getElem?_append_right (Nat.le_refl _), Nat.sub_self]
          rfl
        rw [e1]
        dsimp only
        rw [hs a (by rw [h1]; simp)]
        have h4 : l = (d ++ [a]) ++ r := by rw [h1, List.append_assoc]; rfl
        have h5 : r.length < m := by simpa using h3
        cases ef : f a with
        | none =>
          dsimp only
          have := ih (d ++ [a]) r acc h4 (by rw [List.length_append]; omega) h5
          rw [List.length_append] at this
          rw [List.filterMap_cons_none ef]
          exact this
        | some y =>
          dsimp only
          rw [show Nat.blt acc.length sizeLine = true from Nat.ble_eq_true_of_le (show acc.length + 1 ≤ 16777216 by rw [List.length_cons] at hll; omega)]
          have := ih (d ++ [a]) r (acc ++ [y]) h4 (by rw [List.length_append, List.length_append]; simp; omega) h5
          rw [List.length_append] at this
          rw [List.filterMap_cons_some ef, show acc ++ y :: r.filterMap f = (acc ++ [y]) ++ r.filterMap f by simp]
          exact this
  exact key bigN [] l [] rfl (Nat.le_refl _) (by show l.length < 1000000; omega)
theorem lcl_mp {α : Type} (l : List α) (e : α → Val) (f : α → Val) {cur : Its} {g : FG} {tt : FT} {te : FE} {ρ : Env} {st : Store} (hc : cur st = some (l.map e)) (hz : l.length ≤ 10000) (hs : ∀ a ∈ l, lc1 g tt te (e a) ρ st = some (some (f a), st)) :
    lcl cur g tt te ρ bigN 0 [] st = some (l.map f, st) := by
  rw [lcl_fm l e (fun a => some (f a)) hc hz hs]
  simp
/-- a comprehension that changes the store: by what holds behind each part -/
theorem lcl_rel {α : Type} (l : List α) (e : α → Val) (J : List α → List Val → Store → Prop) {cur : Its} {g : FG} {tt : FT} {te : FE} {ρ : Env} {st : Store} (hz : l.length ≤ 10000) (h0 : J [] [] st) (hc : ∀ d acc st, J d acc st → cur st = some (l.map e))
    (hs : ∀ d a r acc st, l = d ++ a :: r → J d acc st → ∃ o st1, lc1 g tt te (e a) ρ st = some (o, st1) ∧ J (d ++ [a]) (acc ++ o.toList) st1) : ∃ acc st', lcl cur g tt te ρ bigN 0 [] st = some (acc, st') ∧ J l acc st' := by
  obtain ⟨acc, st', h1, h2, h3⟩ := lcl_inv (ρ := ρ) (cur := cur) (g := g) (tt := tt) (te := te) (xs := l.map e) (fun i acc st => i ≤ l.length ∧ J (l.take i) acc st) (by rw [List.length_map]; exact Nat.le_trans hz (by decide)) (fun i acc st h => hc _ _ _ h.2) (fun i x acc st hx h => by
    rw [List.getElem?_map] at hx
    cases e1 : l[i]? with
    | none => rw [e1] at hx; cases hx
    | some a =>
      rw [e1] at hx
      cases hx
      have hi := (List.getElem?_eq_some_iff.mp e1).1
      have ea := (List.getElem?_eq_some_iff.mp e1).2
      have el : l = l.take i ++ a :: l.drop (i + 1) := by
        rw [← ea, ← List.drop_eq_getElem_cons hi, List.take_append_drop]
      have et : l.take (i + 1) = l.take i ++ [a] := by rw [List.take_add_one, e1]; rfl
      obtain ⟨o, st1, q1, q2⟩ := hs _ a _ acc st el h.2
      exact ⟨o, st1, q1, hi, by rw [et]; exact q2⟩) bigN 0 [] st (by rw [List.length_map]; show l.length < 0 + 1000000; omega) (Nat.zero_le _) (Nat.le_refl _) ⟨Nat.zero_le _, by rw [List.take_zero]; exact h0⟩
  rw [List.length_map, List.take_length] at h3
  exact ⟨acc, st', h1, h3⟩
/-! rows of whole numbers -/
abbrev iL (l : List Int) : List Val := l.map Val.int
theorem rev_map {α β : Type} {l : List α} {f : α → β} : (l.map f).reverse = l.reverse.map f := List.map_reverse.symm
theorem len_map {α β : Type} {l : List α} {f : α → β} : (l.map f).length = l.length := List.length_map ..
theorem revF_tup {st : Store} {xs : List Val} {b : Bool} : revF b (.tup xs) st = some (.tup xs.reverse, st) := nd rfl
theorem revF_ro {st : Store} {xs : List Val} {b : Bool} : revF b (.ro xs) st = some (newL b xs.reverse st) := nd rfl
end FL
/-! the mathematics: numbers by a prime, curves -/
namespace FL
open PySem PyProof.Rows L2
theorem log2_small {j : Int} (h0 : 0 < j) (h1 : j < 2 ^ 60) : j.natAbs.log2 < 9000 := by
  have h : j.natAbs < 2 ^ 60 := by omega
  exact Nat.lt_of_lt_of_le (PySem.Flt.log2_lt_of (by decide) h) (by decide)

/-- a curve's worth in whole numbers -/
def pev (ns : List Int) (x : Int) : Int := ns.foldr (fun n a => a * x + n) 0

theorem pev_cons (n : Int) (r : List Int) (x : Int) : pev (n :: r) x = pev r x * x + n := rfl

theorem horner_mod (ns : List Int) (x q : Int) : ns.foldr (fun n a => (a * x + n) % q) (0 % q) = pev ns x % q := by
  induction ns with
  | nil => rfl
  | cons n r ih =>
    rw [List.foldr_cons, ih, pev_cons]
    rw [Int.add_emod, Int.mul_emod, Int.emod_emod, ← Int.mul_emod, ← Int.add_emod]

def nine : List Int := [5, 7, 11, 13, 17, 19, 23, 29, 31]

theorem nine_le {q : Int} (h : q ∈ nine) : 5 ≤ q ∧ q ≤ 31 := by
  simp only [nine, List.mem_cons, List.not_mem_nil, or_false] at h
  omega

theorem six_nat (n d i : Nat) : HT.sIx n d (some (i : Int)) = min i n := HT.sIx_nat n d i

theorem log2_31 {n : Int} (h0 : 0 ≤ n) (h1 : n < 2 ^ 60) : n.natAbs.log2 < 1920 := by
  have h : n.natAbs < 2 ^ 60 := by omega
  exact Nat.lt_of_lt_of_le (PySem.Flt.log2_lt_of (by decide) h) (by decide)

theorem range_mid {n : Nat} {d r : List Nat} {i : Nat} (h : List.range n = d ++ i :: r) : i < n ∧ d = List.range i ∧ d.length = i := by
  have hl : d.length < n := by
    have e := congrArg List.length h
    rw [List.length_range, List.length_append, List.length_cons] at e
    omega
  have e2 : i = d.length := by
    have e := congrArg (fun l : List Nat => l[d.length]?) h
    rw [List.getElem?_range hl, List.getElem?_append_right (Nat.le_refl _), Nat.sub_self] at e
    exact (Option.some.inj e).symm
  have e3 : d = List.range d.length := by
    have e := congrArg (List.take d.length) h
    rw [List.take_append_of_le_length (Nat.le_refl _), List.take_length, List.take_range, Nat.min_eq_left (Nat.le_of_lt hl)] at e
    exact e.symm
  exact ⟨by omega, by rw [e2]; exact e3, e2.symm⟩

abbrev Cg (q a b : Int) : Prop := q ∣ a - b

theorem Cg.refl (q a : Int) : Cg q a a := by
  unfold Cg
  rw [Int.sub_self]
  exact Int.dvd_zero q

theorem Cg.symm {q a b : Int} (h : Cg q a b) : Cg q b a := by
  obtain ⟨k, e⟩ := h
  exact ⟨-k, by grind⟩

theorem Cg.trans {q a b c : Int} (h : Cg q a b) (g : Cg q b c) : Cg q a c := by
  obtain ⟨k, e⟩ := h
  obtain ⟨l, f⟩ := g
  exact ⟨k + l, by grind⟩

theorem Cg.add {q a b c d : Int} (h : Cg q a b) (g : Cg q c d) : Cg q (a + c) (b + d) := by
  obtain ⟨k, e⟩ := h
  obtain ⟨l, f⟩ := g
  exact ⟨k + l, by grind⟩

theorem Cg.sub {q a b c d : Int} (h : Cg q a b) (g : Cg q c d) : Cg q (a - c) (b - d) := by
  obtain ⟨k, e⟩ := h
  obtain ⟨l, f⟩ := g
  exact ⟨k - l, by grind⟩

theorem Cg.mul {q a b c d : Int} (h : Cg q a b) (g : Cg q c d) : Cg q (a * c) (b * d) := by
  obtain ⟨k, e⟩ := h
  obtain ⟨l, f⟩ := g
  exact ⟨k * c + b * l, by grind⟩

theorem Cg.mod (q a : Int) : Cg q (a % q) a := ⟨-(a / q), by
  have := Int.emod_add_mul_ediv a q
  grind⟩

theorem Cg.iff {q a b : Int} : Cg q a b ↔ a % q = b % q := (Int.emod_eq_emod_iff_emod_sub_eq_zero.trans Int.dvd_iff_emod_eq_zero.symm).symm

theorem Cg.eq {q a b : Int} (h : Cg q a b) (a0 : 0 ≤ a) (a1 : a < q) (b0 : 0 ≤ b) (b1 : b < q) : a = b := by
  have := Cg.iff.mp h
  rwa [Int.emod_eq_of_lt a0 a1, Int.emod_eq_of_lt b0 b1] at this

theorem cg_zero {q a : Int} : Cg q a 0 ↔ a % q = 0 := by
  rw [Cg.iff, Int.zero_emod]

/-- each number but 0 has its turned number -/
theorem nine_inv0 : ∀ q ∈ [5, 7, 11, 13, 17, 19, 23, 29, 31], ∀ a ∈ List.range q, a = 0 ∨ ∃ b ∈ List.range q, (a * b) % q = 1 := by decide +kernel

theorem nine_inv {q a : Int} (hq : q ∈ nine) (h0 : 0 < a) (h1 : a < q) : ∃ b, 0 < b ∧ b < q ∧ a * b % q = 1 := by
  have h5 := nine_le hq
  have hn : q.toNat ∈ [5, 7, 11, 13, 17, 19, 23, 29, 31] := by
    simp only [nine, List.mem_cons, List.not_mem_nil, or_false] at hq ⊢
    omega
  rcases nine_inv0 q.toNat hn a.toNat (List.mem_range.mpr (by omega)) with h | ⟨b, hb, h⟩
  · omega
  · have hb' := List.mem_range.mp hb
    have e : a * (b : Int) % q = 1 := by
      have ea : ((a.toNat : Nat) : Int) = a := Int.toNat_of_nonneg (by omega)
      have eq : ((q.toNat : Nat) : Int) = q := Int.toNat_of_nonneg (by omega)
      rw [← ea, ← eq]
      exact_mod_cast h
    refine ⟨b, ?_, by omega, e⟩
    have : b ≠ 0 := fun z => by
      subst z
      simp at e
    omega

theorem cg_inv {q a : Int} (hq : q ∈ nine) (h : ¬ Cg q a 0) : ∃ b, Cg q (a * b) 1 := by
  have h5 := nine_le hq
  have h1 : 0 ≤ a % q := Int.emod_nonneg _ (by omega)
  have h2 : a % q < q := Int.emod_lt_of_pos _ (by omega)
  have h3 : a % q ≠ 0 := fun z => h (cg_zero.mpr z)
  obtain ⟨b, _, _, e⟩ := nine_inv hq (a := a % q) (by omega) h2
  refine ⟨b, (Cg.mul (Cg.mod q a).symm (Cg.refl q b)).trans (Cg.iff.mpr ?_)⟩
  rw [e]
  exact (Int.emod_eq_of_lt (by decide) (by omega)).symm

theorem cg_cancel {q a b c : Int} (hq : q ∈ nine) (hc : ¬ Cg q c 0) (h : Cg q (a * c) (b * c)) : Cg q a b := by
  obtain ⟨d, hd⟩ := cg_inv hq hc
  have e1 : Cg q (a * c * d) a := by
    have := (Cg.refl q a).mul hd
    rw [Int.mul_one, ← Int.mul_assoc] at this
    exact this
  have e2 : Cg q (b * c * d) b := by
    have := (Cg.refl q b).mul hd
    rw [Int.mul_one, ← Int.mul_assoc] at this
    exact this
  exact e1.symm.trans ((h.mul (Cg.refl q d)).trans e2)

theorem cg_mul_ne {q a b : Int} (hq : q ∈ nine) (ha : ¬ Cg q a 0) (hb : ¬ Cg q b 0) : ¬ Cg q (a * b) 0 := fun h => ha (cg_cancel hq hb (by rw [Int.zero_mul]; exact h))

theorem cg_ne {q a b : Int} (a0 : 0 ≤ a) (a1 : a < q) (b0 : 0 ≤ b) (b1 : b < q) (h : a ≠ b) : ¬ Cg q (a - b) 0 := fun z => h (Cg.eq (by
  unfold Cg at z ⊢
  rwa [Int.sub_zero] at z) a0 a1 b0 b1)

/-- D of n :: r by a: what is left when the worth at a is put out -/
def dvt (a : Int) : List Int → List Int
  | [] => []
  | m :: r => pev (m :: r) a :: dvt a r

theorem dvt_len (a : Int) : ∀ r, (dvt a r).length = r.length
  | [] => rfl
  | _ :: r => congrArg (· + 1) (dvt_len a r)

theorem dvt_pev (a x : Int) : ∀ (n : Int) (r : List Int), pev (n :: r) x - pev (n :: r) a = (x - a) * pev (dvt a r) x
  | n, [] => by
    simp [pev, dvt]
  | n, m :: r => by
    have ih := dvt_pev a x m r
    rw [pev_cons n (m :: r) x, pev_cons n (m :: r) a, dvt, pev_cons (pev (m :: r) a) (dvt a r) x]
    generalize pev (m :: r) x = A at ih ⊢
    generalize pev (m :: r) a = B at ih ⊢
    generalize pev (dvt a r) x = C at ih ⊢
    have e : A = B + (x - a) * C := by omega
    rw [e]
    grind

theorem dvt_zero {q a : Int} : ∀ {r : List Int}, (∀ c ∈ dvt a r, Cg q c 0) → ∀ c ∈ r, Cg q c 0
  | [], _, _, h => by cases h
  | m :: r, h, c, hc => by
    have hr := dvt_zero (r := r) fun c hc => h c (List.mem_cons_of_mem _ hc)
    rcases List.mem_cons.mp hc with rfl | hc
    · have h1 : Cg q (pev (c :: r) a) 0 := h _ (List.mem_cons_self ..)
      have h2 : Cg q (pev r a) 0 := by
        cases r with
        | nil => exact Cg.refl q 0
        | cons m' r' => exact h _ (List.mem_cons_of_mem _ (List.mem_cons_self ..))
      rw [pev_cons] at h1
      have h3 := h1.sub (h2.mul (Cg.refl q a))
      have e : pev r a * a + c - pev r a * a = c := by grind
      rw [e, Int.zero_mul] at h3
      exact h3
    · exact hr c hc

def Uneq (q : Int) (xs : List Int) : Prop := xs.Pairwise fun x y => ¬ Cg q (x - y) 0

/-- a curve that comes to 0 at as many places as it has numbers is nought -/
theorem roots {q : Int} (hq : q ∈ nine) : ∀ (xs p : List Int), p.length ≤ xs.length → Uneq q xs → (∀ x ∈ xs, Cg q (pev p x) 0) → ∀ c ∈ p, Cg q c 0
  | [], p, hl, _, _, c, hc => by
    have : p = [] := List.length_eq_zero_iff.mp (by simpa using hl)
    subst this
    cases hc
  | a :: xs, [], _, _, _, c, hc => by cases hc
  | a :: xs, n :: r, hl, hu, h0, c, hc => by
    have hu' := List.pairwise_cons.mp hu
    have ha : Cg q (pev (n :: r) a) 0 := h0 a (List.mem_cons_self ..)
    have hd : ∀ x ∈ xs, Cg q (pev (dvt a r) x) 0 := fun x hx => by
      have hx0 := h0 x (List.mem_cons_of_mem _ hx)
      have e := dvt_pev a x n r
      have hz : Cg q ((x - a) * pev (dvt a r) x) 0 := by
        rw [← e]
        have := hx0.sub ha
        rwa [Int.sub_zero] at this
      have hne : ¬ Cg q (x - a) 0 := fun z => hu'.1 x hx (by
        have := (Cg.refl q 0).sub z
        have e2 : (0 : Int) - (x - a) = a - x := by omega
        rw [e2, Int.sub_zero] at this
        exact this)
      refine cg_cancel hq hne ?_
      rw [Int.zero_mul, Int.mul_comm]
      exact hz
    have hD := roots hq xs (dvt a r) (by rw [dvt_len]; simpa using hl) hu'.2 hd
    have hr := dvt_zero hD
    rcases List.mem_cons.mp hc with rfl | hc
    · have h2 : Cg q (pev r a) 0 := by
        cases r with
        | nil => exact Cg.refl q 0
        | cons m r' => exact hD _ (List.mem_cons_self ..)
      rw [pev_cons] at ha
      have h3 := ha.sub (h2.mul (Cg.refl q a))
      have e : pev r a * a + c - pev r a * a = c := by grind
      rw [e, Int.zero_mul] at h3
      exact h3
    · exact hr c hc

def subL : List Int → List Int → List Int
  | [], [] => []
  | a :: p, [] => a :: p
  | [], b :: r => -b :: subL [] r
  | a :: p, b :: r => (a - b) :: subL p r

theorem subL_pev (x : Int) : ∀ p r : List Int, pev (subL p r) x = pev p x - pev r x
  | [], [] => by simp [subL, pev]
  | a :: p, [] => by simp [subL, pev]
  | [], b :: r => by
    have := subL_pev x [] r
    rw [subL, pev_cons, pev_cons, this]
    simp [pev]
    grind
  | a :: p, b :: r => by
    have := subL_pev x p r
    rw [subL, pev_cons, pev_cons, pev_cons, this]
    grind

theorem subL_len : ∀ p r : List Int, (subL p r).length = max p.length r.length
  | [], [] => rfl
  | a :: p, [] => by simp [subL]
  | [], b :: r => by
    have := subL_len [] r
    simp [subL, this]
  | a :: p, b :: r => by
    have := subL_len p r
    simp only [subL, List.length_cons, this]
    omega

theorem subL_zero {q : Int} : ∀ {p r : List Int}, p.length = r.length → (∀ c ∈ p, 0 ≤ c ∧ c < q) → (∀ c ∈ r, 0 ≤ c ∧ c < q) → (∀ c ∈ subL p r, Cg q c 0) → p = r
  | [], [], _, _, _, _ => rfl
  | a :: p, [], h, _, _, _ => by simp at h
  | [], b :: r, h, _, _, _ => by simp at h
  | a :: p, b :: r, h, hp, hr, h0 => by
    have ha := hp a (List.mem_cons_self ..)
    have hb := hr b (List.mem_cons_self ..)
    have h1 : Cg q (a - b) 0 := h0 _ (List.mem_cons_self ..)
    have e : a = b := Cg.eq (by
      unfold Cg at h1 ⊢
      rwa [Int.sub_zero] at h1) ha.1 ha.2 hb.1 hb.2
    rw [e, subL_zero (by simpa using h) (fun c hc => hp c (List.mem_cons_of_mem _ hc)) (fun c hc => hr c (List.mem_cons_of_mem _ hc)) fun c hc => h0 c (List.mem_cons_of_mem _ hc)]

/-- two curves of as many numbers, alike at as many unlike places, are one -/
theorem curves_eq {q : Int} (hq : q ∈ nine) {xs p r : List Int} (hu : Uneq q xs) (hl : p.length = r.length) (hx : p.length ≤ xs.length) (hp : ∀ c ∈ p, 0 ≤ c ∧ c < q) (hr : ∀ c ∈ r, 0 ≤ c ∧ c < q)
    (h : ∀ x ∈ xs, Cg q (pev p x) (pev r x)) : p = r := by
  refine subL_zero hl hp hr (roots hq xs (subL p r) (by rw [subL_len]; omega) hu fun x hx => ?_)
  rw [subL_pev]
  have := (h x hx).sub (Cg.refl q (pev r x))
  rwa [Int.sub_self] at this

/-- two curves alike at as many unlike places as the longer one has numbers have the same worths -/
theorem curves_cg {q : Int} (hq : q ∈ nine) {xs p r : List Int} (hu : Uneq q xs) (hp : p.length ≤ xs.length) (hr : r.length ≤ xs.length) (h : ∀ x ∈ xs, Cg q (pev p x) (pev r x)) (y : Int) : Cg q (pev p y) (pev r y) := by
  have h0 := roots hq xs (subL p r) (by rw [subL_len]; omega) hu fun x hx => by
    rw [subL_pev]
    have := (h x hx).sub (Cg.refl q (pev r x))
    rwa [Int.sub_self] at this
  have key : ∀ l : List Int, (∀ c ∈ l, Cg q c 0) → Cg q (pev l y) 0 := by
    intro l
    induction l with
    | nil => intro _; exact Cg.refl q 0
    | cons n s ih =>
      intro hl
      rw [pev_cons]
      have := ((ih fun c hc => hl c (List.mem_cons_of_mem _ hc)).mul (Cg.refl q y)).add (hl n (List.mem_cons_self ..))
      rwa [Int.zero_mul, Int.zero_add] at this
  have := key _ h0
  rw [subL_pev] at this
  unfold Cg at this ⊢
  rwa [Int.sub_zero] at this

theorem pev_at0 (l : List Int) : pev l 0 = l.getD 0 0 := by
  cases l with
  | nil => rfl
  | cons a r =>
    rw [pev_cons, Int.mul_zero, Int.zero_add]
    rfl

/-- the product of the gaps from x to all others -/
def gapP (x : Int) (ns : List Int) : Int := ns.foldl (fun a n => a * (x - n)) 1

theorem gap_app (x : Int) (ns : List Int) (n : Int) : gapP x (ns ++ [n]) = gapP x ns * (x - n) := by
  unfold gapP
  rw [List.foldl_append]
  rfl

def offAt (ns : List Int) (i : Nat) : List Int := ns.take i ++ ns.drop (i + 1)

theorem gap_ne {q x : Int} (hq : q ∈ nine) : ∀ ns : List Int, (∀ n ∈ ns, ¬ Cg q (x - n) 0) → ¬ Cg q (gapP x ns) 0 := by
  intro ns
  suffices key : ∀ (ns : List Int) (a : Int), ¬ Cg q a 0 → (∀ n ∈ ns, ¬ Cg q (x - n) 0) → ¬ Cg q (ns.foldl (fun a n => a * (x - n)) a) 0 by
    refine key ns 1 fun h => ?_
    have h5 := nine_le hq
    have := cg_zero.mp h
    rw [Int.emod_eq_of_lt (by decide) (by omega)] at this
    cases this
  intro ns
  induction ns with
  | nil => intro a ha _; exact ha
  | cons n r ih =>
    intro a ha h
    exact ih _ (cg_mul_ne hq ha (h n (List.mem_cons_self ..))) fun m hm => h m (List.mem_cons_of_mem _ hm)

/-- unlike places below the prime -/
def PlacesL (q : Int) (ns : List Int) : Prop := (∀ n ∈ ns, 0 ≤ n ∧ n < q) ∧ ns.Nodup

theorem PlacesL.off {q : Int} {ns : List Int} (h : PlacesL q ns) {i : Nat} {n : Int} (hi : ns[i]? = some n) : ∀ m ∈ offAt ns i, ¬ Cg q (n - m) 0 := by
  intro m hm
  have hn := h.1 n (List.mem_of_getElem? hi)
  obtain ⟨hl, he⟩ := List.getElem?_eq_some_iff.mp hi
  have hm' : m ∈ ns ∧ n ≠ m := by
    rcases List.mem_append.mp hm with z | z
    · refine ⟨List.mem_of_mem_take z, fun e => ?_⟩
      obtain ⟨j, hj, ej⟩ := List.mem_take_iff_getElem.mp z
      have := nodup_ne h.2 (i := j) (j := i) (x := n) (by rw [e, ← ej]; exact List.getElem?_eq_getElem (by omega)) hi
      omega
    · refine ⟨List.mem_of_mem_drop z, fun e => ?_⟩
      obtain ⟨j, hj, ej⟩ := List.mem_iff_getElem.mp z
      rw [List.getElem_drop] at ej
      have hj' : i + 1 + j < ns.length := by rw [List.length_drop] at hj; omega
      have := nodup_ne h.2 (i := i + 1 + j) (j := i) (x := n) (by rw [e, ← ej]; exact List.getElem?_eq_getElem hj') hi
      omega
  have hb := h.1 m hm'.1
  exact cg_ne hn.1 hn.2 hb.1 hb.2 hm'.2

theorem mod_step {q a g b : Int} (h : Cg q a g) (c : Int) (e : b = a * c % q) : Cg q b (g * c) := by
  rw [e]
  exact (Cg.mod q _).trans (h.mul (Cg.refl q c))

theorem gap_perm {x : Int} {a b : List Int} (h : a.Perm b) : gapP x a = gapP x b := by
  unfold gapP
  suffices key : ∀ c : Int, a.foldl (fun a n => a * (x - n)) c = b.foldl (fun a n => a * (x - n)) c from key 1
  induction h with
  | nil => intro c; rfl
  | cons _ _ ih => intro c; exact ih _
  | swap m n l =>
    intro c
    show l.foldl _ (c * (x - n) * (x - m)) = l.foldl _ (c * (x - m) * (x - n))
    rw [Int.mul_right_comm]
  | trans _ _ ih1 ih2 => intro c; rw [ih1, ih2]

theorem uneq_places {q : Int} {ns : List Int} (h : PlacesL q ns) : Uneq q ns := by
  unfold Uneq
  refine List.Pairwise.imp_of_mem (fun {a b} ha hb hab => ?_) h.2
  exact cg_ne (h.1 a ha).1 (h.1 a ha).2 (h.1 b hb).1 (h.1 b hb).2 hab

theorem gap_has {q x : Int} : ∀ {ns : List Int}, x ∈ ns → Cg q (gapP x ns) 0 := by
  intro ns h
  unfold gapP
  suffices key : ∀ (ns : List Int) (a : Int), (x ∈ ns ∨ Cg q a 0) → Cg q (ns.foldl (fun a n => a * (x - n)) a) 0 from key ns 1 (.inl h)
  intro ns
  induction ns with
  | nil =>
    intro a h
    exact h.elim (fun z => by cases z) id
  | cons n r ih =>
    intro a h
    refine ih _ ?_
    rcases h with h | h
    · rcases List.mem_cons.mp h with rfl | h
      · right
        show Cg q (a * (x - x)) 0
        rw [Int.sub_self, Int.mul_zero]
        exact Cg.refl _ _
      · exact .inl h
    · right
      have := h.mul (Cg.refl q (x - n))
      rwa [Int.zero_mul] at this

structure Comp (q n t : Int) : Prop where
  prime : q ∈ nine
  n3 : 3 ≤ n
  n7 : n ≤ 7
  nq : n < q
  t1 : 1 ≤ t
  tn : 2 * t < n

theorem pop_at {i : Int} {n : Nat} (h0 : 0 ≤ i) (h1 : i < (n : Int)) : seqIndex? i n = some i.toNat := by
  unfold seqIndex?
  have e : ¬ i < 0 := by omega
  simp [e, h0, h1]

def rngI (lo : Int) (n : Nat) : List Int := (List.range n).map fun i => lo + (i : Nat)

/-- what is left, what was drawn, of lo .. q - 1 -/
structure Drawn (lo q : Int) (ls ss : List Int) : Prop where
  nd : (ls ++ ss).Nodup
  low : ∀ n ∈ ls ++ ss, lo ≤ n ∧ n < q
  num : ((ls.length + ss.length : Nat) : Int) = q - lo

theorem Drawn.start {lo q : Int} (h : lo ≤ q) : Drawn lo q (rngI lo (q - lo).toNat) [] := by
  unfold rngI
  refine ⟨?_, fun n hn => ?_, ?_⟩
  · rw [List.append_nil]
    exact List.Pairwise.map _ (fun a b hab e => hab (by omega)) List.nodup_range
  · rw [List.append_nil] at hn
    obtain ⟨i, hi, rfl⟩ := List.mem_map.mp hn
    have := List.mem_range.mp hi
    omega
  · rw [List.length_map, List.length_range, List.length_nil]
    omega

theorem erase_perm : ∀ {l : List Int} {j : Nat} {x : Int}, l[j]? = some x → (x :: l.eraseIdx j).Perm l
  | [], j, x, h => by simp at h
  | a :: r, 0, x, h => by
    simp at h
    subst h
    exact List.Perm.refl _
  | a :: r, j + 1, x, h => by
    have ih := erase_perm (l := r) (j := j) (x := x) (by simpa using h)
    exact (List.Perm.swap a x _).trans (ih.cons a)

theorem draw_perm {ls ss : List Int} {j : Nat} {x : Int} (h : ls[j]? = some x) : (ls.eraseIdx j ++ (ss ++ [x])).Perm (ls ++ ss) := by
  have h1 : (ls.eraseIdx j ++ (ss ++ [x])).Perm (x :: (ls.eraseIdx j ++ ss)) := by
    rw [← List.append_assoc]
    exact List.perm_append_singleton _ _
  exact h1.trans (List.Perm.append_right ss (erase_perm h))

theorem Drawn.step {lo q : Int} {ls ss : List Int} {j : Nat} {x : Int} (d : Drawn lo q ls ss) (h : ls[j]? = some x) : Drawn lo q (ls.eraseIdx j) (ss ++ [x]) := by
  have hp := draw_perm (ss := ss) h
  refine ⟨hp.nodup_iff.mpr d.nd, fun n hn => d.low n (hp.mem_iff.mp hn), ?_⟩
  have := hp.length_eq
  have := d.num
  simp only [List.length_append] at *
  omega

theorem Drawn.places {lo q : Int} {ls ss : List Int} (d : Drawn lo q ls ss) (h : 0 ≤ lo) : PlacesL q ss :=
  ⟨fun n hn => by have := d.low n (List.mem_append_right _ hn); omega, (List.nodup_append.mp d.nd).2.1⟩

theorem ixN_nat {n i : Nat} (h : i < n) : ixN n (i : Int) = some i := by
  unfold ixN
  simp [h]

theorem rngI_get {lo : Int} {n i : Nat} (h : i < n) : (rngI lo n)[i]? = some (lo + (i : Nat)) := by
  unfold rngI
  rw [List.getElem?_map, List.getElem?_range h]
  rfl

theorem rngI_len (lo : Int) (n : Nat) : (rngI lo n).length = n := by
  unfold rngI
  rw [List.length_map, List.length_range]

theorem filter_yes {p : Int → Bool} {l : List Int} {x : Int} (h : p x = true) : (l ++ [x]).filter p = l.filter p ++ [x] := by
  rw [List.filter_append, List.filter_cons_of_pos h, List.filter_nil]

theorem filter_no {p : Int → Bool} {l : List Int} {x : Int} (h : p x = false) : (l ++ [x]).filter p = l.filter p := by
  rw [List.filter_append, List.filter_cons_of_neg (by rw [h]; exact Bool.false_ne_true), List.filter_nil, List.append_nil]

/-- a curve by (x - a), the number ahead told -/
def wn (q a u : Int) (ns : List Int) : List Int := List.zipWith (fun u v => (u - v * a) % q) (u :: ns) ns ++ (u :: ns).drop ns.length

theorem wn_cons (q a u m : Int) (r : List Int) : wn q a u (m :: r) = (u - m * a) % q :: wn q a m r := rfl

theorem wn_len (q a : Int) : ∀ (u : Int) (ns : List Int), (wn q a u ns).length = ns.length + 1
  | _, [] => rfl
  | u, m :: r => by rw [wn_cons, List.length_cons, wn_len q a m r, List.length_cons]

theorem wn_pev {q a x : Int} : ∀ (u : Int) (ns : List Int), Cg q (pev (wn q a u ns) x) (pev (u :: ns) x - a * pev ns x)
  | u, [] => by
    have e : pev [u] x - a * pev [] x = pev [u] x := by
      show _ - a * 0 = _
      rw [Int.mul_zero, Int.sub_zero]
    rw [e]
    exact Cg.refl _ _
  | u, m :: r => by
    have ih := wn_pev (q := q) (a := a) (x := x) m r
    rw [wn_cons, pev_cons, pev_cons u (m :: r)]
    have h := (ih.mul (Cg.refl q x)).add (Cg.mod q (u - m * a))
    have e : (pev (m :: r) x - a * pev r x) * x + (u - m * a) = pev (m :: r) x * x + u - a * pev (m :: r) x := by
      rw [pev_cons m r]
      grind
    rw [e] at h
    exact h

theorem wn_low {q a : Int} (h0 : 0 < q) : ∀ (u : Int) (ns : List Int), (0 ≤ u ∧ u < q) → (∀ n ∈ ns, 0 ≤ n ∧ n < q) → ∀ n ∈ wn q a u ns, 0 ≤ n ∧ n < q
  | u, [], hu, _, n, hn => by
    rw [List.mem_singleton.mp hn]
    exact hu
  | u, m :: r, hu, h, n, hn => by
    rw [wn_cons] at hn
    rcases List.mem_cons.mp hn with rfl | hn
    · exact ⟨Int.emod_nonneg _ (Int.ne_of_gt h0), Int.emod_lt_of_pos _ h0⟩
    · exact wn_low h0 m r (h m (List.mem_cons_self ..)) (fun n hn => h n (List.mem_cons_of_mem _ hn)) n hn

/-- the first j done -/
def wnJ (q a : Int) (ns : List Int) (j : Nat) : List Int := (List.zipWith (fun u v => (u - v * a) % q) (0 :: ns) ns).take j ++ (0 :: ns).drop j

theorem wnJ_len {q a : Int} {ns : List Int} {j : Nat} (h : j ≤ ns.length) : (wnJ q a ns j).length = ns.length + 1 := by
  unfold wnJ
  simp only [List.length_append, List.length_take, List.length_zipWith, List.length_drop, List.length_cons]
  omega

theorem wnJ_at {q a : Int} {ns : List Int} {j : Nat} (h : j < ns.length) : ∃ u, (0 :: ns)[j]? = some u ∧ (wnJ q a ns j)[j]? = some u := by
  have h1 : (0 :: ns)[j]? = some ((0 :: ns)[j]'(by simp; omega)) := List.getElem?_eq_getElem _
  refine ⟨_, h1, ?_⟩
  unfold wnJ
  have e : ((List.zipWith (fun u v => (u - v * a) % q) (0 :: ns) ns).take j).length = j := by
    simp only [List.length_take, List.length_zipWith, List.length_cons]
    omega
  rw [List.getElem?_append_right (by omega), e, Nat.sub_self, List.getElem?_drop, Nat.add_zero]
  exact h1

theorem wnJ_next {q a : Int} {ns : List Int} {j : Nat} {u v : Int} (hu : (0 :: ns)[j]? = some u) (hv : ns[j]? = some v) : (wnJ q a ns j).set j ((u - v * a) % q) = wnJ q a ns (j + 1) := by
  have hj := (List.getElem?_eq_some_iff.mp hv).1
  unfold wnJ
  have e : ((List.zipWith (fun u v => (u - v * a) % q) (0 :: ns) ns).take j).length = j := by
    simp only [List.length_take, List.length_zipWith, List.length_cons]
    omega
  have ez : (List.zipWith (fun u v => (u - v * a) % q) (0 :: ns) ns)[j]? = some ((u - v * a) % q) := by
    rw [List.getElem?_zipWith, hu, hv]
  rw [List.set_append_right _ _ (by omega), e, Nat.sub_self, List.take_add_one, ez]
  obtain ⟨hl, hg⟩ := List.getElem?_eq_some_iff.mp hu
  rw [List.drop_eq_getElem_cons hl, List.set_cons_zero, List.append_assoc]
  rfl

/-- the weight of place i: below the prime, over by under -/
def IsW (q x : Int) (ns : List Int) (i : Nat) (w : Int) : Prop := (0 ≤ w ∧ w < q) ∧ ∀ n, ns[i]? = some n → Cg q (w * gapP n (offAt ns i)) (gapP x (offAt ns i))

theorem IsW.one {q x : Int} {ns : List Int} {i : Nat} {n v w : Int} (hq : q ∈ nine) (hn : PlacesL q ns) (hi : ns[i]? = some n) (hv : IsW q x ns i v) (hw : IsW q x ns i w) : v = w :=
  Cg.eq (cg_cancel hq (gap_ne hq _ (hn.off hi)) ((hv.2 n hi).trans (hw.2 n hi).symm)) hv.1.1 hv.1.2 hw.1.1 hw.1.2

/-- the weights of all places -/
def IsWs (q x : Int) (ns ws : List Int) : Prop := ws.length = ns.length ∧ ∀ (i : Nat) (w : Int), ws[i]? = some w → IsW q x ns i w

theorem IsWs.one {q x : Int} {ns vs ws : List Int} (hq : q ∈ nine) (hn : PlacesL q ns) (hv : IsWs q x ns vs) (hw : IsWs q x ns ws) : vs = ws := by
  apply List.ext_getElem?
  intro i
  by_cases h : i < ns.length
  · have e1 := List.getElem?_eq_getElem (l := vs) (i := i) (by rw [hv.1]; exact h)
    have e2 := List.getElem?_eq_getElem (l := ws) (i := i) (by rw [hw.1]; exact h)
    rw [e1, e2]
    exact congrArg some (IsW.one hq hn (List.getElem?_eq_getElem h) (hv.2 i _ e1) (hw.2 i _ e2))
  · rw [List.getElem?_eq_none (by rw [hv.1]; omega), List.getElem?_eq_none (by rw [hw.1]; omega)]

theorem IsWs.low {q x : Int} {ns ws : List Int} (h : IsWs q x ns ws) : ∀ w ∈ ws, 0 ≤ w ∧ w < q := fun w hw => by
  obtain ⟨i, hi⟩ := List.mem_iff_getElem?.mp hw
  exact (h.2 i w hi).1

/-- a curve through all points, as many numbers -/
structure Thru (q : Int) (ps : List (Int × Int)) (cs : List Int) : Prop where
  num : cs.length = ps.length
  low : ∀ c ∈ cs, 0 ≤ c ∧ c < q
  has : ∀ p ∈ ps, Cg q (pev cs p.1) p.2

theorem Thru.one {q : Int} {ps : List (Int × Int)} {cs ds : List Int} (hq : q ∈ nine) (hp : PlacesL q (ps.map (·.1))) (h : Thru q ps cs) (g : Thru q ps ds) : cs = ds := by
  refine curves_eq hq (uneq_places hp) (h.num.trans g.num.symm) (by rw [List.length_map, h.num]; exact Nat.le_refl _) h.low g.low fun x hx => ?_
  obtain ⟨p, hp, rfl⟩ := List.mem_map.mp hx
  exact (h.has p hp).trans (g.has p hp).symm

theorem fst_get {ps : List (Int × Int)} {i : Nat} {p : Int × Int} (h : ps[i]? = some p) : (ps.map (·.1))[i]? = some p.1 := by rw [List.getElem?_map, h]; rfl

theorem gap_last {q : Int} (hq : q ∈ nine) {ns : List Int} (hp : PlacesL q ns) {j : Nat} {n : Int} (h : ns[j]? = some n) : ¬ Cg q (gapP n (ns.take j)) 0 :=
  gap_ne hq _ fun m hm => hp.off h m (List.mem_append_left _ hm)

/-- one more point -/
def addT (q t : Int) (fs ks : List Int) : List Int := List.zipWith (fun u v => (u + t * v) % q) (fs ++ [0]) ks

theorem addT_pev {q t x : Int} : ∀ {fs ks : List Int}, ks.length = fs.length + 1 → Cg q (pev (addT q t fs ks) x) (pev fs x + t * pev ks x)
  | [], [], h => by cases h
  | [], [k], _ => by
    show Cg q (0 * x + (0 + t * k) % q) (0 + t * (0 * x + k))
    rw [Int.zero_mul, Int.zero_add, Int.zero_add, Int.zero_add, Int.zero_add]
    exact Cg.mod q _
  | [], _ :: _ :: _, h => by simp at h
  | f :: fs, [], h => by cases h
  | f :: fs, k :: ks, h => by
    have ih := addT_pev (q := q) (t := t) (x := x) (fs := fs) (ks := ks) (by simpa using h)
    have e : addT q t (f :: fs) (k :: ks) = (f + t * k) % q :: addT q t fs ks := rfl
    rw [e, pev_cons, pev_cons f fs, pev_cons k ks]
    have h := (ih.mul (Cg.refl q x)).add (Cg.mod q (f + t * k))
    have e2 : (pev fs x + t * pev ks x) * x + (f + t * k) = pev fs x * x + f + t * (pev ks x * x + k) := by grind
    rw [e2] at h
    exact h

theorem addT_len {q t : Int} {fs ks : List Int} (h : ks.length = fs.length + 1) : (addT q t fs ks).length = fs.length + 1 := by
  unfold addT
  rw [List.length_zipWith, List.length_append, h]
  simp

theorem addT_low {q t : Int} (h0 : 0 < q) {fs ks : List Int} : ∀ n ∈ addT q t fs ks, 0 ≤ n ∧ n < q := fun n hn => by
  obtain ⟨i, hi⟩ := List.mem_iff_getElem?.mp hn
  unfold addT at hi
  rw [List.getElem?_zipWith] at hi
  cases e : (fs ++ [0])[i]? with
  | none => rw [e] at hi; simp at hi
  | some u =>
    cases e' : ks[i]? with
    | none => rw [e, e'] at hi; simp at hi
    | some v =>
      rw [e, e'] at hi
      cases hi
      exact ⟨Int.emod_nonneg _ (Int.ne_of_gt h0), Int.emod_lt_of_pos _ h0⟩

def sumTo (s : Nat → Int) : Nat → Int
  | 0 => 0
  | m + 1 => sumTo s m + s m

theorem sum_cg {q : Int} {s t : Nat → Int} : ∀ {m : Nat}, (∀ i, i < m → Cg q (s i) (t i)) → Cg q (sumTo s m) (sumTo t m)
  | 0, _ => Cg.refl _ _
  | m + 1, h => (sum_cg fun i hi => h i (Nat.lt_succ_of_lt hi)).add (h m (Nat.lt_succ_self m))

theorem sum_none {q : Int} {s : Nat → Int} : ∀ {m : Nat}, (∀ i, i < m → Cg q (s i) 0) → Cg q (sumTo s m) 0
  | 0, _ => Cg.refl _ _
  | m + 1, h => by
    have := (sum_none fun i hi => h i (Nat.lt_succ_of_lt hi)).add (h m (Nat.lt_succ_self m))
    rwa [Int.add_zero] at this

theorem sum_pick {q : Int} {s : Nat → Int} {k : Nat} : ∀ {m : Nat}, k < m → (∀ i, i < m → i ≠ k → Cg q (s i) 0) → Cg q (sumTo s m) (s k)
  | 0, h, _ => by cases h
  | m + 1, h, z => by
    by_cases e : k = m
    · subst e
      have := (sum_none (s := s) fun i hi => z i (Nat.lt_succ_of_lt hi) (Nat.ne_of_lt hi)).add (Cg.refl q (s k))
      rwa [Int.zero_add] at this
    · have := (sum_pick (m := m) (by omega) fun i hi => z i (Nat.lt_succ_of_lt hi)).add (z m (Nat.lt_succ_self m) fun x => e x.symm)
      rwa [Int.add_zero] at this

def scL (c : Int) (p : List Int) : List Int := p.map (c * ·)

theorem scL_pev (c : Int) : ∀ (p : List Int) (x : Int), pev (scL c p) x = c * pev p x
  | [], x => by
    show 0 = c * 0
    rw [Int.mul_zero]
  | n :: r, x => by
    have ih := scL_pev c r x
    show pev (scL c r) x * x + c * n = c * (pev r x * x + n)
    rw [ih]
    grind

/-- curves added, each so many times -/
def mixL (t : Nat → Int) (G : Nat → List Int) : Nat → List Int
  | 0 => []
  | m + 1 => subL (mixL t G m) (scL (-(t m)) (G m))

theorem mixL_pev (t : Nat → Int) (G : Nat → List Int) (x : Int) : ∀ m, pev (mixL t G m) x = sumTo (fun i => t i * pev (G i) x) m
  | 0 => rfl
  | m + 1 => by
    have ih := mixL_pev t G x m
    rw [mixL, subL_pev, scL_pev, ih, sumTo]
    grind

theorem mixL_len {t : Nat → Int} {G : Nat → List Int} {n : Nat} : ∀ {m : Nat}, (∀ i, i < m → (G i).length ≤ n) → (mixL t G m).length ≤ n
  | 0, _ => Nat.zero_le _
  | m + 1, h => by
    have ih := mixL_len (t := t) (m := m) fun i hi => h i (Nat.lt_succ_of_lt hi)
    have := h m (Nat.lt_succ_self m)
    rw [mixL, subL_len]
    unfold scL
    rw [List.length_map]
    omega

/-- the curve that is nought at these places -/
def nilAt : List Int → List Int
  | [] => [1]
  | n :: r => subL (0 :: nilAt r) (scL n (nilAt r))

theorem nilAt_len : ∀ ms : List Int, (nilAt ms).length = ms.length + 1
  | [] => rfl
  | n :: r => by
    rw [nilAt, subL_len]
    unfold scL
    rw [List.length_map, List.length_cons, nilAt_len r, List.length_cons]
    omega

theorem gap_cons (x n : Int) (r : List Int) : gapP x (n :: r) = (x - n) * gapP x r := by
  have e := gap_perm (x := x) (List.perm_append_singleton n r)
  rw [gap_app] at e
  rw [← e, Int.mul_comm]

theorem nilAt_pev (x : Int) : ∀ ms : List Int, pev (nilAt ms) x = gapP x ms
  | [] => by
    show 0 * x + 1 = 1
    rw [Int.zero_mul, Int.zero_add]
  | n :: r => by
    have ih := nilAt_pev x r
    rw [nilAt, subL_pev, scL_pev, pev_cons, ih, gap_cons]
    grind

theorem off_has {ns : List Int} {i k : Nat} {n : Int} (h : ns[k]? = some n) (hik : k ≠ i) : n ∈ offAt ns i := by
  unfold offAt
  obtain ⟨hl, rfl⟩ := List.getElem?_eq_some_iff.mp h
  by_cases hk : k < i
  · exact List.mem_append_left _ (List.mem_take_iff_getElem.mpr ⟨k, by omega, rfl⟩)
  · refine List.mem_append_right _ (List.mem_iff_getElem.mpr ⟨k - (i + 1), by rw [List.length_drop]; omega, ?_⟩)
    rw [List.getElem_drop]
    congr 1
    omega

theorem off_len {ns : List Int} {i : Nat} (h : i < ns.length) : (offAt ns i).length + 1 = ns.length := by
  unfold offAt
  rw [List.length_append, List.length_take, List.length_drop]
  omega

theorem sum_list {T : List Int} {f : Nat → Int} (h : ∀ i, i < T.length → T[i]? = some (f i)) : T.sum = sumTo f T.length := by
  have key : ∀ m, m ≤ T.length → (T.take m).sum = sumTo f m := by
    intro m
    induction m with
    | zero => intro _; rfl
    | succ m ih =>
      intro hm
      rw [List.take_add_one, h m (by omega), List.sum_append, ih (by omega), Option.toList_some, List.sum_singleton]
      rfl
  have := key T.length (Nat.le_refl _)
  rwa [List.take_length] at this

/-- a curve by a curve -/
def mulL : List Int → List Int → List Int
  | [], _ => []
  | a :: r, b => subL (0 :: mulL r b) (scL (-a) b)

theorem mulL_pev (x : Int) : ∀ a b : List Int, pev (mulL a b) x = pev a x * pev b x
  | [], b => by
    show 0 = 0 * _
    rw [Int.zero_mul]
  | a :: r, b => by
    have ih := mulL_pev x r b
    rw [mulL, subL_pev, scL_pev, pev_cons 0, ih, pev_cons a r]
    grind

theorem mulL_len : ∀ {a b : List Int} {m : Nat}, a.length + b.length ≤ m + 1 → 1 ≤ b.length → (mulL a b).length ≤ m
  | [], b, m, _, _ => Nat.zero_le _
  | a :: r, b, m, h, hb => by
    rw [List.length_cons] at h
    rw [mulL, subL_len]
    unfold scL
    rw [List.length_map, List.length_cons]
    cases r with
    | nil =>
      show max 1 b.length ≤ m
      simp at h
      omega
    | cons c r' =>
      rw [List.length_cons] at h
      have ih := mulL_len (a := c :: r') (b := b) (m := m - 1) (by rw [List.length_cons]; omega) hb
      omega

theorem zip_at {a b : List Int} {f : Int → Int → Int} {i : Nat} {u v : Int} (ha : a[i]? = some u) (hb : b[i]? = some v) : (List.zipWith f a b)[i]? = some (f u v) := by
  rw [List.getElem?_zipWith, ha, hb]

theorem lagrange {q : Int} (hq : q ∈ nine) {ns ws cs : List Int} (hp : PlacesL q ns) (hw : IsWs q 0 ns ws) (hc : cs.length ≤ ns.length) :
    Cg q (sumTo (fun i => ws.getD i 0 * pev cs (ns.getD i 0)) ns.length) (pev cs 0) := by
  have at' : ∀ i, i < ns.length → ns[i]? = some (ns.getD i 0) := fun i hi => by
    rw [List.getD_eq_getElem?_getD, List.getElem?_eq_getElem hi]
    rfl
  have atw : ∀ i, i < ns.length → ws[i]? = some (ws.getD i 0) := fun i hi => by
    rw [List.getD_eq_getElem?_getD, List.getElem?_eq_getElem (by rw [hw.1]; exact hi)]
    rfl
  have inv : ∀ i, ∃ b, i < ns.length → Cg q (gapP (ns.getD i 0) (offAt ns i) * b) 1 := fun i => by
    by_cases hi : i < ns.length
    · obtain ⟨b, hb⟩ := cg_inv hq (gap_ne hq _ (hp.off (at' i hi)))
      exact ⟨b, fun _ => hb⟩
    · exact ⟨0, fun z => absurd z hi⟩
  obtain ⟨c, hcv⟩ := Classical.skolem.mp inv
  obtain ⟨L, hL⟩ : ∃ L, L = mixL (fun i => pev cs (ns.getD i 0) * c i) (fun i => nilAt (offAt ns i)) ns.length := ⟨_, rfl⟩
  have hLl : L.length ≤ ns.length := by
    rw [hL]
    exact mixL_len fun i hi => by rw [nilAt_len, off_len hi]; exact Nat.le_refl _
  have hLx : ∀ x, pev L x = sumTo (fun i => pev cs (ns.getD i 0) * c i * gapP x (offAt ns i)) ns.length := fun x => by
    rw [hL, mixL_pev]
    congr 1
    funext i
    rw [nilAt_pev]
  have hag : ∀ x ∈ ns, Cg q (pev L x) (pev cs x) := fun x hx => by
    obtain ⟨k, hk⟩ := List.mem_iff_getElem?.mp hx
    have hkl := (List.getElem?_eq_some_iff.mp hk).1
    have ek : ns.getD k 0 = x := Option.some.inj ((at' k hkl).symm.trans hk)
    rw [hLx]
    refine (sum_pick hkl fun i hi hik => ?_).trans ?_
    · have := (Cg.refl q (pev cs (ns.getD i 0) * c i)).mul (gap_has (q := q) (off_has hk (fun z => hik z.symm)))
      rwa [Int.mul_zero] at this
    · have h1 := hcv k hkl
      have h2 := (Cg.refl q (pev cs x)).mul h1
      rw [ek] at h2 ⊢
      rw [Int.mul_one] at h2
      have e : pev cs x * c k * gapP x (offAt ns k) = pev cs x * (gapP x (offAt ns k) * c k) := by grind
      rw [e]
      exact h2
  have h0 := curves_cg hq (uneq_places hp) hLl hc hag 0
  refine Cg.trans (sum_cg fun i hi => ?_) (by rw [← hLx]; exact h0)
  have hwi := (hw.2 i _ (atw i hi)).2 _ (at' i hi)
  have h1 := hcv i hi
  have h2 := (Cg.refl q (ws.getD i 0)).mul h1
  rw [Int.mul_one] at h2
  have h3 := hwi.mul (Cg.refl q (c i))
  have e1 : ws.getD i 0 * (gapP (ns.getD i 0) (offAt ns i) * c i) = ws.getD i 0 * gapP (ns.getD i 0) (offAt ns i) * c i := by grind
  rw [e1] at h2
  have h4 := (h2.symm.trans h3).mul (Cg.refl q (pev cs (ns.getD i 0)))
  have e2 : gapP 0 (offAt ns i) * c i * pev cs (ns.getD i 0) = pev cs (ns.getD i 0) * c i * gapP 0 (offAt ns i) := by grind
  rw [e2] at h4
  exact h4

def oth (ns : List Int) (a : Int) : List Int := ns.filter fun m => decide (m ≠ a)

theorem oth_len {ns : List Int} {a : Int} (h : a ∈ ns) : (oth ns a).length + 1 ≤ ns.length := by
  unfold oth
  have := List.length_filter_lt_length_iff_exists (l := ns) (p := fun m => decide (m ≠ a))
  have h2 := this.mpr ⟨a, h, by simp⟩
  omega

theorem oth_ne {q : Int} (hq : q ∈ nine) {ns : List Int} (hp : PlacesL q ns) {a : Int} (h : a ∈ ns) : ¬ Cg q (gapP a (oth ns a)) 0 := by
  refine gap_ne hq _ fun n hn => ?_
  unfold oth at hn
  have h1 := List.mem_filter.mp hn
  have h2 : n ≠ a := of_decide_eq_true h1.2
  exact cg_ne (hp.1 a h).1 (hp.1 a h).2 (hp.1 n h1.1).1 (hp.1 n h1.1).2 fun z => h2 z.symm

theorem oth_has {ns : List Int} {a b : Int} (h : b ∈ ns) (hne : b ≠ a) : b ∈ oth ns a := by
  unfold oth
  exact List.mem_filter.mpr ⟨h, decide_eq_true hne⟩

theorem getD_of {ns : List Int} {i : Nat} (h : i < ns.length) : ns[i]? = some (ns.getD i 0) := by
  rw [List.getD_eq_getElem?_getD, List.getElem?_eq_getElem h]
  rfl

/-- a curve with given worths at places -/
theorem mix_ex {q : Int} (hq : q ∈ nine) {ns : List Int} (hp : PlacesL q ns) (y : Int → Int) : ∃ (L : List Int) (c : Int → Int), L.length ≤ ns.length ∧ (∀ n ∈ ns, Cg q (gapP n (oth ns n) * c n) 1) ∧ (∀ x, pev L x = sumTo (fun i => y (ns.getD i 0) * c (ns.getD i 0) * gapP x (oth ns (ns.getD i 0))) ns.length) ∧ ∀ n ∈ ns, Cg q (pev L n) (y n) := by
  have inv : ∀ n, ∃ b, n ∈ ns → Cg q (gapP n (oth ns n) * b) 1 := fun n => by
    by_cases hn : n ∈ ns
    · obtain ⟨b, hb⟩ := cg_inv hq (oth_ne hq hp hn)
      exact ⟨b, fun _ => hb⟩
    · exact ⟨0, fun z => absurd z hn⟩
  obtain ⟨c, hc⟩ := Classical.skolem.mp inv
  have hx : ∀ x, pev (mixL (fun i => y (ns.getD i 0) * c (ns.getD i 0)) (fun i => nilAt (oth ns (ns.getD i 0))) ns.length) x = sumTo (fun i => y (ns.getD i 0) * c (ns.getD i 0) * gapP x (oth ns (ns.getD i 0))) ns.length := fun x => by
    rw [mixL_pev]
    congr 1
    funext i
    rw [nilAt_pev]
  refine ⟨_, c, mixL_len fun i hi => ?_, hc, hx, fun n hn => ?_⟩
  · rw [nilAt_len]
    exact oth_len (List.mem_of_getElem? (getD_of hi))
  · obtain ⟨k, hk⟩ := List.mem_iff_getElem?.mp hn
    have hkl := (List.getElem?_eq_some_iff.mp hk).1
    have ek : ns.getD k 0 = n := Option.some.inj ((getD_of hkl).symm.trans hk)
    rw [hx]
    refine (sum_pick hkl fun i hi hik => ?_).trans ?_
    · have hne : n ≠ ns.getD i 0 := fun z => hik (nodup_ne hp.2 (getD_of hi) (z ▸ hk))
      have := (Cg.refl q (y (ns.getD i 0) * c (ns.getD i 0))).mul (gap_has (q := q) (oth_has hn hne))
      rwa [Int.mul_zero] at this
    · have h2 := (Cg.refl q (y n)).mul (hc n hn)
      rw [Int.mul_one] at h2
      rw [ek]
      have e : y n * c n * gapP n (oth ns n) = y n * (gapP n (oth ns n) * c n) := by grind
      rw [e]
      exact h2

theorem lagr {q : Int} (hq : q ∈ nine) {ns cs : List Int} (x : Int) (hp : PlacesL q ns) (hc : cs.length ≤ ns.length) {v : Nat → Int} (hv : ∀ i n, ns[i]? = some n → Cg q (v i * gapP n (oth ns n)) (pev cs n * gapP x (oth ns n))) :
    Cg q (sumTo v ns.length) (pev cs x) := by
  obtain ⟨L, c, hl, h1, h2, h3⟩ := mix_ex hq hp (pev cs)
  have h0 := curves_cg hq (uneq_places hp) hl hc h3 x
  refine Cg.trans (sum_cg fun i hi => ?_) (by rw [← h2]; exact h0)
  have hn := getD_of hi
  have hw := hv i _ hn
  obtain ⟨n, en⟩ : ∃ n, n = ns.getD i 0 := ⟨_, rfl⟩
  rw [← en] at hn hw ⊢
  have g1 := h1 n (List.mem_of_getElem? hn)
  have a1 := (Cg.refl q (v i)).mul g1
  rw [Int.mul_one] at a1
  have a2 := hw.mul (Cg.refl q (c n))
  have e1 : v i * (gapP n (oth ns n) * c n) = v i * gapP n (oth ns n) * c n := by grind
  rw [e1] at a1
  have e2 : pev cs n * gapP x (oth ns n) * c n = pev cs n * c n * gapP x (oth ns n) := by grind
  rw [e2] at a2
  exact a1.symm.trans a2

theorem pev_pad (l : List Int) (n : Nat) (x : Int) : pev (l ++ List.replicate n 0) x = pev l x := by
  induction l with
  | nil =>
    induction n with
    | zero => rfl
    | succ n ih =>
      rw [List.replicate_succ]
      show pev (List.replicate n 0) x * x + 0 = 0
      have ih' : pev (List.replicate n 0) x = 0 := by simpa [pev] using ih
      rw [ih']
      omega
  | cons a r ih =>
    rw [List.cons_append, pev_cons, pev_cons, ih]

theorem pev_modq (q : Int) (c : List Int) (x : Int) : Cg q (pev (c.map (· % q)) x) (pev c x) := by
  induction c with
  | nil => exact Cg.refl _ _
  | cons a r ih =>
    rw [List.map_cons, pev_cons, pev_cons]
    exact (ih.mul (Cg.refl q x)).add (Cg.mod q a)

/-- there is a curve through any points of unlike places -/
theorem thru_ex {q : Int} (hq : q ∈ nine) {ps : List (Int × Int)} (hp : PlacesL q (ps.map (·.1))) : ∃ cs, Thru q ps cs := by
  have hq5 := nine_le hq
  have yex : ∃ y : Int → Int, ∀ p ∈ ps, y p.1 = p.2 := by
    refine ⟨fun a => ((ps.find? fun p => decide (p.1 = a)).map (·.2)).getD 0, fun p hp' => ?_⟩
    show ((ps.find? fun r => decide (r.1 = p.1)).map (·.2)).getD 0 = p.2
    cases e : ps.find? fun r => decide (r.1 = p.1) with
    | none =>
      have := List.find?_eq_none.mp e p hp'
      simp at this
    | some r =>
      have h1 := List.find?_some e
      have h2 := List.mem_of_find?_eq_some e
      have h3 : r.1 = p.1 := of_decide_eq_true h1
      obtain ⟨i, hi⟩ := List.mem_iff_getElem?.mp h2
      obtain ⟨j, hj⟩ := List.mem_iff_getElem?.mp hp'
      have hij := nodup_ne hp.2 (i := i) (j := j) (x := p.1) (by rw [List.getElem?_map, hi, ← h3]; rfl) (by rw [List.getElem?_map, hj]; rfl)
      subst hij
      rw [hi] at hj
      cases hj
      rfl
  obtain ⟨y, hy⟩ := yex
  obtain ⟨L, c, hl, _, _, h3⟩ := mix_ex hq hp y
  rw [List.length_map] at hl
  refine ⟨(L ++ List.replicate (ps.length - L.length) 0).map (· % q), by rw [List.length_map, List.length_append, List.length_replicate]; omega, fun c hc => ?_, fun p hp' => ?_⟩
  · obtain ⟨a, _, rfl⟩ := List.mem_map.mp hc
    exact ⟨Int.emod_nonneg _ (by omega), Int.emod_lt_of_pos _ (by omega)⟩
  · refine (pev_modq q _ _).trans ?_
    rw [pev_pad]
    have := h3 p.1 (List.mem_map_of_mem hp')
    rwa [hy p hp'] at this

theorem oth_snoc_ne {ns : List Int} {a b : Int} (h : b ≠ a) : oth (ns ++ [b]) a = oth ns a ++ [b] := by
  unfold oth
  rw [List.filter_append, List.filter_cons_of_pos (by simpa using h), List.filter_nil]

theorem oth_snoc_eq {ns : List Int} {a : Int} : oth (ns ++ [a]) a = oth ns a := by
  unfold oth
  rw [List.filter_append, List.filter_cons_of_neg (by simp), List.filter_nil, List.append_nil]

theorem IsW.perm {q x : Int} {ns ms : List Int} {i j : Nat} {n w : Int} (hp : ms.Perm ns) (hi : ns[i]? = some n) (hj : ms[j]? = some n) (h : IsW q x ns i w) : IsW q x ms j w := by
  have e : (offAt ms j).Perm (offAt ns i) := by
    unfold offAt
    rw [← List.eraseIdx_eq_take_drop_succ, ← List.eraseIdx_eq_take_drop_succ]
    exact List.Perm.cons_inv ((erase_perm hj).trans (hp.trans (erase_perm hi).symm))
  refine ⟨h.1, fun m hm => ?_⟩
  obtain rfl : n = m := Option.some.inj (hj.symm.trans hm)
  rw [gap_perm e, gap_perm e]
  exact h.2 n hi

/-- the places turned about, the weights with them -/
theorem IsWs.turn {q x : Int} {ns ws : List Int} (h : IsWs q x ns ws) (c : Nat) : IsWs q x (ns.drop c ++ ns.take c) (ws.drop c ++ ws.take c) := by
  have hl := h.1
  refine ⟨by simp only [List.length_append, List.length_drop, List.length_take, hl], fun i w hw => ?_⟩
  have hp : (ns.drop c ++ ns.take c).Perm ns := by
    have := List.perm_append_comm (l₁ := ns.drop c) (l₂ := ns.take c)
    rwa [List.take_append_drop] at this
  by_cases hi : i < (ws.drop c).length
  · rw [List.getElem?_append_left hi, List.getElem?_drop] at hw
    rw [List.length_drop] at hi
    have e : (ns.drop c ++ ns.take c)[i]? = some (ns[c + i]'(by omega)) := by
      rw [List.getElem?_append_left (by rw [List.length_drop]; omega), List.getElem?_drop]
      exact List.getElem?_eq_getElem (by omega)
    exact IsW.perm hp (List.getElem?_eq_getElem (by omega)) e (h.2 _ w hw)
  · rw [List.getElem?_append_right (by omega), List.length_drop] at hw
    rw [List.length_drop] at hi
    have hlt := (List.getElem?_eq_some_iff.mp hw).1
    rw [List.length_take] at hlt
    rw [List.getElem?_take_of_lt (by omega)] at hw
    obtain ⟨n, hn⟩ : ∃ n, ns[i - (ns.length - c)]? = some n := ⟨_, List.getElem?_eq_getElem (by omega)⟩
    have e : (ns.drop c ++ ns.take c)[i]? = some n := by
      rw [List.getElem?_append_right (by rw [List.length_drop]; omega), List.length_drop, List.getElem?_take_of_lt (by omega)]
      exact hn
    rw [hl] at hw
    exact IsW.perm hp hn e (h.2 _ w hw)

/-- what a company's hands are dealt of a curve -/
def dealL (q n : Int) (c : List Int) : List Int := (rngI 0 n.toNat).map fun h => pev c (h + 1) % q

theorem dealL_len (q n : Int) (c : List Int) : (dealL q n c).length = n.toNat := by
  unfold dealL rngI
  rw [List.length_map, List.length_map, List.length_range]

theorem dealL_get {q n : Int} {c : List Int} {i : Nat} (h : i < n.toNat) : (dealL q n c)[i]? = some (pev c ((i : Int) + 1) % q) := by
  unfold dealL rngI
  rw [List.getElem?_map, List.getElem?_map, List.getElem?_range h]
  show some (pev c ((0 : Int) + (i : Nat) + 1) % q) = _
  rw [Int.zero_add]

theorem dealL_low {q n : Int} {c : List Int} (h : 0 < q) : ∀ x ∈ dealL q n c, 0 ≤ x ∧ x < q := fun x hx => by
  obtain ⟨i, _, rfl⟩ := List.mem_map.mp hx
  exact ⟨Int.emod_nonneg _ (Int.ne_of_gt h), Int.emod_lt_of_pos _ h⟩

theorem dealL_cg {q n : Int} {a b : List Int} (h : ∀ x, Cg q (pev a x) (pev b x)) : dealL q n a = dealL q n b := by
  unfold dealL
  exact List.map_congr_left fun x _ => Cg.iff.mp (h _)

/-- the points of these hands' pieces -/
def hPts (hs ps : List Int) : List (Int × Int) := hs.map fun h => (h + 1, ps.getD h.toNat 0)

theorem hPts_fst (hs ps : List Int) : (hPts hs ps).map (·.1) = hs.map (· + 1) := by
  unfold hPts
  rw [List.map_map]
  rfl

/-- the hands off a curve -/
def offL (q : Int) (cs : List Int) (pl : List Int) : List Int := (rngI 0 pl.length).filter fun h => decide (pev cs (h + 1) % q ≠ pl.getD h.toNat 0)

theorem pev_mods (q : Int) (c : List Int) (x : Int) : Cg q (pev (c.map (· % q)) x) (pev c x) := by
  induction c with
  | nil => exact Cg.refl _ _
  | cons a r ih =>
    rw [List.map_cons, pev_cons, pev_cons]
    exact (ih.mul (Cg.refl q x)).add (Cg.mod q a)

theorem deal_thru {q n : Int} {c : List Int} {hs : List Int} (hb : ∀ h ∈ hs, 0 ≤ h ∧ h < n) (hl : c.length = hs.length) (h0 : 0 < q) : Thru q (hPts hs (dealL q n c)) (c.map (· % q)) := by
  have pm : ∀ x, Cg q (pev (c.map (· % q)) x) (pev c x) := fun x => pev_mods q c x
  refine ⟨by unfold hPts; rw [List.length_map, List.length_map, hl], fun x hx => ?_, fun p hp => ?_⟩
  · obtain ⟨a, _, rfl⟩ := List.mem_map.mp hx
    exact ⟨Int.emod_nonneg _ (Int.ne_of_gt h0), Int.emod_lt_of_pos _ h0⟩
  · obtain ⟨m, hm, rfl⟩ := List.mem_map.mp hp
    have hmb := hb m hm
    refine (pm _).trans ?_
    show Cg q (pev c (m + 1)) ((dealL q n c).getD m.toNat 0)
    rw [List.getD_eq_getElem?_getD, dealL_get (show m.toNat < n.toNat by omega), Int.toNat_of_nonneg hmb.1]
    exact (Cg.mod q _).symm

theorem off_nil {q n : Int} {cs c : List Int} (h : ∀ x, Cg q (pev cs x) (pev c x)) : offL q cs (dealL q n c) = [] := by
  unfold offL
  rw [List.filter_eq_nil_iff]
  intro x hx
  obtain ⟨i, hi, rfl⟩ := List.mem_map.mp hx
  have hi' := List.mem_range.mp hi
  rw [dealL_len] at hi'
  have e : ((0 : Int) + (i : Nat)).toNat = i := by omega
  rw [e, List.getD_eq_getElem?_getD, dealL_get hi', Int.zero_add]
  simp
  exact Cg.iff.mp (h _)

/-- the points: the number at 0, the pieces at the hands' places -/
def evPts (m : Int) (hs ps : List Int) : List (Int × Int) := (0, m) :: List.zipWith (fun h p => (h + 1, p)) hs ps

theorem evPts_fst {m : Int} : ∀ {hs ps : List Int}, ps.length = hs.length → (evPts m hs ps).map (·.1) = 0 :: hs.map (· + 1) := by
  intro hs ps hl
  show 0 :: _ = 0 :: _
  congr 1
  induction hs generalizing ps with
  | nil => rfl
  | cons h r ih =>
    cases ps with
    | nil => simp at hl
    | cons p s =>
      rw [List.zipWith_cons_cons, List.map_cons, List.map_cons, ih (by simpa using hl)]

theorem ev_places {q m : Int} {hs ps : List Int} (hl : ps.length = hs.length) (hn : hs.Nodup) (hb : ∀ h ∈ hs, 0 ≤ h ∧ h + 1 < q) (h0 : 0 < q) : PlacesL q ((evPts m hs ps).map (·.1)) := by
  rw [evPts_fst hl]
  refine ⟨fun x hx => ?_, List.nodup_cons.mpr ⟨fun z => ?_, List.Pairwise.map _ (fun a b hab e => hab (by omega)) hn⟩⟩
  · rcases List.mem_cons.mp hx with rfl | hx
    · omega
    · obtain ⟨a, ha, rfl⟩ := List.mem_map.mp hx
      have := hb a ha
      omega
  · obtain ⟨a, ha, e⟩ := List.mem_map.mp z
    have := hb a ha
    omega

/-- the rising lists of s numbers from l on below m, rising -/
def lotsP : Nat → Nat → Nat → List (List Int)
  | 0, _, _ => [[]]
  | s + 1, m, l => (List.range (m - s - l)).flatMap fun i => (lotsP s m (l + i + 1)).map fun r => ((l + i : Nat) : Int) :: r

theorem lotsP_mem : ∀ {s m l : Nat} {r : List Int}, r ∈ lotsP s m l ↔ r.length = s ∧ r.Pairwise (· < ·) ∧ ∀ x ∈ r, (l : Int) ≤ x ∧ x < m
  | 0, m, l, r => by
    unfold lotsP
    rw [List.mem_singleton]
    constructor
    · rintro rfl
      exact ⟨rfl, .nil, fun x h => by cases h⟩
    · rintro ⟨h, _⟩
      exact List.eq_nil_of_length_eq_zero h
  | s + 1, m, l, r => by
    unfold lotsP
    rw [List.mem_flatMap]
    constructor
    · rintro ⟨i, hi, hr⟩
      obtain ⟨q, hq, rfl⟩ := List.mem_map.mp hr
      obtain ⟨h1, h2, h3⟩ := lotsP_mem.mp hq
      have hi := List.mem_range.mp hi
      refine ⟨by rw [List.length_cons, h1], .cons (fun x hx => ?_) h2, fun x hx => ?_⟩
      · have := h3 x hx
        omega
      · rcases List.mem_cons.mp hx with rfl | hx
        · omega
        · have := h3 x hx
          omega
    · rintro ⟨h1, h2, h3⟩
      cases r with
      | nil => cases h1
      | cons a q =>
        have ha := h3 a List.mem_cons_self
        cases h2 with
        | cons h4 h5 =>
          have hq : q.length = s := by simpa using h1
          have key : a + s < m := by
            have : ∀ (n : Nat) (q : List Int) (a : Int), q.length = n → (∀ x ∈ q, a < x) → q.Pairwise (· < ·) → (∀ x ∈ q, x < m) → a < m → a + n < m := by
              intro n
              induction n with
              | zero => intro q a _ _ _ _ h; simpa using h
              | succ n ih =>
                intro q a hl hg hp hm h
                cases q with
                | nil => cases hl
                | cons b q =>
                  cases hp with
                  | cons g1 g2 =>
                    have hb := hg b List.mem_cons_self
                    have := ih q b (by simpa using hl) g1 g2 (fun x hx => hm x (List.mem_cons_of_mem _ hx)) (hm b List.mem_cons_self)
                    omega
            exact this s q a hq h4 h5 (fun x hx => (h3 x (List.mem_cons_of_mem _ hx)).2) ha.2
          refine ⟨(a - l).toNat, List.mem_range.mpr (by omega), List.mem_map.mpr ⟨q, lotsP_mem.mpr ⟨hq, h5, fun x hx => ?_⟩, ?_⟩⟩
          · have h6 := h4 x hx
            have h7 := h3 x (List.mem_cons_of_mem _ hx)
            omega
          · congr 1
            omega

theorem lotsP_num : ∀ m ∈ List.range 8, ∀ s ∈ List.range 6, ∀ l ∈ List.range 9, (lotsP s m l).length ≤ 100 := by decide +kernel

theorem lots_part {s m l i : Nat} {d r : List Nat} (h : List.range (m - s - l) = d ++ i :: r) (hm : m ≤ 7) (hs : s + 1 ≤ 5) (hl : l ≤ 8) :
    (d.flatMap fun i => (lotsP s m (l + i + 1)).map fun r => ((l + i : Nat) : Int) :: r).length + (lotsP s m (l + i + 1)).length ≤ 100 := by
  have h1 := lotsP_num m (List.mem_range.mpr (by omega)) (s + 1) (List.mem_range.mpr (by omega)) l (List.mem_range.mpr (by omega))
  unfold lotsP at h1
  rw [h, List.flatMap_append, List.flatMap_cons, List.length_append, List.length_append, List.length_map] at h1
  omega

def stepL (s : Nat) (acc : List (List Int)) (h : Nat) : List (List Int) := acc ++ (acc.filter fun r => decide (r.length < s)).map fun r => r ++ [(h : Int)]

def allL (s : Nat) (d : List Nat) : List (List Int) := d.foldl (stepL s) [[]]

def lawL (m s : Nat) : List (List Int) := (allL s (List.range m)).filter fun r => decide (r.length = s)

def ltC (a b : List Int) : Bool := decide (TS.code 8 a < TS.code 8 b)

theorem lawL_perm : ∀ m ∈ List.range 8, ∀ s ∈ [2, 3, 4], s ≤ m → (lawL m s).Perm (lotsP s m 0) ∧ (lotsP s m 0).Pairwise (fun a b => TS.code 8 a < TS.code 8 b) ∧ (lawL m s).length < 64 ∧ lawL m s ≠ [] := by decide +kernel

theorem perm_sorted {α : Type} {f : α → Int} : ∀ {l2 l1 : List α}, l1.Perm l2 → l1.Pairwise (fun a b => f a ≤ f b) → l2.Pairwise (fun a b => f a < f b) → l1 = l2
  | [], l1, p, _, _ => p.eq_nil
  | b :: l2, l1, p, h1, h2 => by
    cases l1 with
    | nil => exact absurd p.symm.eq_nil (by simp)
    | cons a l1 =>
      cases h1 with
      | cons h3 h4 =>
        cases h2 with
        | cons h5 h6 =>
          have e : a = b := by
            rcases List.mem_cons.mp (p.mem_iff.mp List.mem_cons_self : a ∈ b :: l2) with z | z
            · exact z
            · rcases List.mem_cons.mp (p.mem_iff.mpr List.mem_cons_self : b ∈ a :: l1) with y | y
              · exact y.symm
              · have := h5 a z
                have := h3 b y
                omega
          subst e
          rw [perm_sorted (List.Perm.cons_inv p) h4 h6]

theorem allL_len {s : Nat} : ∀ d : List Nat, (∀ r ∈ allL s d, r.length ≤ d.length ∧ ∀ x ∈ r, ∃ h ∈ d, x = (h : Nat)) ∧ (allL s d).length ≤ 2 ^ d.length := by
  intro d
  have key : ∀ (d : List Nat) (acc : List (List Int)), (∀ r ∈ d.foldl (stepL s) acc, ∃ a ∈ acc, r.length ≤ a.length + d.length ∧ ∀ x ∈ r, x ∈ a ∨ ∃ h ∈ d, x = (h : Nat)) ∧ (d.foldl (stepL s) acc).length ≤ acc.length * 2 ^ d.length := by
    intro d
    induction d with
    | nil => intro acc; exact ⟨fun r hr => ⟨r, hr, by simp, fun x hx => .inl hx⟩, by simp⟩
    | cons h d ih =>
      intro acc
      obtain ⟨i1, i2⟩ := ih (stepL s acc h)
      refine ⟨fun r hr => ?_, ?_⟩
      · obtain ⟨a, ha, h1, h2⟩ := i1 r hr
        unfold stepL at ha
        rcases List.mem_append.mp ha with ha | ha
        · exact ⟨a, ha, by rw [List.length_cons]; omega, fun x hx => (h2 x hx).imp id fun ⟨z, hz, e⟩ => ⟨z, List.mem_cons_of_mem _ hz, e⟩⟩
        · obtain ⟨b, hb, rfl⟩ := List.mem_map.mp ha
          have hb := (List.mem_filter.mp hb).1
          refine ⟨b, hb, by rw [List.length_append] at h1; rw [List.length_cons]; have : [(h : Int)].length = 1 := rfl; omega, fun x hx => ?_⟩
          rcases h2 x hx with z | ⟨z, hz, e⟩
          · rcases List.mem_append.mp z with z | z
            · exact .inl z
            · exact .inr ⟨h, List.mem_cons_self, by simpa using z⟩
          · exact .inr ⟨z, List.mem_cons_of_mem _ hz, e⟩
      · refine Nat.le_trans i2 ?_
        have : (stepL s acc h).length ≤ acc.length * 2 := by
          unfold stepL
          rw [List.length_append, List.length_map]
          have := List.length_filter_le (fun r : List Int => decide (r.length < s)) acc
          omega
        rw [List.length_cons, Nat.pow_succ, Nat.mul_comm (2 ^ d.length) 2, ← Nat.mul_assoc]
        exact Nat.mul_le_mul_right _ this
  obtain ⟨k1, k2⟩ := key d [[]]
  refine ⟨fun r hr => ?_, by unfold allL; simpa using k2⟩
  obtain ⟨a, ha, h1, h2⟩ := k1 r hr
  rw [List.mem_singleton.mp ha] at h1 h2
  exact ⟨by simpa using h1, fun x hx => (h2 x hx).elim (fun z => by cases z) id⟩

theorem filterMap_if {α β : Type} (p : α → Prop) [DecidablePred p] (f : α → β) : ∀ l : List α, (l.filterMap fun r => if p r then some (f r) else none) = (l.filter fun r => decide (p r)).map f
  | [] => rfl
  | a :: l => by
    by_cases h : p a
    · rw [List.filterMap_cons_some (by rw [if_pos h]), List.filter_cons_of_pos (by simpa using h), List.map_cons, filterMap_if p f l]
    · rw [List.filterMap_cons_none (by rw [if_neg h]), List.filter_cons_of_neg (by simpa using h), filterMap_if p f l]

open Classical in
noncomputable def cvOf (q : Int) (hl pl : List Int) : List Int := if h : ∃ cs, Thru q (hPts hl pl) cs then Classical.choose h else []

structure Lot (q : Int) (n : Nat) (hl : List Int) : Prop where
  nd : hl.Nodup
  low : ∀ h ∈ hl, 0 ≤ h ∧ h < n
  nq : (n : Int) < q

theorem Lot.places {q : Int} {n : Nat} {hl : List Int} (h : Lot q n hl) (pl : List Int) : PlacesL q ((hPts hl pl).map (·.1)) := by
  rw [hPts_fst]
  refine ⟨fun x hx => ?_, List.Pairwise.map _ (fun a b hab e => hab (by omega)) h.nd⟩
  obtain ⟨m, hm, rfl⟩ := List.mem_map.mp hx
  have := h.low m hm
  have := h.nq
  omega

theorem Lot.thru {q : Int} {n : Nat} {hl : List Int} (hq : q ∈ nine) (h : Lot q n hl) (pl : List Int) : Thru q (hPts hl pl) (cvOf q hl pl) := by
  have e := thru_ex hq (h.places pl)
  unfold cvOf
  rw [dif_pos e]
  exact Classical.choose_spec e

theorem Lot.one {q : Int} {n : Nat} {hl : List Int} (hq : q ∈ nine) (h : Lot q n hl) {pl cs : List Int} (t : Thru q (hPts hl pl) cs) : cvOf q hl pl = cs := Thru.one hq (h.places pl) (h.thru hq pl) t

theorem lot_of {q : Int} {s n : Nat} {hl : List Int} (hm : hl ∈ lotsP s n 0) (nq : (n : Int) < q) : Lot q n hl := by
  obtain ⟨_, h2, h3⟩ := lotsP_mem.mp hm
  exact ⟨h2.imp fun h e => by omega, fun h hh => by have := h3 h hh; omega, nq⟩

theorem cnt2 {α : Type} (a b : α → Bool) : ∀ l : List α, l.length ≤ (l.filter fun x => !a x && !b x).length + (l.filter a).length + (l.filter b).length
  | [] => by simp
  | x :: l => by
    have ih := cnt2 a b l
    cases ha : a x <;> cases hb : b x <;> simp [ha, hb] <;> omega

theorem cnt1 {α : Type} (a : α → Bool) : ∀ l : List α, l.length = (l.filter fun x => !a x).length + (l.filter a).length
  | [] => by simp
  | x :: l => by
    have ih := cnt1 a l
    cases ha : a x <;> simp [ha] <;> omega

def offP (q : Int) (cs pl : List Int) (h : Int) : Bool := decide (pev cs (h + 1) % q ≠ pl.getD h.toNat 0)

theorem off_eq (q : Int) (cs pl : List Int) : offL q cs pl = (rngI 0 pl.length).filter (offP q cs pl) := rfl

theorem on_cg {q : Int} {cs pl : List Int} {h : Int} (hn : offP q cs pl h = false) (h0 : 0 ≤ h) (h1 : h.toNat < pl.length) (hp : ∀ p ∈ pl, 0 ≤ p ∧ p < q) : Cg q (pev cs (h + 1)) (pl.getD h.toNat 0) := by
  have e : pev cs (h + 1) % q = pl.getD h.toNat 0 := Classical.byContradiction fun z => by
    unfold offP at hn
    exact (of_decide_eq_false hn) z
  have hb := hp _ (List.mem_of_getElem? (getD_of h1))
  exact Cg.iff.mpr (e.trans (Int.emod_eq_of_lt hb.1 hb.2).symm)

theorem rngI_pw (lo : Int) (n : Nat) : (rngI lo n).Pairwise (· < ·) := by
  unfold rngI
  exact List.Pairwise.map _ (fun a b h => by omega) List.pairwise_lt_range

theorem rngI_mem {lo x : Int} {n : Nat} (h : x ∈ rngI lo n) : lo ≤ x ∧ x < lo + n := by
  unfold rngI at h
  obtain ⟨i, hi, rfl⟩ := List.mem_map.mp h
  have := List.mem_range.mp hi
  omega

/-- two curves with few hands off are one -/
theorem one_curve {q : Int} (hq : q ∈ nine) {pl c d : List Int} {s f : Nat} (nq : (pl.length : Int) < q) (hp : ∀ p ∈ pl, 0 ≤ p ∧ p < q) (hc : c.length = s) (hd : d.length = s) (lc : ∀ x ∈ c, 0 ≤ x ∧ x < q) (ld : ∀ x ∈ d, 0 ≤ x ∧ x < q)
    (oc : (offL q c pl).length ≤ f) (od : (offL q d pl).length ≤ f) (hn : s + 2 * f ≤ pl.length) : c = d := by
  have k := cnt2 (offP q c pl) (offP q d pl) (rngI 0 pl.length)
  rw [rngI_len, ← off_eq, ← off_eq] at k
  obtain ⟨on, hon⟩ : ∃ on, on = (rngI 0 pl.length).filter fun x => !offP q c pl x && !offP q d pl x := ⟨_, rfl⟩
  rw [← hon] at k
  have mem : ∀ h ∈ on, (0 ≤ h ∧ h < pl.length) ∧ offP q c pl h = false ∧ offP q d pl h = false := fun h hh => by
    rw [hon] at hh
    obtain ⟨h1, h2⟩ := List.mem_filter.mp hh
    have := rngI_mem h1
    simp only [Bool.and_eq_true, Bool.not_eq_true'] at h2
    exact ⟨by omega, h2⟩
  have pw : on.Pairwise (· < ·) := by rw [hon]; exact (rngI_pw 0 _).filter _
  have pp : PlacesL q (on.map (· + 1)) := by
    refine ⟨fun x hx => ?_, List.Pairwise.map _ (fun a b hab e => absurd hab (by omega)) pw⟩
    obtain ⟨h, hh, rfl⟩ := List.mem_map.mp hx
    have := (mem h hh).1
    omega
  refine curves_eq hq (uneq_places pp) (hc.trans hd.symm) (by rw [List.length_map]; omega) lc ld fun x hx => ?_
  obtain ⟨h, hh, rfl⟩ := List.mem_map.mp hx
  obtain ⟨h1, h2, h3⟩ := mem h hh
  exact (on_cg h2 h1.1 (by omega) hp).trans (on_cg h3 h1.1 (by omega) hp).symm

/-- .. and it goes through a lot among the first ones -/
theorem early_lot {q : Int} (hq : q ∈ nine) {pl c : List Int} {s f m : Nat} (nq : (pl.length : Int) < q) (hp : ∀ p ∈ pl, 0 ≤ p ∧ p < q) (hc : c.length = s) (lc : ∀ x ∈ c, 0 ≤ x ∧ x < q) (oc : (offL q c pl).length ≤ f) (hm : s + f = m) (hmn : m ≤ pl.length) :
    ∃ hl ∈ lotsP s m 0, cvOf q hl pl = c := by
  have k := cnt1 (offP q c pl) (rngI 0 m)
  rw [rngI_len] at k
  obtain ⟨tl, ex⟩ : ∃ tl, rngI 0 pl.length = rngI 0 m ++ tl := by
    obtain ⟨r, hr⟩ : ∃ r, pl.length = m + r := ⟨pl.length - m, by omega⟩
    rw [hr]
    unfold rngI
    rw [List.range_add, List.map_append]
    exact ⟨_, rfl⟩
  have k2 : ((rngI 0 m).filter (offP q c pl)).length ≤ f := by
    rw [off_eq, ex, List.filter_append, List.length_append] at oc
    omega
  obtain ⟨on, hon⟩ : ∃ on, on = (rngI 0 m).filter fun x => !offP q c pl x := ⟨_, rfl⟩
  rw [← hon] at k
  have mem : ∀ h ∈ on, (0 ≤ h ∧ h < m) ∧ offP q c pl h = false := fun h hh => by
    rw [hon] at hh
    obtain ⟨h1, h2⟩ := List.mem_filter.mp hh
    have := rngI_mem h1
    exact ⟨by omega, by simpa using h2⟩
  have pw : on.Pairwise (· < ·) := by rw [hon]; exact (rngI_pw 0 _).filter _
  have hm2 : on.take s ∈ lotsP s m 0 := lotsP_mem.mpr ⟨by rw [List.length_take]; omega, pw.take, fun x hx => by have := (mem x (List.mem_of_mem_take hx)).1; omega⟩
  refine ⟨on.take s, hm2, (lot_of hm2 (by omega)).one hq ⟨by unfold hPts; rw [List.length_map, List.length_take, hc]; omega, lc, fun p hp' => ?_⟩⟩
  unfold hPts at hp'
  obtain ⟨h, hh, rfl⟩ := List.mem_map.mp hp'
  have h1 := mem h (List.mem_of_mem_take hh)
  exact on_cg h1.2 h1.1.1 (by omega) hp

/-- none told -/
def NoNum (q : Int) (n t f : Nat) (pl : List Int) : Prop := ∀ hl ∈ lotsP (t + 1) n 0, f < (offL q (cvOf q hl pl) pl).length

theorem pev0 : ∀ {q : Int} {cs : List Int}, (∀ x ∈ cs, 0 ≤ x ∧ x < q) → 0 < q → pev cs 0 % q = cs.getD 0 0
  | q, [], _, _ => Int.zero_emod q
  | q, c :: r, h, _ => by
    rw [pev_cons, Int.mul_zero, Int.zero_add]
    have := h c List.mem_cons_self
    exact Int.emod_eq_of_lt this.1 this.2

theorem lots_sz {m s : Nat} (hm : m ≤ 7) (hs : s ≤ 5) : (lotsP s m 0).length ≤ 100 := lotsP_num m (List.mem_range.mpr (by omega)) s (List.mem_range.mpr (by omega)) 0 (by decide)

theorem pev_snoc (a : List Int) (n x : Int) : pev (a ++ [n]) x = pev a x + x ^ a.length * n := by
  induction a with
  | nil =>
    show 0 * x + n = 0 + x ^ 0 * n
    rw [Int.zero_mul, Int.pow_zero, Int.one_mul]
  | cons m r ih =>
    rw [List.cons_append, pev_cons, ih, pev_cons, List.length_cons, Int.pow_succ]
    generalize x ^ r.length = y
    grind

theorem pev_set {x v u : Int} : ∀ {l : List Int} {k : Nat}, l[k]? = some u → pev (l.set k v) x = pev l x + (v - u) * x ^ k
  | [], k, h => by simp at h
  | a :: r, 0, h => by
    simp at h
    subst h
    rw [List.set_cons_zero, pev_cons, pev_cons, Int.pow_zero]
    omega
  | a :: r, k + 1, h => by
    have ih := pev_set (x := x) (v := v) (l := r) (k := k) (by simpa using h)
    rw [List.set_cons_succ, pev_cons, ih, pev_cons, Int.pow_succ]
    generalize x ^ k = y
    grind

theorem pev_rep0 (n : Nat) (x : Int) : pev (List.replicate n 0) x = 0 := by
  induction n with
  | zero => rfl
  | succ n ih => rw [List.replicate_succ, pev_cons, ih, Int.zero_mul]; rfl

theorem fermat0 : ∀ q ∈ [5, 7, 11, 13, 17, 19, 23, 29, 31], ∀ a ∈ List.range q, a = 0 ∨ a * (a ^ (q - 2) % q) % q = 1 := by decide +kernel

theorem fermat {q a : Int} (hq : q ∈ nine) (h0 : 0 < a) (h1 : a < q) : Cg q (a * (a ^ (q - 2).toNat % q)) 1 := by
  have h5 := nine_le hq
  have hn : q.toNat ∈ [5, 7, 11, 13, 17, 19, 23, 29, 31] := by
    simp only [nine, List.mem_cons, List.not_mem_nil, or_false] at hq ⊢
    omega
  refine Cg.iff.mpr ?_
  rw [show (1 : Int) % q = 1 from Int.emod_eq_of_lt (by decide) (by omega)]
  rcases fermat0 q.toNat hn a.toNat (List.mem_range.mpr (by omega)) with h | h
  · omega
  · have ea : ((a.toNat : Nat) : Int) = a := Int.toNat_of_nonneg (by omega)
    have eq : ((q.toNat : Nat) : Int) = q := Int.toNat_of_nonneg (by omega)
    have e2 : (q - 2).toNat = q.toNat - 2 := by omega
    rw [e2, ← ea, ← eq, Int.toNat_natCast]
    exact_mod_cast h

/-- the curve of a lot: 1 at 0, nought at the lot's places -/
structure LotC (q : Int) (ls cs : List Int) : Prop where
  num : cs.length = ls.length + 1
  low : ∀ c ∈ cs, 0 ≤ c ∧ c < q
  one : cs[0]? = some 1
  zero : ∀ x, 0 ≤ x → x + 1 < q → (pev cs (x + 1) % q = 0 ↔ x ∈ ls)

theorem isW_ex {q x : Int} {ns : List Int} {i : Nat} {n : Int} (hq : q ∈ nine) (hn : PlacesL q ns) (hi : ns[i]? = some n) : ∃ w, IsW q x ns i w := by
  have h5 := nine_le hq
  obtain ⟨b, hb⟩ := cg_inv hq (gap_ne hq _ (hn.off hi))
  refine ⟨gapP x (offAt ns i) * b % q, ⟨Int.emod_nonneg _ (by omega), Int.emod_lt_of_pos _ (by omega)⟩, fun n' hn' => ?_⟩
  obtain rfl : n = n' := Option.some.inj (hi.symm.trans hn')
  have h1 := (Cg.mod q (gapP x (offAt ns i) * b)).mul (Cg.refl q (gapP n (offAt ns i)))
  have e : gapP x (offAt ns i) * b * gapP n (offAt ns i) = gapP x (offAt ns i) * (gapP n (offAt ns i) * b) := by grind
  rw [e] at h1
  have h2 := (Cg.refl q (gapP x (offAt ns i))).mul hb
  rw [Int.mul_one] at h2
  exact h1.trans h2

/-- what the law has gone through: the first j but the one at i -/
def upTo (ns : List Int) (i j : Nat) : List Int := (ns.take j).eraseIdx i

theorem upTo_off (ns : List Int) (i : Nat) : upTo ns i ns.length = offAt ns i := by
  unfold upTo offAt
  rw [List.take_of_length_le (Nat.le_refl _), List.eraseIdx_eq_take_drop_succ]

theorem upTo_same {ns : List Int} {i : Nat} {n : Int} (h : ns[i]? = some n) : upTo ns i (i + 1) = upTo ns i i := by
  unfold upTo
  have hl := (List.getElem?_eq_some_iff.mp h).1
  have e : (ns.take i).length = i := by rw [List.length_take]; omega
  rw [List.take_add_one, h, List.eraseIdx_append_of_length_le (by omega), e, Nat.sub_self, List.eraseIdx_of_length_le (l := ns.take i) (by omega)]
  exact List.append_nil _

theorem upTo_next {ns : List Int} {i j : Nat} {n : Int} (h : ns[j]? = some n) (hij : j ≠ i) : upTo ns i (j + 1) = upTo ns i j ++ [n] := by
  unfold upTo
  have hl := (List.getElem?_eq_some_iff.mp h).1
  have e : (ns.take j).length = j := by rw [List.length_take]; omega
  rw [List.take_add_one, h]
  by_cases hlt : i < j
  · rw [List.eraseIdx_append_of_lt_length (by omega)]
    rfl
  · rw [List.eraseIdx_append_of_length_le (by omega), List.eraseIdx_of_length_le (l := ns.take j) (by omega), List.eraseIdx_of_length_le]
    · rfl
    · show 1 ≤ _
      omega

def wmul (q : Int) (cs ns ws : List Int) : List Int := List.zipWith (fun w n => w * (pev cs n % q)) ws ns

theorem wmul_get {q : Int} {cs ns ws : List Int} {i : Nat} {w n : Int} (hw : ws[i]? = some w) (hn : ns[i]? = some n) : (wmul q cs ns ws)[i]? = some (w * (pev cs n % q)) := by
  unfold wmul
  rw [List.getElem?_zipWith, hw, hn]

theorem wmul_len {q : Int} {cs ns ws : List Int} (h : ws.length = ns.length) : (wmul q cs ns ws).length = ns.length := by
  unfold wmul
  rw [List.length_zipWith, h, Nat.min_self]

theorem wmul_sum {q : Int} {cs ns ws : List Int} (h : ws.length = ns.length) : ∀ m, m ≤ ns.length → Cg q ((wmul q cs ns ws).take m).sum (sumTo (fun i => ws.getD i 0 * pev cs (ns.getD i 0)) m)
  | 0, _ => Cg.refl _ _
  | m + 1, hm => by
    have ih := wmul_sum (q := q) (cs := cs) h m (by omega)
    have hw : ws[m]? = some (ws.getD m 0) := by rw [List.getD_eq_getElem?_getD, List.getElem?_eq_getElem (by omega)]; rfl
    have hn : ns[m]? = some (ns.getD m 0) := by rw [List.getD_eq_getElem?_getD, List.getElem?_eq_getElem (by omega)]; rfl
    rw [List.take_add_one, wmul_get hw hn, List.sum_append]
    refine ih.add ?_
    rw [Option.toList_some, List.sum_singleton]
    exact (Cg.refl q _).mul (Cg.mod q _)

theorem pev_append (a b : List Int) (x : Int) : pev (a ++ b) x = pev a x + x ^ a.length * pev b x := by
  induction a with
  | nil => simp [pev]
  | cons n r ih =>
    rw [List.cons_append, pev_cons, ih, pev_cons, List.length_cons, Int.pow_succ]
    have e1 : (pev r x + x ^ r.length * pev b x) * x = pev r x * x + x ^ r.length * x * pev b x := by
      rw [Int.add_mul, Int.mul_right_comm]
    omega

/-- a curve's points at these places -/
def ptsOf (q : Int) (cs ss : List Int) : List (Int × Int) := ss.map fun s => (s, pev cs s % q)

theorem pts_fst (q : Int) (cs ss : List Int) : (ptsOf q cs ss).map (·.1) = ss := by
  unfold ptsOf
  rw [List.map_map]
  exact List.map_id ss
end FL
/-! more equations for `simp only [seval]` -/
namespace FL
open PySem PyProof.Rows L2
section
variable {α β : Type} {st : Store} {x y z : Val} {xs ys : List Val} {p q n m : Nat} {i j k : Int} {b : Bool}
/-! a cell's list: by what the store holds -/
theorem lstAt_eq1 : lstAt st p = match st[p]? with
  | some (.lst xs) => some xs
  | _ => none := nd rfl
theorem dicAt_eq1 : dicAt st p = match st[p]? with
  | some (.dic xs) => some xs
  | _ => none := nd rfl
theorem seq_ref1 : seqOf st (.ref p) = lstAt st p := nd rfl
theorem lst_ref1 : lstOf st (.ref p) = lstAt st p := nd rfl
theorem pl_ref1 : plOf st (.ref p) = lstAt st p := nd rfl
theorem cur_ref1 : curOf st (.ref p) = match lstAt st p with
  | some _ => some fun s => lstAt s p
  | none => none := nd rfl
theorem dict_ref1 : dictOf st (.ref p) = dicAt st p := nd rfl
theorem seq_int1 : seqOf st (.int i) = none := nd rfl
theorem seq_str1 {s : Str} : seqOf st (.str s) = none := nd rfl
theorem seq_non1 : seqOf st .non = none := nd rfl
theorem seq_bl1 : seqOf st (.bl b) = none := nd rfl
theorem seq_rd1 {ks : List Key} : seqOf st (.rd ks xs) = none := nd rfl
theorem dict_rd1 {ks : List Key} : dictOf st (.rd ks xs) = some (ks.zip xs) := nd rfl
/-! items -/
theorem at_0 {a : α} {l : List α} : atI (a :: l) 0 = some a := atI_nat (j := 0) rfl
theorem at_1 {a a1 : α} {l : List α} : atI (a :: a1 :: l) 1 = some a1 := atI_nat (j := 1) rfl
theorem at_2 {a a1 a2 : α} {l : List α} : atI (a :: a1 :: a2 :: l) 2 = some a2 := atI_nat (j := 2) rfl
theorem at_3 {a a1 a2 a3 : α} {l : List α} : atI (a :: a1 :: a2 :: a3 :: l) 3 = some a3 := atI_nat (j := 3) rfl
theorem at_4 {a a1 a2 a3 a4 : α} {l : List α} : atI (a :: a1 :: a2 :: a3 :: a4 :: l) 4 = some a4 := atI_nat (j := 4) rfl
theorem at_5 {a a1 a2 a3 a4 a5 : α} {l : List α} : atI (a :: a1 :: a2 :: a3 :: a4 :: a5 :: l) 5 = some a5 := atI_nat (j := 5) rfl
theorem at_eq {l : List α} {a : α} {i : Int} (h0 : 0 ≤ i) (h : l[i.toNat]? = some a) : atI l i = some a := by
  have e : i = (i.toNat : Int) := by omega
  rw [e]
  exact atI_nat h
theorem at_map {f : α → β} {l : List α} : atI (l.map f) i = (atI l i).map f := by
  unfold atI
  rw [List.length_map]
  cases ixN l.length i with
  | none => rfl
  | some j => simp
theorem map_some {f : α → β} {a : α} : (some a).map f = some (f a) := nd rfl
theorem at_ints {l : List Int} (h : 0 ≤ i ∧ i < (l.length : Int)) : atI l i = some (l.getD i.toNat 0) := by
  refine at_eq h.1 ?_
  rw [List.getD_eq_getElem?_getD, List.getElem?_eq_getElem (by omega)]
  rfl
theorem ixN_in (h : 0 ≤ i ∧ i < (n : Int)) : ixN n i = some i.toNat := by
  unfold ixN
  rw [if_pos h.1, if_pos h.2]
theorem ix_tup : fIx (.tup xs) (.int i) st = match atI xs i with
  | some z => some (z, st)
  | none => none := nd rfl
theorem ix_ro : fIx (.ro xs) (.int i) st = match atI xs i with
  | some z => some (z, st)
  | none => none := nd rfl
theorem ix_wr : fIx (.wr xs) (.int i) st = match atI xs i with
  | some z => some (z, st)
  | none => none := nd rfl
theorem ix_ref {p : Nat} (h : st[p]? = some (.lst xs)) : fIx (.ref p) (.int i) st = match atI xs i with
  | some z => some (z, st)
  | none => none := by
  unfold fIx ixF
  simp only [seq_ref1, lstAt_eq1, h]
  all_goals (cases atI xs i <;> rfl)
theorem ix_ref1 : fIx (.ref p) (.int i) st = match st[p]? with
  | some (.lst xs) => (match atI xs i with
    | some z => some (z, st)
    | none => none)
  | some (.dic es) => (match valS es (.inl i) with
    | some z => some (z, st)
    | none => none)
  | _ => none := by
  unfold fIx ixF
  simp only [seq_ref1, lstAt_eq1]
  unfold FL.dGet
  simp only [dict_ref1, dicAt_eq1]
  cases h : st[p]? with
  | none => rfl
  | some c =>
    cases c with
    | lst ys => rfl
    | dic es =>
      simp only [keyOf]
      cases valS es (.inl i) <;> rfl
    | dit es => rfl
    | ins C es => rfl
/-! sizes, kinds -/
theorem len_ro : fLen [.ro xs] st = some (.int (xs.length : Nat), st) := nd rfl
theorem len_tup : fLen [.tup xs] st = some (.int (xs.length : Nat), st) := nd rfl
theorem len_wr : fLen [.wr xs] st = some (.int (xs.length : Nat), st) := nd rfl
theorem len_ref : fLen [.ref p] st = match st[p]? with
  | some (.lst xs) => some (.int (xs.length : Nat), st)
  | some (.dic es) => some (.int (es.length : Nat), st)
  | _ => none := by
  unfold fLen
  simp only [seq_ref1, lstAt_eq1, dict_ref1, dicAt_eq1]
  cases h : st[p]? with
  | none => rfl
  | some c => cases c <;> rfl
theorem len_nil : ([] : List α).length = 0 := nd rfl
theorem len_cons {a : α} {l : List α} : (a :: l).length = l.length + 1 := nd rfl
theorem len_app {l r : List α} : (l ++ r).length = l.length + r.length := List.length_append
theorem len_rngs {lo : Int} : (rngs lo n).length = n := rngs_len lo n
theorem len_set {l : List α} {a : α} : (l.set n a).length = l.length := List.length_set
theorem ty_non : tyF st .non = some .non := nd rfl
theorem ty_bl : tyF st (.bl b) = some .bool := nd rfl
theorem ty_int : tyF st (.int i) = some .int := nd rfl
theorem ty_str {s : Str} : tyF st (.str s) = some .str := nd rfl
theorem ty_tup : tyF st (.tup xs) = some .tuple := nd rfl
theorem ty_ro : tyF st (.ro xs) = some .list := nd rfl
theorem ty_rd {ks : List Key} : tyF st (.rd ks xs) = some .dict := nd rfl
theorem le_nn {T : Ty} : Ty.le T T = true := by cases T <;> rfl
theorem le_bi : Ty.le .bool .int = true := nd rfl
theorem le_bs : Ty.le .bool .str = false := nd rfl
theorem le_bt : Ty.le .bool .tuple = false := nd rfl
theorem le_bl : Ty.le .bool .list = false := nd rfl
theorem le_bd : Ty.le .bool .dict = false := nd rfl
theorem le_ib : Ty.le .int .bool = false := nd rfl
theorem le_is : Ty.le .int .str = false := nd rfl
theorem le_it : Ty.le .int .tuple = false := nd rfl
theorem le_il : Ty.le .int .list = false := nd rfl
theorem le_id : Ty.le .int .dict = false := nd rfl
theorem le_si : Ty.le .str .int = false := nd rfl
theorem le_sb : Ty.le .str .bool = false := nd rfl
theorem le_st : Ty.le .str .tuple = false := nd rfl
theorem le_sl : Ty.le .str .list = false := nd rfl
theorem le_sd : Ty.le .str .dict = false := nd rfl
theorem le_ti : Ty.le .tuple .int = false := nd rfl
theorem le_tb : Ty.le .tuple .bool = false := nd rfl
theorem le_ts : Ty.le .tuple .str = false := nd rfl
theorem le_tl : Ty.le .tuple .list = false := nd rfl
theorem le_td : Ty.le .tuple .dict = false := nd rfl
theorem le_li : Ty.le .list .int = false := nd rfl
theorem le_lb : Ty.le .list .bool = false := nd rfl
theorem le_ls : Ty.le .list .str = false := nd rfl
theorem le_lt : Ty.le .list .tuple = false := nd rfl
theorem le_ld : Ty.le .list .dict = false := nd rfl
theorem le_ni : Ty.le .non .int = false := nd rfl
theorem le_nb : Ty.le .non .bool = false := nd rfl
theorem le_ns : Ty.le .non .str = false := nd rfl
theorem le_nt : Ty.le .non .tuple = false := nd rfl
theorem le_nl : Ty.le .non .list = false := nd rfl
theorem le_nd : Ty.le .non .dict = false := nd rfl
theorem le_di : Ty.le .dict .int = false := nd rfl
theorem le_db : Ty.le .dict .bool = false := nd rfl
theorem le_ds : Ty.le .dict .str = false := nd rfl
theorem le_dt : Ty.le .dict .tuple = false := nd rfl
theorem le_dl : Ty.le .dict .list = false := nd rfl
/-! conversions -/
theorem list_ro : fList b [.ro xs] st = some (newL b xs st) := nd rfl
theorem list_tup : fList b [.tup xs] st = some (newL b xs st) := nd rfl
theorem list_wr : fList b [.wr xs] st = some (newL b xs st) := nd rfl
theorem list_ref : fList b [.ref p] st = match lstAt st p with
  | some ys => some (newL b ys st)
  | none => none := nd rfl
theorem tuple_tup : fTuple [.tup xs] st = some (.tup xs, st) := nd rfl
theorem tuple_ro : fTuple [.ro xs] st = some (.tup xs, st) := nd rfl
theorem tuple_wr : fTuple [.wr xs] st = some (.tup xs, st) := nd rfl
theorem tuple_ref : fTuple [.ref p] st = match lstAt st p with
  | some ys => some (.tup ys, st)
  | none => none := nd rfl
theorem int_i : fInt [.int i] st = some (.int i, st) := nd rfl
theorem int_b : fInt [.bl b] st = some (.int (if b then 1 else 0), st) := nd rfl
theorem ints_of {l : List Int} : intsOf (l.map Val.int) = some l := by
  induction l with
  | nil => rfl
  | cons n r ih =>
    rw [List.map_cons]
    unfold intsOf
    rw [ih]
theorem bools_of {l : List Bool} : boolsOf (l.map Val.bl) = some l := by
  induction l with
  | nil => rfl
  | cons n r ih =>
    rw [List.map_cons]
    unfold boolsOf
    rw [ih]
theorem sum_eq1 : fSum [x] st = match intsIn st x with
  | some ns => some (.int ns.sum, st)
  | none => none := nd rfl
theorem all_eq1 : fAll [x] st = match boolsIn st x with
  | some ns => some (.bl (ns.all id), st)
  | none => none := nd rfl
theorem any_eq1 : fAny [x] st = match boolsIn st x with
  | some ns => some (.bl (ns.any id), st)
  | none => none := nd rfl
theorem intsIn_ro : intsIn st (.ro xs) = intsOf xs := nd rfl
theorem boolsIn_ro : boolsIn st (.ro xs) = boolsOf xs := nd rfl
theorem boolsIn_ref : boolsIn st (.ref p) = match lstAt st p with
  | some ys => boolsOf ys
  | none => none := nd rfl
theorem intsIn_ref : intsIn st (.ref p) = match lstAt st p with
  | some ys => intsOf ys
  | none => none := nd rfl
theorem intsIn_tup : intsIn st (.tup xs) = none := nd rfl
theorem max2_eq : fMax2 [.int i, .int j] st = some (.int (if i < j then j else i), st) := by
  unfold fMax2
  first | rfl | simp
theorem min2_eq : fMin2 [.int i, .int j] st = some (.int (if j < i then j else i), st) := by
  unfold fMin2
  first | rfl | simp
/-! methods -/
theorem app_eq (h : xs.length < 10000) : fApp xs [y] = some (.non, xs ++ [y]) := by
  unfold fApp
  rw [show Nat.blt xs.length sizeLine = true from Nat.ble_eq_true_of_le (show xs.length + 1 ≤ 16777216 by omega)]
  rfl
theorem popAt_eq (h0 : 0 ≤ i) (h1 : i < (xs.length : Int)) (hz : xs.length ≤ 10000) (h : xs[i.toNat]? = some y) : fPopAt xs [.int i] = some (y, xs.eraseIdx i.toNat) := by
  unfold fPopAt
  dsimp only
  rw [decide_eq_true (show -(2 ^ 63) ≤ i ∧ i < 2 ^ 63 by omega)]
  have e : seqIndex? i xs.length = some i.toNat := pop_at h0 h1
  rw [e]
  dsimp only [cond_true]
  rw [h]
theorem clr_eq : fClr xs [] = some (.non, []) := nd rfl
/-! slices -/
theorem sl_tup {lo hi : Option Int} : slF b (.tup xs) lo hi st = some (.tup (cutL xs lo hi), st) := nd rfl
theorem sl_ro {lo hi : Option Int} : slF b (.ro xs) lo hi st = some (newL b (cutL xs lo hi) st) := nd rfl
theorem sl_wr {lo hi : Option Int} : slF b (.wr xs) lo hi st = some (newL b (cutL xs lo hi) st) := nd rfl
theorem sl_ref {lo hi : Option Int} : slF b (.ref p) lo hi st = match lstAt st p with
  | some xs => some (newL b (cutL xs lo hi) st)
  | none => none := nd rfl
theorem cut_to {i : Int} (h : 0 ≤ i) : cutL xs none (some i) = xs.take i.toNat := by
  obtain ⟨k, rfl⟩ : ∃ k : Nat, i = (k : Int) := ⟨i.toNat, by omega⟩
  unfold cutL
  rw [HT.sIx_nat]
  show ((xs.drop 0).take _) = _
  rw [List.drop_zero]
  show xs.take (min k xs.length - 0) = _
  rw [Nat.sub_zero, Int.toNat_natCast]
  rcases Nat.le_total k xs.length with h | h
  · rw [Nat.min_eq_left h]
  · rw [Nat.min_eq_right h, List.take_of_length_le (Nat.le_refl _), List.take_of_length_le h]
theorem cut_from {i : Int} (h : 0 ≤ i) : cutL xs (some i) none = xs.drop i.toNat := by
  obtain ⟨k, rfl⟩ : ∃ k : Nat, i = (k : Int) := ⟨i.toNat, by omega⟩
  unfold cutL
  rw [HT.sIx_nat]
  show ((xs.drop (min k xs.length)).take (xs.length - min k xs.length)) = _
  rw [List.take_of_length_le (by rw [List.length_drop]; omega), Int.toNat_natCast]
  rcases Nat.le_total k xs.length with h | h
  · rw [Nat.min_eq_left h]
  · rw [Nat.min_eq_right h, List.drop_of_length_le (Nat.le_refl _), List.drop_of_length_le h]
theorem cut_to' {i : Int} (h : 0 ≤ i) : cutL xs none (some i) = xs.take i.toNat := cut_to h
theorem cut_from' {i : Int} (h : 0 ≤ i) : cutL xs (some i) none = xs.drop i.toNat := cut_from h
theorem cut_all' : cutL xs none none = xs := by
  unfold cutL
  show (xs.drop 0).take _ = xs
  rw [List.drop_zero]
  show xs.take (xs.length - 0) = xs
  rw [Nat.sub_zero, List.take_length]
theorem cut_mid {i j : Int} (h : 0 ≤ i) (h2 : 0 ≤ j) : cutL xs (some i) (some j) = (xs.drop i.toNat).take (j.toNat - i.toNat) := by
  obtain ⟨k, rfl⟩ : ∃ k : Nat, i = (k : Int) := ⟨i.toNat, by omega⟩
  obtain ⟨l, rfl⟩ : ∃ l : Nat, j = (l : Int) := ⟨j.toNat, by omega⟩
  unfold cutL
  rw [HT.sIx_nat, HT.sIx_nat, Int.toNat_natCast, Int.toNat_natCast]
  apply List.ext_getElem?
  intro m
  rw [List.getElem?_take, List.getElem?_take, List.getElem?_drop, List.getElem?_drop]
  by_cases hm : m < min l xs.length - min k xs.length
  · rw [if_pos hm, if_pos (by omega), Nat.min_eq_left (by omega)]
  · rw [if_neg hm]
    by_cases h3 : m < l - k
    · rw [if_pos h3, List.getElem?_eq_none (by omega)]
    · rw [if_neg h3]
theorem toNat_cast : ((n : Int)).toNat = n := Int.toNat_natCast n
theorem take_map {f : α → β} {l : List α} : (l.map f).take n = (l.take n).map f := List.map_take.symm
theorem drop_map {f : α → β} {l : List α} : (l.map f).drop n = (l.drop n).map f := List.map_drop.symm
theorem eraseIdx_map {f : α → β} {l : List α} : (l.map f).eraseIdx n = (l.eraseIdx n).map f := by
  induction l generalizing n with
  | nil => rfl
  | cons a l ih =>
    cases n with
    | zero => rfl
    | succ n => simp [ih]
/-! truth -/
theorem tru_non : truF st .non = some false := nd rfl
theorem tru_bl : truF st (.bl b) = some b := nd rfl
theorem tru_int : truF st (.int i) = some (i != 0) := nd rfl
theorem tru_tup : truF st (.tup xs) = some (!xs.isEmpty) := nd rfl
theorem tru_ro : truF st (.ro xs) = some (!xs.isEmpty) := nd rfl
/-! what a def gives back: new things without cells in them -/
mutual
theorem frzV_id {lk : Nat → Option Val} : ∀ {x : Val}, below 0 x = true → frzV lk x = some x
  | .non, _ => rfl
  | .bl _, _ => rfl
  | .int _, _ => rfl
  | .str _, _ => rfl
  | .ty _, _ => rfl
  | .gl _, _ => rfl
  | .ex0 _, _ => rfl
  | .ref n, h => by simp [FL.below] at h
  | .tup xs, h => by
    unfold frzV
    rw [frzVs_id (by simpa [FL.below] using h)]
  | .ro xs, h => by
    unfold frzV
    rw [frzVs_id (by simpa [FL.below] using h)]
  | .wr xs, h => by
    unfold frzV
    rw [frzVs_id (by simpa [FL.below] using h)]
  | .rd ks xs, h => by
    unfold frzV
    rw [frzVs_id (by simpa [FL.below] using h)]
  | .ex1 C f x, h => by
    unfold frzV
    rw [frzV_id (by simpa [FL.below] using h)]
  | .fn C xs, h => by
    unfold frzV
    rw [frzVs_id (by simpa [FL.below] using h)]
    dsimp only
    rw [eqVals_refl]
    rfl
theorem frzVs_id {lk : Nat → Option Val} : ∀ {xs : List Val}, belows 0 xs = true → frzVs lk xs = some xs
  | [], _ => rfl
  | x :: xs, h => by
    have h' := Bool.and_eq_true_iff.mp (show (below 0 x && belows 0 xs) = true by simpa [FL.belows] using h)
    unfold frzVs
    rw [frzV_id h'.1, frzVs_id h'.2]
end
theorem below_int : below n (.int i) = true := nd rfl
theorem below_bl : below n (.bl b) = true := nd rfl
theorem below_non : below n .non = true := nd rfl
theorem below_str {s : Str} : below n (.str s) = true := nd rfl
theorem below_tup : below n (.tup xs) = belows n xs := by simp [FL.below]
theorem below_ro : below n (.ro xs) = belows n xs := by simp [FL.below]
theorem belows_nil : belows n [] = true := nd rfl
theorem belows_cons : belows n (x :: xs) = (below n x && belows n xs) := by simp [FL.belows]
theorem belows_app : belows n (xs ++ ys) = (belows n xs && belows n ys) := by
  induction xs with
  | nil => rfl
  | cons x xs ih => rw [List.cons_append, belows_cons, belows_cons, ih, Bool.and_assoc]
theorem belows_ints {l : List Int} : belows n (l.map Val.int) = true := by
  induction l with
  | nil => rfl
  | cons x xs ih => rw [List.map_cons, belows_cons, ih]; rfl
theorem belows_map {l : List α} {f : α → Val} (h : ∀ a ∈ l, below n (f a) = true) : belows n (l.map f) = true := by
  induction l with
  | nil => rfl
  | cons x xs ih => rw [List.map_cons, belows_cons, ih fun a ha => h a (List.mem_cons_of_mem _ ha), h x List.mem_cons_self]; rfl
theorem retV_id {st0 st : Store} {x : Val} (h : st.take st0.length = st0) (hb : below 0 x = true) : retV st0 x st = (x, st0) := by
  unfold retV frz
  rw [frzV_id hb]
  dsimp only
  rw [leftB_same h, h]
  rfl
theorem retV_lst {st0 cs : Store} {xs : List Val} (h : belows 0 xs = true) : retV st0 (.ref st0.length) (st0 ++ .lst xs :: cs) = (.ro xs, st0) := by
  have hf : frz st0.length (st0 ++ .lst xs :: cs) (.ref st0.length) = some (.ro xs) := by
    show frzN st0.length (st0 ++ .lst xs :: cs) 40 st0.length = _
    unfold frzN
    rw [show Nat.blt st0.length st0.length = false from Bool.eq_false_iff.mpr fun z => Nat.lt_irrefl _ (Nat.le_of_ble_eq_true z)]
    dsimp only [cond_false]
    rw [List.getElem?_append_right (Nat.le_refl _), Nat.sub_self]
    dsimp only [List.getElem?_cons_zero]
    rw [frzVs_id h]
  unfold retV
  rw [hf]
  dsimp only
  rw [leftB_same (by rw [List.take_append_of_le_length (Nat.le_refl _), List.take_length]), List.take_append_of_le_length (Nat.le_refl _), List.take_length]
  rfl
end
/-! the last cell -/
section
variable {st : Store} {ρ : FL.Env} {x : Val} {xs : List Val} {c d : Cell} {i : Int} {p : Nat}
theorem store_last : (st ++ [c])[st.length]? = some c := getElem?_end rfl
theorem store_put : (st ++ [c]).set st.length d = st ++ [d] := by
  rw [List.set_append_right _ _ (Nat.le_refl _), Nat.sub_self]
  rfl
theorem putAt_last (h : 0 ≤ i ∧ i < (xs.length : Int)) : putAt1 (st ++ [.lst xs]) st.length (.int i) x ρ = some (ρ, st ++ [.lst (xs.set i.toNat x)]) := by
  rw [putAt_lst store_last h.1 h.2, store_put]
theorem set_ints {l : List Int} {n : Nat} {k : Int} : (l.map Val.int).set n (.int k) = (l.set n k).map Val.int := List.map_set.symm
theorem getV_lst (h : st[p]? = some (.lst xs)) : lstAt st p = some xs := lstAt_of h
end
/-! in, rows of whole numbers -/
theorem flatFs_ints : ∀ ns : List Int, flatFs (ns.map Val.int) = some (ns.map V.int)
  | [] => rfl
  | n :: r => by
    rw [List.map_cons]
    unfold flatFs
    rw [flatFs_ints r]
    rfl
theorem inV_ints (x : Int) (ns : List Int) : inV (.int x) (ns.map V.int) = decide (x ∈ ns) := by
  unfold inV
  induction ns with
  | nil => rfl
  | cons n r ih =>
    rw [List.map_cons, List.any_cons, ih]
    by_cases e : n = x
    · subst e
      simp [eqV]
    · have e2 : ¬ x = n := fun z => e z.symm
      simp [eqV, e, e2]
section
variable {st : Store} {x : Int} {ns : List Int}
theorem in_ro : fIn false (.int x) (.ro (ns.map Val.int)) st = some (.bl (decide (x ∈ ns)), st) := by
  unfold fIn inF
  simp only [seq_ro, flatF, flatFs_ints, inV_ints, cond_false]
theorem in_tup : fIn false (.int x) (.tup (ns.map Val.int)) st = some (.bl (decide (x ∈ ns)), st) := by
  unfold fIn inF
  simp only [seq_tup, flatF, flatFs_ints, inV_ints, cond_false]
theorem nin_ro : fIn true (.int x) (.ro (ns.map Val.int)) st = some (.bl (!decide (x ∈ ns)), st) := by
  unfold fIn inF
  simp only [seq_ro, flatF, flatFs_ints, inV_ints, cond_true]
theorem nin_tup : fIn true (.int x) (.tup (ns.map Val.int)) st = some (.bl (!decide (x ∈ ns)), st) := by
  unfold fIn inF
  simp only [seq_tup, flatF, flatFs_ints, inV_ints, cond_true]
end
/-! two rows side by side -/
section
variable {st : Store} {xs ys : List Val}
theorem zpC_c (h : xs.length = ys.length) : zpC true (fun _ => some xs) (fun _ => some ys) = fun _ => some (List.zipWith prV xs ys) := by
  unfold zpC
  funext _
  dsimp only
  rw [show (xs.length == ys.length) = true by simp [h]]
  rfl
theorem zpC_f : zpC false (fun _ => some xs) (fun _ => some ys) = fun _ => some (List.zipWith prV xs ys) := nd rfl
theorem zip_ints (a b : List Int) : List.zipWith prV (a.map Val.int) (b.map Val.int) = (a.zip b).map fun p => Val.tup [.int p.1, .int p.2] := by
  induction a generalizing b with
  | nil => rfl
  | cons x a ih =>
    cases b with
    | nil => rfl
    | cons y b =>
      rw [List.map_cons, List.map_cons, List.zipWith_cons_cons, ih, List.zip_cons_cons, List.map_cons]
      rfl
end

theorem pow18 {st : Store} : fPow (.int 10) (.int 18) st = some (.int 1000000000000000000, st) := nd rfl
theorem pow50 {st : Store} : fPow (.int 10) (.int 50) st = some (.int 100000000000000000000000000000000000000000000000000, st) := nd rfl
theorem pow59 {st : Store} : fPow (.int 10) (.int 59) st = some (.int 100000000000000000000000000000000000000000000000000000000000, st) := nd rfl
end FL
/-! data as values: equality, repr -/
namespace FL
open PySem PyProof.Rows L2
mutual
def ofD : PyData → Val
  | .none => .non
  | .bool b => .bl b
  | .int i => .int i
  | .str x => .str x
  | .tuple ds => .tup (ofDs ds)
  | .list ds => .ro (ofDs ds)
  | .dict _ => .rd [] []
def ofDs : List PyData → List Val
  | [] => []
  | d :: ds => ofD d :: ofDs ds
end
mutual
theorem toDV_of {lk : Nat → Option PyData} : ∀ {d : PyData}, d.canLay0 = true → toDV lk (ofD d) = some d
  | .none, _ => rfl
  | .bool _, _ => rfl
  | .int _, _ => rfl
  | .str _, _ => rfl
  | .tuple ds, h => by
    unfold ofD toDV
    rw [toDVs_of (by simpa [PyData.canLay0] using h)]
  | .list ds, h => by
    unfold ofD toDV
    rw [toDVs_of (by simpa [PyData.canLay0] using h)]
  | .dict _, h => by simp [PyData.canLay0] at h
theorem toDVs_of {lk : Nat → Option PyData} : ∀ {ds : List PyData}, PyData.canLayAll0 ds = true → toDVs lk (ofDs ds) = some ds
  | [], _ => rfl
  | d :: ds, h => by
    have h' := Bool.and_eq_true_iff.mp (show (d.canLay0 && PyData.canLayAll0 ds) = true by simpa [PyData.canLayAll0] using h)
    unfold ofDs toDVs
    rw [toDV_of h'.1, toDVs_of h'.2]
end
theorem toD_of {st : Store} {d : PyData} (h : d.canLay0 = true) : toD st (ofD d) = some d := toDV_of h
/-- x is the data d -/
def IsD (x : Val) (d : PyData) : Prop := x = ofD d ∧ SeqAt.shaped d = true
theorem IsD.to {st : Store} {x : Val} {d : PyData} (h : IsD x d) : toD st x = some d := by rw [h.1]; exact toD_of (SeqAt.canLay_of_shaped h.2)
theorem eqF_data {st : Store} {x y : Val} {d e : PyData} (hx : IsD x d) (hy : IsD y e) : eqF st x y = some (PyData.eqv d e) := by
  have hs : (SeqAt.shaped d && SeqAt.shaped e) = true := by rw [hx.2, hy.2]; rfl
  unfold eqF
  split
  · next i j =>
    cases d <;> first | (have := hx.1; simp [ofD] at this; done) | skip
    cases e <;> first | (have := hy.1; simp [ofD] at this; done) | skip
    have h1 := hx.1; have h2 := hy.1
    simp [ofD] at h1 h2
    subst h1 h2
    simp [PyData.eqv]
    rfl
  · next i j =>
    cases d <;> first | (have := hx.1; simp [ofD] at this; done) | skip
    cases e <;> first | (have := hy.1; simp [ofD] at this; done) | skip
    have h1 := hx.1; have h2 := hy.1
    simp [ofD] at h1 h2
    subst h1 h2
    simp [PyData.eqv]
    rfl
  · rw [hx.to, hy.to]
    dsimp only
    rw [hs]
    rfl
theorem fEq_data {st : Store} {x y : Val} {d e : PyData} {b : Bool} (hx : IsD x d) (hy : IsD y e) : fEq b x y st = some (.bl (bif b then !PyData.eqv d e else PyData.eqv d e), st) := by
  unfold fEq
  rw [eqF_data hx hy]
theorem lay_ints : ∀ ns : List Int, PyData.canLayAll0 (ns.map PyData.int) = true
  | [] => rfl
  | n :: r => by
    rw [List.map_cons]
    simp [PyData.canLayAll0, PyData.canLay0, lay_ints r]
theorem dep_ints : ∀ ns : List Int, PyData.depthAll (ns.map PyData.int) = 0
  | [] => rfl
  | n :: r => by
    rw [List.map_cons]
    simp [PyData.depthAll, PyData.depth, dep_ints r]
theorem shaped_ints (ns : List Int) : SeqAt.shaped (.list (ns.map PyData.int)) = true := by
  simp [SeqAt.shaped, PyData.canLay0, PyData.depth, lay_ints, dep_ints]
theorem shaped_intsT (ns : List Int) : SeqAt.shaped (.tuple (ns.map PyData.int)) = true := by
  simp [SeqAt.shaped, PyData.canLay0, PyData.depth, lay_ints, dep_ints]
theorem ofDs_ints : ∀ ns : List Int, ofDs (ns.map PyData.int) = iL ns
  | [] => rfl
  | n :: r => by
    rw [List.map_cons]
    unfold ofDs
    rw [ofDs_ints r]
    rfl
theorem isD_tup (ns : List Int) : IsD (.tup (iL ns)) (.tuple (ns.map PyData.int)) := ⟨by unfold ofD; rw [ofDs_ints], shaped_intsT ns⟩
theorem isD_ro (ns : List Int) : IsD (.ro (iL ns)) (.list (ns.map PyData.int)) := ⟨by unfold ofD; rw [ofDs_ints], shaped_ints ns⟩
theorem isD_int (i : Int) : IsD (.int i) (.int i) := ⟨rfl, rfl⟩
theorem isD_bl (b : Bool) : IsD (.bl b) (.bool b) := ⟨rfl, rfl⟩
theorem isD_non : IsD .non .none := ⟨rfl, rfl⟩
theorem eqvAll_ints : ∀ a b : List Int, PyData.eqvAll (a.map PyData.int) (b.map PyData.int) = decide (a = b)
  | [], [] => by simp [PyData.eqvAll]
  | [], _ :: _ => by simp [PyData.eqvAll]
  | _ :: _, [] => by simp [PyData.eqvAll]
  | x :: a, y :: b => by
    rw [List.map_cons, List.map_cons]
    simp only [PyData.eqvAll, PyData.eqv, eqvAll_ints a b]
    by_cases h1 : x = y <;> by_cases h2 : a = b <;> simp [h1, h2]
section
variable {st : Store} {a c : List Int} {i : Int}
theorem eq_tup : fEq false (.tup (a.map Val.int)) (.tup (c.map Val.int)) st = some (.bl (decide (a = c)), st) := by
  rw [fEq_data (isD_tup a) (isD_tup c)]
  simp [PyData.eqv, eqvAll_ints]
theorem ne_tup : fEq true (.tup (a.map Val.int)) (.tup (c.map Val.int)) st = some (.bl (!decide (a = c)), st) := by
  rw [fEq_data (isD_tup a) (isD_tup c)]
  simp [PyData.eqv, eqvAll_ints]
theorem eq_ro : fEq false (.ro (a.map Val.int)) (.ro (c.map Val.int)) st = some (.bl (decide (a = c)), st) := by
  rw [fEq_data (isD_ro a) (isD_ro c)]
  simp [PyData.eqv, eqvAll_ints]
theorem ne_ro : fEq true (.ro (a.map Val.int)) (.ro (c.map Val.int)) st = some (.bl (!decide (a = c)), st) := by
  rw [fEq_data (isD_ro a) (isD_ro c)]
  simp [PyData.eqv, eqvAll_ints]
theorem eq_ro0 : fEq false (.ro (a.map Val.int)) (.ro []) st = some (.bl (decide (a = [])), st) := eq_ro (c := [])
theorem ne_ro0 : fEq true (.ro (a.map Val.int)) (.ro []) st = some (.bl (!decide (a = [])), st) := ne_ro (c := [])
end
/-! repr -/
theorem showable_ints {ns : List Int} (h : ∀ n ∈ ns, -(10 ^ 12) < n ∧ n < 10 ^ 12) : PyData.showableAll (ns.map PyData.int) = true := PyData.showableAll_ints ns fun n hn => by
  have := h n hn
  have h2 : n.natAbs < 2 ^ 60 := by omega
  exact Nat.lt_of_lt_of_le (PySem.Flt.log2_lt_of (by decide) h2) (by decide)
theorem leaves_ints : ∀ {ns : List Int}, (∀ n ∈ ns, -(10 ^ 12) < n ∧ n < 10 ^ 12) → PyData.leavesShortAll 13 (ns.map PyData.int) = true
  | [], _ => by simp [PyData.leavesShortAll]
  | n :: r, h => by
    have hn := h n (List.mem_cons_self ..)
    have := PyData.shown_int_le (i := n) (by omega)
    rw [List.map_cons]
    have h14 : (PyData.shown (.int n)).length ≤ 13 := by omega
    simp [PyData.leavesShortAll, PyData.leavesShort, h14, leaves_ints fun m hm => h m (List.mem_cons_of_mem _ hm)]
theorem weight_ints : ∀ {ns : List Int}, (∀ n ∈ ns, -(10 ^ 12) < n ∧ n < 10 ^ 12) → PyData.weightAll (ns.map PyData.int) ≤ 50 * ns.length
  | [], _ => by simp [PyData.weightAll]
  | n :: r, h => by
    rw [List.map_cons]
    have ih := weight_ints (ns := r) fun m hm => h m (List.mem_cons_of_mem _ hm)
    have hn := h n (List.mem_cons_self ..)
    have hl : n.natAbs.log2 < 41 := by
      have : n.natAbs < 2 ^ 41 := by omega
      exact PySem.Flt.log2_lt_of (by decide) this
    simp only [PyData.weightAll, PyData.weight, List.length_cons]
    split <;> omega
theorem nd_ints (ns : List Int) : PyData.hasDictAll (ns.map PyData.int) = false := by
  induction ns with
  | nil => simp only [List.map_nil, PyData.hasDictAll]
  | cons n r ih => simp only [List.map_cons, PyData.hasDictAll, PyData.hasDict, ih, Bool.or_false]
theorem repOk_intsT {ns : List Int} (h : ∀ n ∈ ns, -(10 ^ 12) < n ∧ n < 10 ^ 12) (hl : ns.length ≤ 10000) : repOk (.tuple (ns.map PyData.int)) = true := by
  have hw := weight_ints h
  have h1 : PyData.showable (.tuple (ns.map PyData.int)) = true := by simp [PyData.showable, showable_ints h]
  have h2 : (PyData.tuple (ns.map PyData.int)).depth ≤ 100 := by simp [PyData.depth, dep_ints]
  have h3 : (PyData.shown (.tuple (ns.map PyData.int))).length ≤ sizeLine := PyData.shown_fits (B := 13) (by decide) (by decide) (by simp [PyData.leavesShort, leaves_ints h]) (by simp only [PyData.weight]; omega)
  have h4 : (PyData.tuple (ns.map PyData.int)).hasDict = false := by simp only [PyData.hasDict]; exact nd_ints ns
  unfold repOk
  rw [h1, decide_eq_true h2, decide_eq_true h3, h4]
  rfl
theorem repOk_ints {ns : List Int} (h : ∀ n ∈ ns, -(10 ^ 12) < n ∧ n < 10 ^ 12) (hl : ns.length ≤ 10000) : repOk (.list (ns.map PyData.int)) = true := by
  have hw := weight_ints h
  have h1 : PyData.showable (.list (ns.map PyData.int)) = true := by simp [PyData.showable, showable_ints h]
  have h2 : (PyData.list (ns.map PyData.int)).depth ≤ 100 := by simp [PyData.depth, dep_ints]
  have h3 : (PyData.shown (.list (ns.map PyData.int))).length ≤ sizeLine := PyData.shown_fits (B := 13) (by decide) (by decide) (by simp [PyData.leavesShort, leaves_ints h]) (by simp only [PyData.weight]; omega)
  have h4 : (PyData.list (ns.map PyData.int)).hasDict = false := by simp only [PyData.hasDict]; exact nd_ints ns
  unfold repOk
  rw [h1, decide_eq_true h2, decide_eq_true h3, h4]
  rfl
/-- repr of data that is shown -/
theorem repr_data {st : Store} {d : PyData} (hd : d.canLay0 = true) (hs : (∃ ds, d = .tuple ds) ∨ ∃ ds, d = .list ds) (hr : repOk d = true) : fRepr [ofD d] st = some (.str (PyData.shown d), st) := by
  rcases hs with ⟨ds, rfl⟩ | ⟨ds, rfl⟩
  · have e := toD_of (st := st) hd
    unfold fRepr
    simp only [ofD] at e ⊢
    rw [e]
    dsimp only
    rw [hr]
    rfl
  · have e := toD_of (st := st) hd
    unfold fRepr
    simp only [ofD] at e ⊢
    rw [e]
    dsimp only
    rw [hr]
    rfl
theorem repr_int {st : Store} {i : Int} (h : -1152921504606846976 < i ∧ i < 1152921504606846976) : fRepr [.int i] st = some (.str (toString i), st) := by
  have h2 : i.natAbs < 2 ^ 60 := by omega
  have h3 : i.natAbs.log2 < 1920 := Nat.lt_of_lt_of_le (PySem.Flt.log2_lt_of (by decide) h2) (by decide)
  unfold fRepr
  dsimp only
  rw [decide_eq_true h3]
  rfl

section
variable {st : Store} {a b : Bool}
theorem eq_bl : fEq false (.bl a) (.bl b) st = some (.bl (decide (a = b)), st) := by
  rw [fEq_data (isD_bl a) (isD_bl b)]
  cases a <;> cases b <;> rfl
theorem ne_bl : fEq true (.bl a) (.bl b) st = some (.bl (!decide (a = b)), st) := by
  rw [fEq_data (isD_bl a) (isD_bl b)]
  cases a <;> cases b <;> rfl
theorem dec_bb {x : Bool} : decide (x = x) = true := by simp
theorem dec_tf : decide (true = false) = false := rfl
theorem dec_ft : decide (false = true) = false := rfl
end
end FL
/-! exceptions, step by step -/
namespace FL
open PySem PyProof.Rows L2
section
variable {ρ : FL.Env} {st : Store} {x y : Val} {n f c : Str} {i : Nat} {oi : Option Nat} {u : FS} {tb : ClsT} {hs : List (Str × Option Nat × FS)} {e : XV} {te : FE}
theorem hnd_nil : hnd tb e ρ st [] = .ex e ρ st := nd rfl
def hndR (tb : ClsT) (o : Option Bool) (e : XV) (ρ : FL.Env) (st : Store) (oi : Option Nat) (u : FS) (hs : List (Str × Option Nat × FS)) : S := match o with
  | some true => (u (putAt oi ρ (xvV e)) st).unname oi
  | some false => hnd tb e ρ st hs
  | none => .bad
theorem hnd_cons : hnd tb e ρ st ((c, oi, u) :: hs) = hndR tb (tb e.1 c) e ρ st oi u hs := by
  unfold hndR
  rw [hnd]
  all_goals rfl
theorem hndR_t : hndR tb (some true) e ρ st oi u hs = (u (putAt oi ρ (xvV e)) st).unname oi := nd rfl
theorem hndR_f : hndR tb (some false) e ρ st oi u hs = hnd tb e ρ st hs := nd rfl
theorem unname_nx : (S.nx ρ st).unname (some i) = .nx (ρ.set i none) st := nd rfl
theorem unname_rt : (S.rt x st).unname (some i) = .rt x st := nd rfl
theorem unname_nx0 : (S.nx ρ st).unname none = .nx ρ st := nd rfl
theorem unname_rt0 : (S.rt x st).unname none = .rt x st := nd rfl
theorem putAt_some : putAt (some i) ρ x = ρ.set i (some x) := nd rfl
theorem putAt_none : putAt none ρ x = ρ := nd rfl
theorem xvV_1 : xvV (n, some (f, x)) = .ex1 n f x := nd rfl
theorem xvV_0 : xvV (n, none) = .ex0 n := nd rfl
def kXf (cs : List Str) (f : Str) : Val → Store → R Val := fun x s => match x with
  | .ex1 n g y => bif cs.contains n && decide (g = f) then .ok y s else .bad
  | _ => .bad
theorem eMk0_eq {n : Str} : eMk0 n ρ st = .ok (.ex0 n) st := nd rfl
theorem eXf_eq {cs : List Str} : eXf cs f te ρ st = (te ρ st).bind (kXf cs f) := nd rfl
theorem kXf_eq {cs : List Str} (h : cs.contains n = true) : kXf cs f (.ex1 n f x) st = .ok x st := by
  unfold kXf
  dsimp only
  rw [h, decide_eq_true rfl]
  rfl
theorem isN_ty {t : String} : isN (.ty t) = false := nd rfl
theorem isN_gl {t : Str} : isN (.gl t) = false := nd rfl
theorem set_same {c : Cell} {p : Nat} (h : st[p]? = some c) : st.set p c = st := by
  apply List.ext_getElem?
  intro j
  by_cases e : p = j
  · subst e
    rw [List.getElem?_set_self (List.getElem?_eq_some_iff.mp h).1, h]
  · rw [List.getElem?_set_ne e]
end
theorem eDictZ_eq {ρ : FL.Env} {st : Store} : eDictZ ρ st = .ok (.rd [] []) st := nd rfl
theorem eDict0_eq {ρ : FL.Env} {st : Store} : eDict0 ρ st = .ok (.ref st.length) (st ++ [.dic []]) := nd rfl
def catR (b : Bool) (o p : Option (List Val)) (st : Store) : Option (Val × Store) := match o, p with
  | some xs, some ys => bif Nat.ble (xs.length + ys.length) sizeLine then some (newL b (xs ++ ys) st) else none
  | _, _ => none
theorem catR_eq {xs ys : List Val} {b : Bool} {st : Store} (h : xs.length + ys.length ≤ 10000) : catR b (some xs) (some ys) st = some (newL b (xs ++ ys) st) := by
  show (bif Nat.ble (xs.length + ys.length) sizeLine then _ else _) = _
  rw [Nat.ble_eq_true_of_le (Nat.le_trans h (by decide))]
  rfl
theorem fAdd_rr {n : Nat} {ys : List Val} {b : Bool} {st : Store} : fAdd b (.ref n) (.ro ys) st = catR b (match st[n]? with | some (.lst xs) => some xs | _ => none) (some ys) st := nd rfl
theorem fAdd_rr2 {n : Nat} {ys : List Val} {b : Bool} {st : Store} : fAdd b (.ro ys) (.ref n) st = catR b (some ys) (match st[n]? with | some (.lst xs) => some xs | _ => none) st := nd rfl
theorem fAdd_rr3 {n m : Nat} {b : Bool} {st : Store} : fAdd b (.ref n) (.ref m) st = catR b (match st[n]? with | some (.lst xs) => some xs | _ => none) (match st[m]? with | some (.lst xs) => some xs | _ => none) st := nd rfl
end FL
/-! repr of single things, of tuples with empty dicts in them -/
namespace FL
open PySem PySem.Spec PyProof.Rows L2
mutual
/-- data in a heap, of lists, tuples and empty dicts -/
inductive Zr (h : Heap) : Value → PyData → Prop
  | non : Zr h .none .none
  | bl (b : Bool) : Zr h (.bool b) (.bool b)
  | int (i : Int) (t : Tok) : Zr h (.int i t) (.int i)
  | str (x : Str) (t : Tok) : Zr h (.str x t) (.str x)
  | lst {a : Addr} {o : Obj} {vs : Array Value} {n : Nat} {ds : List PyData} : h.get? a = some o → o.cls = .type "list" → o.data = .seq vs n → ZrAll h vs.toList ds → Zr h (.ref a) (.list ds)
  | tup {a : Addr} {o : Obj} {vs : Array Value} {n : Nat} {ds : List PyData} : h.get? a = some o → o.cls = .type "tuple" → o.data = .seq vs n → ZrAll h vs.toList ds → Zr h (.ref a) (.tuple ds)
  | emp {a : Addr} {o : Obj} {es : Array DictEntry} {n : Nat} : a ≠ sysModules → h.get? a = some o → o.cls = .type "dict" → o.data = .dict es n → es.toList = [] → Zr h (.ref a) (.dict [])
inductive ZrAll (h : Heap) : List Value → List PyData → Prop
  | nil : ZrAll h [] []
  | cons {v : Value} {vs : List Value} {d : PyData} {ds : List PyData} : Zr h v d → ZrAll h vs ds → ZrAll h (v :: vs) (d :: ds)
end
section
variable {h : Heap}
mutual
theorem Zr.reads : ∀ {v : Value} {d : PyData}, Zr h v d → ∃ as, Reads h v d as
  | _, _, .non => ⟨[], .none⟩
  | _, _, .bl b => ⟨[], .bool b⟩
  | _, _, .int i t => ⟨[], .int i t⟩
  | _, _, .str x t => ⟨[], .str x t⟩
  | _, _, .lst h1 h2 h3 h4 => let ⟨_, r⟩ := ZrAll.reads h4; ⟨_, .list h1 h2 h3 r⟩
  | _, _, .tup h1 h2 h3 h4 => let ⟨_, r⟩ := ZrAll.reads h4; ⟨_, .tuple h1 h2 h3 r⟩
  | _, _, .emp _ h1 h2 h3 h4 => ⟨_, Reads.dict (as := []) (bs := []) h1 h2 h3 (by rw [h4]; exact .nil) (by rw [h4]; exact .nil)⟩
theorem ZrAll.reads : ∀ {vs : List Value} {ds : List PyData}, ZrAll h vs ds → ∃ as, ReadsAll h vs ds as
  | _, _, .nil => ⟨[], .nil⟩
  | _, _, .cons a b => let ⟨_, r⟩ := Zr.reads a; let ⟨_, q⟩ := ZrAll.reads b; ⟨_, .cons r q⟩
end
variable {prog : Program} {w : World}
theorem zr_none {n : Nat} : ReadAtMost h n [] := fun _ z => nomatch z
mutual
theorem Zr.shows : ∀ {v : Value} {d : PyData}, Zr h v d → d.showable = true → d.shown.length ≤ sizeLine → ∃ bs, ReadAtMost h d.depth bs ∧ ReprK prog w bs h d.depth v d.shown
  | _, _, .non, _, _ => ⟨[], zr_none, by simp only [PyData.shown]; exact .of_is ReprIs.none _ _ _⟩
  | _, _, .bl b, _, _ => ⟨[], zr_none, by simp only [PyData.shown]; exact .of_is (ReprIs.bool b) _ _ _⟩
  | _, _, .int i t, hs, _ => ⟨[], zr_none, by simp only [PyData.shown]; exact .of_is (ReprIs.int t (by simpa [PyData.showable] using hs)) _ _ _⟩
  | _, _, .str x t, _, hz => ⟨[], zr_none, by simp only [PyData.shown]; exact .of_is (ReprIs.str x t (by simpa only [PyData.shown] using hz)) _ _ _⟩
  | _, _, .lst (a := a) (vs := vs) (ds := ds) h1 h2 h3 h4, hs, hz => by
    have hz2 : (listText (PyData.shownAll ds)).length ≤ sizeLine := by simpa only [PyData.shown] using hz
    obtain ⟨bs, hb, hk⟩ := ZrAll.shows h4 (by simpa [PyData.showable] using hs) (fun t ht => Nat.le_trans (listText_mem_le ht) hz2)
    obtain ⟨as, rr⟩ := ZrAll.reads h4
    have hr : Reads h (.ref a) (.list ds) (a :: as) := .list h1 h2 h3 rr
    have hn : a ∉ bs := not_mem_of_deeper hr (by simp only [PyData.depth]; omega) hb
    refine ⟨a :: bs, ReadAtMost.cons hr (by simp only [PyData.depth]; omega) hb, ?_⟩
    simp only [PyData.depth, PyData.shown]
    obtain ⟨l⟩ := vs
    cases l with
    | nil =>
      have q : ZrAll h [] ds := h4
      cases q
      rw [show listText (PyData.shownAll []) = "[]" from listText_nil]
      exact ReprK.listEmpty h1 h2 h3
    | cons y l => exact ReprK.list h1 h2 h3 hn (by simpa using hk.length_eq) fun i y e => hk.item i y (by simpa using e)
  | _, _, .tup (a := a) (ds := ds) h1 h2 h3 h4, hs, hz => by
    have hz2 : (tupleText (PyData.shownAll ds)).length ≤ sizeLine := by simpa only [PyData.shown] using hz
    obtain ⟨bs, hb, hk⟩ := ZrAll.shows h4 (by simpa [PyData.showable] using hs) (fun t ht => Nat.le_trans (tupleText_mem_le ht) hz2)
    obtain ⟨as, rr⟩ := ZrAll.reads h4
    have hr : Reads h (.ref a) (.tuple ds) as := .tuple h1 h2 h3 rr
    have hn : a ∉ bs := not_mem_of_deeper hr (by simp only [PyData.depth]; omega) hb
    exact ⟨a :: bs, ReadAtMost.cons hr (by simp only [PyData.depth]; omega) hb, by simp only [PyData.depth, PyData.shown]; exact ReprK.tuple h1 h2 h3 hn hk⟩
  | _, _, .emp (a := a) (es := es) hne h1 h2 h3 h4, _, _ => by
    have hr : Reads h (.ref a) (.dict []) _ := Reads.dict (as := []) (bs := []) h1 h2 h3 (by rw [h4]; exact .nil) (by rw [h4]; exact .nil)
    refine ⟨[a], ReadAtMost.cons (bs := []) (n := 0) hr (Nat.zero_le _) zr_none, ?_⟩
    have q : ReprEntriesK prog w [] h 0 es.toList [] := by
      rw [h4]
      exact .nil
    simp only [PyData.depth, PyData.depthKv, PyData.shown, PyData.shownKv]
    exact ReprK.dict h1 h2 h3 (beq_eq_false_iff_ne.mpr hne) (fun z => nomatch z) q
theorem ZrAll.shows : ∀ {vs : List Value} {ds : List PyData}, ZrAll h vs ds → PyData.showableAll ds = true → (∀ t ∈ PyData.shownAll ds, t.length ≤ sizeLine) → ∃ bs, ReadAtMost h (PyData.depthAll ds) bs ∧ ReprAllK prog w bs h (PyData.depthAll ds) vs (PyData.shownAll ds)
  | _, _, .nil, _, _ => ⟨[], zr_none, by simp only [PyData.shownAll]; exact .nil⟩
  | _, _, .cons (d := d) (ds := ds) r rs, hs, hz => by
    have h2 : d.showable = true ∧ PyData.showableAll ds = true := by simpa [PyData.showableAll] using hs
    obtain ⟨b1, m1, k1⟩ := Zr.shows r h2.1 (hz _ (by simp only [PyData.shownAll]; exact List.mem_cons_self))
    obtain ⟨b2, m2, k2⟩ := ZrAll.shows rs h2.2 fun t ht => hz t (by simp only [PyData.shownAll]; exact List.mem_cons_of_mem _ ht)
    refine ⟨b1 ++ b2, ?_, ?_⟩
    · simp only [PyData.depthAll]
      exact (m1.mono (Nat.le_max_left _ _)).append (m2.mono (Nat.le_max_right _ _))
    · simp only [PyData.depthAll, PyData.shownAll]
      exact .cons ((k1.more fun b z => List.mem_append_left _ z).level_le (Nat.le_max_left _ _)) (k2.more_le (fun b z => List.mem_append_right _ z) (Nat.le_max_right _ _))
end
/-- repr of such -/
theorem zr_repr {A : Around} {E : Value → Shared → Prop} {s : Shared} {Q : Value → Shared → Prop} {a : Addr} {d : PyData} (r : Zr s.heap (.ref a) d) (hs : d.showable = true) (hg : A.guards = some []) (hu : A.units + (d.depth + 1) < cLine) (hz : d.shown.length ≤ sizeLine)
    (hQ : ∀ h' u tk, (∀ b o, s.heap.get? b = some o → h'.get? b = some o) → Q (.str d.shown u) { s with heap := h', toks := tk }) : wpAny (model prog w) A (call (.builtin "repr") [.ref a]) Q E s := by
  have hg1 : A.in1.guards = some [] := hg
  cases r with
  | @lst _ o vs n ds h1 h2 h3 h4 =>
    have hz2 : (listText (PyData.shownAll ds)).length ≤ sizeLine := by simpa only [PyData.shown] using hz
    obtain ⟨bs, hb, hk⟩ := ZrAll.shows (prog := prog) (w := w) h4 (by simpa [PyData.showable] using hs) (fun t ht => Nat.le_trans (listText_mem_le ht) hz2)
    obtain ⟨as, rr⟩ := ZrAll.reads h4
    have hr : Reads s.heap (.ref a) (.list ds) (a :: as) := .list h1 h2 h3 rr
    have hn : a ∉ bs := not_mem_of_deeper hr (by simp only [PyData.depth]; omega) hb
    simp only [PyData.depth] at hu
    simp only [PyData.shown] at hQ
    refine call_repr_slot (by omega) ⟨o, h1, h2⟩ F.slot_list_repr.toG ?_
    obtain ⟨l⟩ := vs
    cases l with
    | nil =>
      have q : ZrAll s.heap [] ds := h4
      cases q
      have e0 := hQ s.heap (s.toks) (s.toks + 1) fun _ _ e => e
      rw [show listText (PyData.shownAll []) = "[]" from listText_nil] at e0
      exact call_list_repr_empty ⟨o, h1, h2⟩ h1 h3 ⟨_, _, rfl, e0⟩
    | cons y l => exact call_list_reprK h1 h2 h3 hn (by simpa using hk.length_eq) (fun i y e => hk.item i y (by simpa using e)) hg1 (fun b _ => Clear.nil b) (by show A.units + 1 + _ < cLine; omega) (fun _ _ e => e) (fun h' u tk hk => ⟨_, _, rfl, hQ h' u tk hk⟩) hz2
  | @tup _ o vs n ds h1 h2 h3 h4 =>
    have hz2 : (tupleText (PyData.shownAll ds)).length ≤ sizeLine := by simpa only [PyData.shown] using hz
    obtain ⟨bs, hb, hk⟩ := ZrAll.shows (prog := prog) (w := w) h4 (by simpa [PyData.showable] using hs) (fun t ht => Nat.le_trans (tupleText_mem_le ht) hz2)
    obtain ⟨as, rr⟩ := ZrAll.reads h4
    have hr : Reads s.heap (.ref a) (.tuple ds) as := .tuple h1 h2 h3 rr
    have hn : a ∉ bs := not_mem_of_deeper hr (by simp only [PyData.depth]; omega) hb
    simp only [PyData.depth] at hu
    simp only [PyData.shown] at hQ
    refine call_repr_slot (by omega) ⟨o, h1, h2⟩ F.slot_tuple_repr ?_
    exact call_tuple_reprK h1 h2 h3 hn hk hg1 (fun b _ => Clear.nil b) (by show A.units + 1 + _ < cLine; omega) (fun _ _ e => e) (fun h' u tk hk => ⟨_, _, rfl, hQ h' u tk hk⟩) hz2
  | @emp _ o es n hne h1 h2 h3 h4 =>
    exact repr_of_reads' (as := [a]) (h₀ := s.heap) (Reads.dict (as := []) (bs := []) h1 h2 h3 (by rw [h4]; exact .nil) (by rw [h4]; exact .nil)) hs (fun _ z => hne (List.mem_singleton.mp z).symm) hg hu (fun _ _ e => e) hQ hz
end
mutual
inductive Dy (K : PySem.W.Frag) (H : Hp) : V → PyData → Prop
  | non : Dy K H .non .none
  | bl (b : Bool) : Dy K H (.bl b) (.bool b)
  | int (i : Int) : Dy K H (.int i) (.int i)
  | str (x : Str) : Dy K H (.str x) (.str x)
  | tup {a : Addr} {xs : List V} {ds : List PyData} : SqT K H a xs → DyAll K H xs ds → Dy K H (.ref a) (.tuple ds)
  | lst {a : Addr} {xs : List V} {ds : List PyData} : SqL K H a xs → DyAll K H xs ds → Dy K H (.ref a) (.list ds)
  | emp {a : Addr} : H a = some (.dK []) → Dy K H (.ref a) (.dict [])
inductive DyAll (K : PySem.W.Frag) (H : Hp) : List V → List PyData → Prop
  | nil : DyAll K H [] []
  | cons {v : V} {vs : List V} {d : PyData} {ds : List PyData} : Dy K H v d → DyAll K H vs ds → DyAll K H (v :: vs) (d :: ds)
end
section
variable {X : Cx} {pins : List (Addr × Obj)} {σ : L2.St} {H : Hp} {s : Shared}
mutual
theorem Dy.zr (I : Inv X pins σ H s) : ∀ (d : PyData) (v : V) (u : Value), Dy X.K H v d → RelV v u → Zr s.heap u d
  | _, _, _, .non, r => by
    cases r
    exact .non
  | _, _, _, .bl b, r => by
    cases r
    exact .bl b
  | _, _, _, .int i, r => by
    obtain ⟨t, rfl⟩ := r
    exact .int i t
  | _, _, _, .str x, r => by
    obtain ⟨t, rfl⟩ := r
    exact .str x t
  | _, _, _, .tup hs ha, r => by
    cases r
    obtain ⟨its, rv, ⟨o, ho, hc, m, hd'⟩, hz⟩ := I.tuple hs
    exact .tup ho hc hd' (DyAll.zr I _ _ its ha rv)
  | _, _, _, .lst hs ha, r => by
    cases r
    obtain ⟨its, rv, ⟨o, m, ho, hc, _, hd'⟩, hz⟩ := I.list hs
    exact .lst ho hc hd' (DyAll.zr I _ _ its ha rv)
  | _, _, _, .emp (a := a) h, r => by
    cases r
    have hx : ObjOk X.prog X.w H s.heap a (.dK []) := I.hok a _ h
    obtain ⟨_, hne, vs, kv, o, es, ep, ho, ex, hd, _, pr, _⟩ := hx
    cases kv
    have he : es.toList = [] := by
      cases e : es.toList with
      | nil => rfl
      | cons x l =>
        rw [e] at pr
        cases pr
    exact .emp (by simpa using hne) ho ex.1 hd he
theorem DyAll.zr (I : Inv X pins σ H s) : ∀ (ds : List PyData) (vs : List V) (us : List Value), DyAll X.K H vs ds → Vals vs us → ZrAll s.heap us ds
  | _, _, _, .nil, r => by
    cases r
    exact .nil
  | _, _, _, .cons h1 h2, r => by
    cases r with
    | cons r1 r2 => exact .cons (Dy.zr I _ _ _ h1 r1) (DyAll.zr I _ _ _ h2 r2)
end
end
def rReprX (K : PySem.W.Frag) : List V → Hp → VK → Prop := fun xs H Q => (xs = [.non] ∧ Q (.str "None") H) ∨ (∃ b, xs = [.bl b] ∧ Q (.str (if b then "True" else "False")) H) ∨ (∃ z, xs = [.str z] ∧ (reprText z).length ≤ sizeLine ∧ Q (.str (reprText z)) H) ∨
  ∃ a d, xs = [.ref a] ∧ Dy K H (.ref a) d ∧ d.showable = true ∧ d.depth ≤ 100 ∧ d.shown.length ≤ sizeLine ∧ Q (.str d.shown) H
theorem call_reprX {X : Cx} (hg : X.A.guards = some []) (hu : X.A.units + 180 < cLine) : CallR X (.builtin "repr") (rReprX X.K) := by
  intro pins s σ H xs us Q I r h
  rcases h with ⟨rfl, q⟩ | ⟨b, rfl, q⟩ | ⟨z, rfl, hz, q⟩ | ⟨a, d, rfl, hd, h1, h3, h4, q⟩
  · obtain ⟨u, rfl, rx⟩ := vals1 r
    cases rx
    exact PySem.P.repr_of_none ⟨.str _, H, I.tok _, ⟨_, rfl⟩, q⟩
  · obtain ⟨u, rfl, rx⟩ := vals1 r
    cases rx
    exact PySem.P.repr_of_bool ⟨.str _, H, I.tok _, ⟨_, rfl⟩, q⟩
  · obtain ⟨u, rfl, t, rfl⟩ := vals1 r
    exact PySem.P.repr_of_str ⟨.str _, H, I.tok _, ⟨_, rfl⟩, q⟩ hz
  · obtain ⟨u, rfl, rx⟩ := vals1 r
    have rd := Dy.zr I d _ u hd rx
    obtain rfl : u = Value.ref a := rx
    refine zr_repr rd h1 hg (by omega) h4 (fun h' u tk hk => ?_)
    exact ⟨.str d.shown, H, I.kept (t' := tk) hk, ⟨u, rfl⟩, q⟩
mutual
def toY : Val → Option PyData
  | .non => some .none
  | .bl b => some (.bool b)
  | .int i => some (.int i)
  | .str x => some (.str x)
  | .tup xs => (match toYs xs with
    | some ds => some (.tuple ds)
    | none => none)
  | .ro xs => (match toYs xs with
    | some ds => some (.list ds)
    | none => none)
  | .rd [] [] => some (.dict [])
  | _ => none
def toYs : List Val → Option (List PyData)
  | [] => some []
  | x :: xs => (match toY x, toYs xs with
    | some d, some ds => some (d :: ds)
    | _, _ => none)
end
section
variable {K : KZ} {fr : Addr → Prop} {H : Hp} {ms : List Addr}
mutual
theorem toY_at : ∀ {x : Val} {v : V} {d : PyData}, toY x = some d → VR K fr H ms v x → Dy K H v d
  | .non, _, _, h, r => by unfold toY at h; cases h; cases r; exact .non
  | .bl b, _, _, h, r => by unfold toY at h; cases h; cases r; exact .bl b
  | .int i, _, _, h, r => by unfold toY at h; cases h; cases r; exact .int i
  | .str i, _, _, h, r => by unfold toY at h; cases h; cases r; exact .str i
  | .tup xs, _, _, h, r => by
    unfold toY at h
    split at h
    · next ds hd =>
      cases h
      cases r with
      | tup h1 h2 => exact .tup h1 (toYs_at hd h2)
    · cases h
  | .ro xs, _, _, h, r => by
    unfold toY at h
    split at h
    · next ds hd =>
      cases h
      cases r with
      | ro h1 f h2 => exact .lst (.inl (.inl h1)) (toYs_at hd h2)
    · cases h
  | .rd [] [], _, _, h, r => by
    unfold toY at h
    cases h
    cases r with
    | @rd _ _ ws _ h1 h2 h3 h4 =>
      cases ws with
      | nil => exact .emp h1
      | cons _ _ => cases h2
  | .rd (_ :: _) _, _, _, h, r => by simp [toY] at h
  | .rd [] (_ :: _), _, _, h, r => by simp [toY] at h
  | .wr _, _, _, h, r => by simp [toY] at h
  | .ref p, _, _, h, r => by simp [toY] at h
  | .ty _, _, _, h, r => by simp [toY] at h
  | .gl _, _, _, h, r => by simp [toY] at h
  | .ex0 _, _, _, h, r => by simp [toY] at h
  | .ex1 _ _ _, _, _, h, r => by simp [toY] at h
  | .fn _ _, _, _, h, r => by simp [toY] at h
theorem toYs_at : ∀ {x : List Val} {v : List V} {d : List PyData}, toYs x = some d → VRs K fr H ms v x → DyAll K H v d
  | [], _, _, h, r => by unfold toYs at h; cases h; cases r; exact .nil
  | x :: xs, _, _, h, r => by
    unfold toYs at h
    split at h
    · next d ds h1 h2 =>
      cases h
      cases r with
      | cons a b => exact .cons (toY_at h1 a) (toYs_at h2 b)
    · cases h
end
end
def repOkX (d : PyData) : Bool := PyData.showable d && decide (d.depth ≤ 100) && decide ((PyData.shown d).length ≤ sizeLine)
def fReprX : FL1 := fun xs st => match xs with
  | [.int _] => none
  | [.non] => some (.str "None", st)
  | [.bl b] => some (.str (if b then "True" else "False"), st)
  | [.str z] => bif decide ((reprText z).length ≤ sizeLine) then some (.str (reprText z), st) else none
  | [x] => (match toY x with
    | some d => bif repOkX d then some (.str (PyData.shown d), st) else none
    | none => none)
  | _ => none
theorem rl_reprX {K : KZ} : RLF K (rReprX K) fReprX := fun γ fr H ms st xs sxs z st' Q s rx h q => by
  unfold fReprX at h
  split at h
  · cases h
  · cases h
    obtain ⟨v, rfl, r⟩ := vrs1 rx
    exact .inl ⟨by rw [vr_non r], q.now s (.str _)⟩
  · cases h
    obtain ⟨v, rfl, r⟩ := vrs1 rx
    exact .inr (.inl ⟨_, by rw [vr_bl r], q.now s (.str _)⟩)
  · obtain ⟨hb, h⟩ := cond_some h
    cases h
    obtain ⟨v, rfl, r⟩ := vrs1 rx
    exact .inr (.inr (.inl ⟨_, by rw [vr_str r], of_decide_eq_true hb, q.now s (.str _)⟩))
  · next x n4 n1 n2 n3 =>
    obtain ⟨v, rfl, r⟩ := vrs1 rx
    split at h
    · next d hd =>
      obtain ⟨hb, h⟩ := cond_some h
      cases h
      unfold repOkX at hb
      simp only [Bool.and_eq_true, decide_eq_true_eq] at hb
      by_cases ha : ∃ a, v = .ref a
      · obtain ⟨a, rfl⟩ := ha
        exact .inr (.inr (.inr ⟨a, d, rfl, toY_at (K := K.gm γ) hd r, hb.1.1, hb.1.2, hb.2, q.now s (.str _)⟩))
      · cases r with
        | non => exact absurd rfl n1
        | bl b => exact absurd rfl (n2 b)
        | str b => exact absurd rfl (n3 b)
        | int i => exact absurd rfl (n4 i)
        | ty n => simp [toY] at hd
        | _ => exact absurd ⟨_, rfl⟩ ha
    · cases h
  · cases h

/-- repr, of whatever is covered -/
def fReprU : FL1 := fun xs st => match fRepr xs st with
  | some r => some r
  | none => fReprX xs st
theorem call_reprV {X : Cx} (hg : X.A.guards = some []) (hu : X.A.units + 180 < cLine) : CallR X (.builtin "repr") (fun xs H Q => rRepr X.K xs H Q ∨ rReprX X.K xs H Q) := (call_reprU hg hu).or (call_reprX hg hu)
theorem rl_reprU {K : KZ} : RLF K (fun xs H Q => rRepr K xs H Q ∨ rReprX K xs H Q) fReprU := fun γ fr H ms st xs sxs z st' Q s rx h q => by
  unfold fReprU at h
  split at h
  · next r hr =>
    cases h
    exact .inl (rl_repr γ fr H ms st xs sxs z st' Q s rx hr q)
  · exact .inr (rl_reprX γ fr H ms st xs sxs z st' Q s rx h q)
section
variable {st : Store} {xs : List Val} {i : Int} {b : Bool} {z : Str} {d : PyData}
theorem reprU_of {r : Val × Store} (h : fRepr xs st = some r) : fReprU xs st = some r := by
  unfold fReprU
  rw [h]
theorem reprU_int (h : -1152921504606846976 < i ∧ i < 1152921504606846976) : fReprU [.int i] st = some (.str (toString i), st) := reprU_of (repr_int h)
theorem reprU_non : fReprU [.non] st = some (.str "None", st) := nd rfl
theorem reprU_bl : fReprU [.bl b] st = some (.str (if b then "True" else "False"), st) := nd rfl
theorem reprU_str (h : (reprText z).length ≤ sizeLine) : fReprU [.str z] st = some (.str (reprText z), st) := by
  show (bif decide ((reprText z).length ≤ sizeLine) then some (Val.str (reprText z), st) else none) = _
  rw [decide_eq_true h]
  rfl
theorem reprU_data (hd : d.canLay0 = true) (hs : (∃ ds, d = .tuple ds) ∨ ∃ ds, d = .list ds) (hr : repOk d = true) : fReprU [ofD d] st = some (.str (PyData.shown d), st) := reprU_of (repr_data hd hs hr)
end

/-- a test that holds, that doesn't: for simp with a discharger -/
theorem dT {p : Prop} {i : Decidable p} (h : p) : @decide p i = true := @decide_eq_true p i h
theorem dF {p : Prop} {i : Decidable p} (h : ¬ p) : @decide p i = false := @decide_eq_false p i h
end FL
/-! repr of small data -/
namespace FL
open PySem PyProof.Rows L2
mutual
def nice : PyData → Bool
  | .none => true
  | .bool _ => true
  | .int i => decide (i.natAbs < 10 ^ 60)
  | .str x => decide (x.cps.size ≤ 100) && x.cps.toList.all fun c => decide (c < 1114112)
  | .list ds => nices ds
  | .tuple ds => nices ds
  | .dict kvs => kvs.isEmpty
def nices : List PyData → Bool
  | [] => true
  | d :: ds => nice d && nices ds
end
mutual
def cnt : PyData → Nat
  | .list ds => cnts ds + 1
  | .tuple ds => cnts ds + 1
  | _ => 1
def cnts : List PyData → Nat
  | [] => 0
  | d :: ds => cnt d + cnts ds
end
mutual
def noL : PyData → Bool
  | .list _ => false
  | .tuple ds => noLs ds
  | _ => true
def noLs : List PyData → Bool
  | [] => true
  | d :: ds => noL d && noLs ds
end
theorem pow60 {n : Nat} (h : n < 10 ^ 60) : n.log2 < 200 := PySem.Flt.log2_lt_of (by decide) (Nat.lt_of_lt_of_le h (by decide))
theorem and2 {a b : Bool} (h : (a && b) = true) : a = true ∧ b = true := Bool.and_eq_true_iff.mp h
mutual
theorem nice_show : ∀ {d : PyData}, nice d = true → d.showable = true
  | .none, _ => rfl
  | .bool _, _ => rfl
  | .int i, h => by
    have := pow60 (of_decide_eq_true (by simpa [nice] using h))
    simp only [PyData.showable]
    exact decide_eq_true (by omega)
  | .str _, _ => rfl
  | .list ds, h => by simp only [PyData.showable]; exact nices_show (by simpa [nice] using h)
  | .tuple ds, h => by simp only [PyData.showable]; exact nices_show (by simpa [nice] using h)
  | .dict kvs, h => by
    cases kvs with
    | nil => rfl
    | cons _ _ => simp [nice] at h
theorem nices_show : ∀ {ds : List PyData}, nices ds = true → PyData.showableAll ds = true
  | [], _ => rfl
  | d :: ds, h => by
    obtain ⟨h1, h2⟩ := and2 (show (nice d && nices ds) = true by simpa [nices] using h)
    simp only [PyData.showableAll, nice_show h1, nices_show h2]
    rfl
end
mutual
theorem nice_leaf : ∀ {d : PyData}, nice d = true → d.leavesShort 64 = true
  | .none, _ => rfl
  | .bool _, _ => rfl
  | .int i, h => by
    have h1 : i.natAbs < 10 ^ 60 := of_decide_eq_true (by simpa [nice] using h)
    have e := int_text_length_le10 (k := 60) (by decide) h1
    simp only [PyData.leavesShort]
    refine decide_eq_true ?_
    show (Str.ofString (toString i)).length ≤ 64
    rw [PySem.ofString_length]
    omega
  | .str x, h => by
    obtain ⟨_, h2⟩ := and2 (show (decide (x.cps.size ≤ 100) && x.cps.toList.all fun c => decide (c < 1114112)) = true by simpa [nice] using h)
    simp only [PyData.leavesShort]
    refine List.all_eq_true.mpr fun c hc => decide_eq_true ?_
    have := of_decide_eq_true (List.all_eq_true.mp h2 c hc)
    exact Nat.lt_trans this (by decide)
  | .list ds, h => by simp only [PyData.leavesShort]; exact nices_leaf (by simpa [nice] using h)
  | .tuple ds, h => by simp only [PyData.leavesShort]; exact nices_leaf (by simpa [nice] using h)
  | .dict kvs, h => by
    cases kvs with
    | nil => rfl
    | cons _ _ => simp [nice] at h
theorem nices_leaf : ∀ {ds : List PyData}, nices ds = true → PyData.leavesShortAll 64 ds = true
  | [], _ => rfl
  | d :: ds, h => by
    obtain ⟨h1, h2⟩ := and2 (show (nice d && nices ds) = true by simpa [nices] using h)
    simp only [PyData.leavesShortAll, nice_leaf h1, nices_leaf h2]
    rfl
end
mutual
theorem nice_weight : ∀ {d : PyData}, nice d = true → d.weight + 1 ≤ 301 * cnt d
  | .none, _ => by simp [PyData.weight, cnt]
  | .bool _, _ => by simp [PyData.weight, cnt]
  | .int i, h => by
    have := pow60 (of_decide_eq_true (by simpa [nice] using h))
    simp only [PyData.weight, cnt]
    split <;> omega
  | .str x, h => by
    obtain ⟨h1, _⟩ := and2 (show (decide (x.cps.size ≤ 100) && x.cps.toList.all fun c => decide (c < 1114112)) = true by simpa [nice] using h)
    have := of_decide_eq_true h1
    simp only [PyData.weight, cnt]
    omega
  | .list ds, h => by
    have := nices_weight (ds := ds) (by simpa [nice] using h)
    simp only [PyData.weight, cnt]
    omega
  | .tuple ds, h => by
    have := nices_weight (ds := ds) (by simpa [nice] using h)
    simp only [PyData.weight, cnt]
    omega
  | .dict kvs, h => by
    cases kvs with
    | nil => simp [PyData.weight, PyData.weightKv, cnt]
    | cons _ _ => simp [nice] at h
theorem nices_weight : ∀ {ds : List PyData}, nices ds = true → PyData.weightAll ds ≤ 301 * cnts ds
  | [], _ => Nat.zero_le _
  | d :: ds, h => by
    obtain ⟨h1, h2⟩ := and2 (show (nice d && nices ds) = true by simpa [nices] using h)
    have a := nice_weight h1
    have b := nices_weight h2
    have c : 1 ≤ cnt d := by cases d <;> simp [cnt]
    simp only [PyData.weightAll, cnts]
    omega
end

theorem nice_shown {d : PyData} (h : nice d = true) (hc : cnt d ≤ 800) : (PyData.shown d).length ≤ sizeLine := by
  have h1 := PyData.shown_le 64 (by decide) d (nice_leaf h)
  have h2 := nice_weight h
  have h3 : (64 + 2) * d.weight ≤ 66 * 240800 := Nat.mul_le_mul (by omega) (by omega)
  have : sizeLine = 16777216 := by decide
  omega
mutual
theorem nice_toY : ∀ {d : PyData}, nice d = true → toY (ofD d) = some d
  | .none, _ => rfl
  | .bool _, _ => rfl
  | .int _, _ => rfl
  | .str _, _ => rfl
  | .list ds, g => by
    unfold ofD toY
    rw [nices_toY (by simpa [nice] using g)]
  | .tuple ds, g => by
    unfold ofD toY
    rw [nices_toY (by simpa [nice] using g)]
  | .dict kvs, g => by
    cases kvs with
    | nil => rfl
    | cons _ _ => simp [nice] at g
theorem nices_toY : ∀ {ds : List PyData}, nices ds = true → toYs (ofDs ds) = some ds
  | [], _ => rfl
  | d :: ds, g => by
    obtain ⟨g1, g2⟩ := and2 (show (nice d && nices ds) = true by simpa [nices] using g)
    unfold ofDs toYs
    rw [nice_toY g1, nices_toY g2]
end
mutual
theorem lay_nd : ∀ {d : PyData}, d.canLay0 = true → d.hasDict = false
  | .none, _ => rfl
  | .bool _, _ => rfl
  | .int _, _ => rfl
  | .str _, _ => rfl
  | .list ds, h => by simp only [PyData.hasDict]; exact lays_nd (by simpa [PyData.canLay0] using h)
  | .tuple ds, h => by simp only [PyData.hasDict]; exact lays_nd (by simpa [PyData.canLay0] using h)
  | .dict _, h => by simp [PyData.canLay0] at h
theorem lays_nd : ∀ {ds : List PyData}, PyData.canLayAll0 ds = true → PyData.hasDictAll ds = false
  | [], _ => rfl
  | d :: ds, h => by
    obtain ⟨h1, h2⟩ := and2 (show (d.canLay0 && PyData.canLayAll0 ds) = true by simpa [PyData.canLayAll0] using h)
    simp only [PyData.hasDictAll, lay_nd h1, lays_nd h2]
    rfl
end
/-- repr of small data comes to a text -/
theorem repr_any {d : PyData} {st : Store} (h : nice d = true) (hc : cnt d ≤ 800) (hd : d.depth ≤ 60) : ∃ s, fReprU [ofD d] st = some (.str s, st) := by
  have hs := nice_shown h hc
  have hw := nice_show h
  have big : ∀ x, ofD d = x → (∀ st, fRepr [x] st = match toD st x with
      | some d => bif repOk d then some (.str (PyData.shown d), st) else none
      | none => none) → (∀ st, fReprX [x] st = match toY x with
      | some d => bif repOkX d then some (.str (PyData.shown d), st) else none
      | none => none) → ((∃ ds, d = .tuple ds) ∨ ∃ ds, d = .list ds) ∨ d = .dict [] → ∃ s, fReprU [x] st = some (.str s, st) := by
    intro x hx hf hg hk
    unfold fReprU
    rw [hf, hg]
    by_cases hcl : d.canLay0 = true
    · have ho : repOk d = true := by
        unfold repOk
        rw [hw, decide_eq_true (show d.depth ≤ 100 by omega), decide_eq_true hs, lay_nd hcl]
        rfl
      rw [← hx, toD_of hcl]
      dsimp only
      rw [ho]
      exact ⟨_, rfl⟩
    · have ho : repOkX d = true := by
        unfold repOkX
        rw [hw, decide_eq_true (show d.depth ≤ 100 by omega), decide_eq_true hs]
        rfl
      have hy := nice_toY h
      rw [hx] at hy
      rw [hy]
      dsimp only
      rw [ho]
      cases ht : toD st x with
      | none => exact ⟨_, rfl⟩
      | some e =>
        dsimp only
        cases repOk e <;> exact ⟨_, rfl⟩
  cases d with
  | none => exact ⟨_, rfl⟩
  | bool b => exact ⟨_, rfl⟩
  | int i =>
    have := pow60 (of_decide_eq_true (by simpa [nice] using h))
    refine ⟨toString i, reprU_of ?_⟩
    unfold fRepr
    simp only [ofD]
    rw [decide_eq_true (by omega)]
    rfl
  | str x =>
    obtain ⟨h1, h2⟩ := and2 (show (decide (x.cps.size ≤ 100) && x.cps.toList.all fun c => decide (c < 1114112)) = true by simpa [nice] using h)
    have := of_decide_eq_true h1
    have hr := PySem.StrLaws.reprText_len x fun c hc => Nat.lt_trans (of_decide_eq_true (List.all_eq_true.mp h2 c hc)) (by decide)
    have hl : x.length = x.cps.size := rfl
    have : sizeLine = 16777216 := by decide
    exact ⟨_, reprU_str (by omega)⟩
  | list ds => exact big (ofD (.list ds)) rfl (fun _ => rfl) (fun _ => rfl) (.inl (.inr ⟨_, rfl⟩))
  | tuple ds => exact big (ofD (.tuple ds)) rfl (fun _ => rfl) (fun _ => rfl) (.inl (.inl ⟨_, rfl⟩))
  | dict kvs =>
    cases kvs with
    | nil => exact big (ofD (.dict [])) rfl (fun _ => rfl) (fun _ => rfl) (.inr rfl)
    | cons _ _ => simp [nice] at h
theorem repr_nice {d : PyData} {st : Store} (h : nice d = true) (hc : cnt d ≤ 500) (hd : d.depth ≤ 60) (_ : d.canLay0 = true ∨ noL d = true) : ∃ s, fReprU [ofD d] st = some (.str s, st) := repr_any h (Nat.le_trans hc (by decide)) hd
end FL
/-! texts' methods -/
namespace FL
open PySem PySem.Spec PyProof.Rows L2
section
variable {X : Cx} {Z : KS} {W : WZ Z} {e : Expr} {te : FE} {pos apos : Pos}
/-- e.upper() -/
def eUpper (te : FE) : FE := fun ρ st => (te ρ st).bind fun x st1 => match x with
  | .str s => bif decide (s.length ≤ 5592405) then .ok (.str (Txt.upper s)) st1 else .bad
  | _ => .bad
theorem d_upper (he : DE X W e te) (hb : attributeBase e "upper" X.env (eval e X.env) = eval e X.env := by rfl) (hl : (apos.endLine == pos.line) = true := by rfl) : DE X W (.Call (.Attribute e "upper" apos) [] [] pos) (eUpper te) :=
  pe_imp (pe_upper he (hbase := hb) (hline := hl)) fun σ H Q ⟨fr, ms, ρ, st, w, g⟩ => ⟨fr, ms, ρ, st, w, g.bind.mono fun x st1 fr1 H1 ms1 _ _ ⟨e1, s1, g1⟩ v rv => by
    cases x with
    | str z =>
      obtain ⟨hb, g2⟩ := (show G ((kx X Z).to W σ) W σ fr1 H1 ms1 (bif decide (z.length ≤ 5592405) then R.ok (.str (Txt.upper z)) st1 else .bad) (PV ((kx X Z).to W σ) Q) from g1).cond
      have := vr_str rv
      subst this
      exact ⟨⟨_, rfl⟩, _, rfl, rfl, of_decide_eq_true hb, g2.now s1 _ (.str _)⟩
    | _ => exact g1.elim⟩
end
section
variable {ρ : FL.Env} {st : Store} {s : Str} {te : FE}
def kUpper : Val → Store → R Val := fun x st1 => match x with
  | .str s => bif decide (s.length ≤ 5592405) then .ok (.str (Txt.upper s)) st1 else .bad
  | _ => .bad
theorem eUpper_eq : eUpper te ρ st = (te ρ st).bind kUpper := nd rfl
theorem kUpper_eq (h : s.length ≤ 5592405) : kUpper (.str s) st = .ok (.str (Txt.upper s)) st := by
  show (bif decide (s.length ≤ 5592405) then _ else _) = _
  rw [decide_eq_true h]
  rfl
end
section
variable {ρ : FL.Env} {st : Store} {te ta : FE} {p : Nat}
def onP (o q : Option (List Val)) (p : Nat) (s : Store) : R Val := match o, q with
  | some xs, some zs => bif Nat.ble (xs.length + zs.length) sizeLine then .ok .non (s.set p (.lst (xs ++ zs))) else .bad
  | _, _ => .bad
theorem onP_eq {xs zs : List Val} {s : Store} (h : xs.length + zs.length ≤ 10000) : onP (some xs) (some zs) p s = .ok .non (s.set p (.lst (xs ++ zs))) := by
  show (bif Nat.ble (xs.length + zs.length) sizeLine then R.ok Val.non (s.set p (.lst (xs ++ zs))) else .bad) = _
  rw [ble_sz h]
  rfl
def kX3 (p : Nat) : Val → Store → R Val := fun y s => onP (lstAt s p) (plOf s y) p s
theorem kX3_ro {zs : List Val} {s : Store} : kX3 p (.ro zs) s = onP (match s[p]? with | some (.lst xs) => some xs | _ => none) (some zs) p s := nd rfl
theorem kX3_ref {q : Nat} {s : Store} : kX3 p (.ref q) s = onP (match s[p]? with | some (.lst xs) => some xs | _ => none) (match s[q]? with | some (.lst xs) => some xs | _ => none) p s := nd rfl
def kX2 (ta : FE) (ρ : FL.Env) (p : Nat) (s : Store) : List Val → R Val := fun _ => (ta ρ s).bind (kX3 p)
theorem kX2_eq {xs : List Val} {s : Store} : kX2 ta ρ p s xs = (ta ρ s).bind (kX3 p) := nd rfl
def kX1 (ta : FE) (ρ : FL.Env) : Val → Store → R Val := fun x s => match x with
  | .ref p => onL (lstAt s p) (kX2 ta ρ p s)
  | _ => .bad
theorem kX1_eq {s : Store} : kX1 ta ρ (.ref p) s = onL (match s[p]? with | some (.lst xs) => some xs | _ => none) (kX2 ta ρ p s) := nd rfl
theorem eExt_eq : eExt te ta ρ st = (te ρ st).bind (kX1 ta ρ) := by
  unfold eExt
  congr 1
end
/-- is True, is not True: of truths -/
def fIsB (neg : Bool) : F2 := fun x y st => match x, y with
  | .bl a, .bl b => some (.bl (bif neg then !decide (a = b) else decide (a = b)), st)
  | _, _ => none
theorem r2_isB {K : KZ} : R2F K rIsB (fIsB false) := fun _ fr H ms st x y sx sy z st' Q s rx ry h q => by
  unfold fIsB at h
  split at h
  · cases h
    exact ⟨_, _, vr_bl rx, vr_bl ry, q.now s (.bl _)⟩
  · cases h
theorem r2_notB {K : KZ} : R2F K rNotB (fIsB true) := fun _ fr H ms st x y sx sy z st' Q s rx ry h q => by
  unfold fIsB at h
  split at h
  · cases h
    exact ⟨_, _, vr_bl rx, vr_bl ry, q.now s (.bl _)⟩
  · cases h
theorem fIsB_eq {n a b : Bool} {st : Store} : fIsB n (.bl a) (.bl b) st = some (.bl (bif n then !decide (a = b) else decide (a = b)), st) := nd rfl
end FL
/-! x op= e -/
namespace FL
open PySem PySem.Spec PyProof.Rows L2
section
variable {X : Cx} {Z : KS} {W : WZ Z} {pos pos' : Pos} {e : Expr} {te : FE} {r : R2} {f : F2}
theorem le_v {K : KZ} {i : Nat} {σ : L2.St} {H : Hp} {Q : VK} : LE K W (eV i) σ H Q → ∃ x, σ[i]? = some (some x) ∧ Q x H := by
  rintro ⟨fr, ms, ρ, st, w, g⟩
  unfold eV at g
  split at g
  · next x hx =>
    obtain ⟨u, hu, ru⟩ := w.env i x hx
    exact ⟨u, hu, g.now w.sr _ ru⟩
  · exact g.elim
/-- x op= e, x a local name -/
theorem s_aug (i : Nat) {x : Str} {op : Operator} (hN : X.N.Nodup) (ho : OpR X (inplaceOp op) r) (h : R2F (kx X Z) r f) (he : DE X W e te) (hi : X.N[i]? = some x := by rfl) (hx : Loc X.env.scope x := by first | exact Or.inl rfl | exact Or.inr rfl) (hcs : i ∉ W.cs := by exact not_cs (by assumption) (by decide))
    (hf : X.fn x = true ∨ X.env.scope.names.lookup x = some .local := by first | exact .inl rfl | exact .inr rfl) : DS X W (.AugAssign (.Name x pos') op e pos) (sSet i (eOp f (eV i) te)) :=
  ps_imp (ps_aug hN hi hx he ho hf) fun D σ H ⟨fr, ms, ρ, st, w, g⟩ => by
    have q : LE (kx X Z) W (eOp f (eV i) te) σ H fun v H' => D.nx (σ.set i (some v)) H' :=
      ⟨fr, ms, ρ, st, w, (g.to w).mono fun x st1 fr1 H1 ms1 _ _ ⟨e1, s1, w1, g1⟩ v rv => g1.nx (w1.put rv i) (gamOf_put hcs)⟩
    exact le_v (le_op h q)
end
/-- + of whole numbers alone -/
def fAddI : F2 := fI0 fun i j => .int (i + j)
theorem r2_addI {K : KZ} : R2F K (rI0 fun i j => .int (i + j)) fAddI := r2_I0 fun _ _ _ _ _ _ => .int _
theorem fAddI_eq {i j : Int} {st : Store} : fAddI (.int i) (.int j) st = some (.int (i + j), st) := nd rfl
end FL
namespace FL
open PySem PySem.Spec PyProof.Rows L2
/-! functions that are made within a def: made, handed on, called -/
/-- what captured slots hold -/
def capsAt (ρ : Env) : List Nat → Option (List Val)
  | [] => some []
  | j :: js => match ρ[j]?, capsAt ρ js with
    | some (some x), some xs => some (x :: xs)
    | _, _ => none
def eLam (id : Nat) (js : List Nat) : FE := fun ρ st => match capsAt ρ js with
  | some xs => .ok (.fn id xs) st
  | none => .bad
/-- where the captured names stand: among the frame's names, their cells told -/
structure CapOk (X : Cx) {Z : KS} (W : WZ Z) (fr : List Str) (js : List Nat) : Prop where
  at_ : js.map (fun j => X.N[j]?) = fr.map some
  kin : ∀ y ∈ fr, X.env.scope.names.lookup y = some .cell ∨ X.env.scope.names.lookup y = some .free
  z : ∀ (i : Nat) y j c, fr[i]? = some y → js[i]? = some j → X.env.cells.lookup y = some c → W.z c = some j
theorem CapOk.nil {X : Cx} {Z : KS} {W : WZ Z} : CapOk X W [] [] := ⟨rfl, fun y h => (nomatch h), fun i y j c h => by simp at h⟩
section
variable {X : Cx} {Z : KS} {W : WZ Z} {pins : List (Addr × Obj)} {σ : L2.St} {H H1 : Hp} {s : Shared} {fr : Addr → Prop} {ms : List Addr} {st : Store} {K : KZ}
theorem ext_made (hx : LamX.ExtN H H1) (nn : ∀ b, H1 b = none → H b = none) : Ext ms.length fr H ms fr H1 ms :=
  ⟨rfl, fun a o h _ b => hx a o h fun ps z => by rw [z] at b; exact b, fun a h z => h (nn a z), fun _ h => .inl h, fun _ h => h, fun _ h => .inl h⟩
theorem SR.made (hx : LamX.ExtN H H1) (nn : ∀ b, H1 b = none → H b = none) (t : NdefX.TabsN K.S.tabs H1) (r : SR K fr H ms st) : SR K fr H1 ms st :=
  r.ex (ext_made hx nn) (fun p hp => ⟨r.nfr p hp, by
    obtain ⟨o, e, ho⟩ := r.ow hp
    rw [e]
    exact hx p o e fun ps z => by rw [z] at ho; exact ho⟩) (fun a h => let ⟨o, e, ho⟩ := r.lo a h; ⟨o, hx a o e fun ps z => (by rw [z] at ho; exact ho), ho⟩) t
theorem caps_at {ρ : Env} (w : Wd (K.to W σ) fr H ms σ ρ st) : ∀ {js : List Nat} {xs : List Val}, capsAt ρ js = some xs → ∃ vs, js.map (NdefX.slotAt σ) = vs.map some ∧ VRs (K.to W σ) fr H ms vs xs
  | [], xs, h => by
    cases h
    exact ⟨[], rfl, .nil⟩
  | j :: js, xs, h => by
    unfold capsAt at h
    split at h
    · next x ys hx hy =>
      cases h
      obtain ⟨v, hv, rv⟩ := w.env j x hx
      obtain ⟨vs, h1, h2⟩ := caps_at w hy
      exact ⟨v :: vs, by rw [List.map_cons, List.map_cons, h1, NdefX.slotAt_of hv], .cons rv h2⟩
    · cases h
theorem kn_made {C : FCode} {js : List Nat} {vs : List V} (ok : X.Ok) (hc : CapOk X W C.fr js) (hfree : ∀ y ∈ C.scope.names, y.2 = .free → X.env.scope.names.lookup y.1 = some .cell ∨ X.env.scope.names.lookup y.1 = some .free) (hfr : ∀ y ∈ C.fr, (y, NameKind.free) ∈ C.scope.names) (hon : ∀ y ∈ C.scope.names, y.2 = .free → y.1 ∈ C.fr)
    (hv : js.map (NdefX.slotAt σ) = vs.map some) : KnAll (K.to W σ) H (cloFrom X.env.cells C.scope.names []) C.fr vs := by
  have hf : ∀ y ∈ C.scope.names, y.2 = .free → ∃ c, X.env.cells.lookup y.1 = some c := fun y hy e => (hfree y hy e).elim (fun z => ok.has _ (.inl z)) fun z => ok.has _ (.inr z)
  have hl : vs.length = js.length := by
    have q := congrArg List.length hv
    rw [List.length_map, List.length_map] at q
    exact q.symm
  have hl2 : js.length = C.fr.length := by
    have q := congrArg List.length hc.at_
    rw [List.length_map, List.length_map] at q
    exact q
  refine ⟨hl.trans hl2, fun i y v hy hvi => ?_, fun x y c e1 e2 => ok.inj x y c (NdefX.clo_cm hf e1) (NdefX.clo_cm hf e2), fun y c e => ?_⟩
  · have hi : i < js.length := by rw [← hl]; exact (List.getElem?_eq_some_iff.mp hvi).1
    obtain ⟨j, hj⟩ : ∃ j, js[i]? = some j := ⟨_, List.getElem?_eq_getElem hi⟩
    obtain ⟨c, hcc⟩ : ∃ c, X.env.cells.lookup y = some c := (hc.kin y (List.mem_of_getElem? hy)).elim (fun z => ok.has _ (.inl z)) fun z => ok.has _ (.inr z)
    refine ⟨c, NdefX.clo_has hf (hfr y (List.mem_of_getElem? hy)) hcc, .inl ?_⟩
    show gamOf W σ c = some v
    unfold gamOf
    rw [hc.z i y j c hy hj hcc]
    have q : (js.map (NdefX.slotAt σ))[i]? = (vs.map some)[i]? := by rw [hv]
    rw [List.getElem?_map, List.getElem?_map, hj, hvi] at q
    exact Option.some.inj q
  · rcases cloFrom_mem (PySem.mem_of_lookup e) with hm | ⟨h1, _⟩
    · cases hm
    · exact hon _ h1 rfl
/-- the lambda is made, and known from now on -/
theorem lam_mk {T : List NdefX.NTab} {nm : Nat → Nat → Str} {c P : Addr} {params : Arguments} {body : Expr} {scope : Scope} {pos : Pos} {E : Value → Shared → Prop} {Q : Value → Shared → Prop} (I : Inv X pins σ H s) (TB : LamX.TabB X.base X.mg c P) (hcode : X.env.code = .ref c)
    (hm : (P, nm) ∈ T) (hn : nm pos.line pos.col = X.env.qual ++ "<lambda>") (hu : ∀ p ∈ T, p.1 = P → p.2 = nm) (hT : NdefX.TabsN T H) (hdef : defaultsOf params X.env = ([], [])) (hfree : ∀ y ∈ scope.names, y.2 = .free → ∃ c, X.env.cells.lookup y.1 = some c)
    (h : ∀ (f c' : Addr) (H1 : Hp) (s' : Shared) (frn : List Str), Inv X pins σ H1 s' → LamX.ExtN H H1 → (∀ b, H1 b = none → H b = none) → NdefX.TabsN T H1 → H1 f = some (FnZ f ⟨"<lambda>", X.env.qual ++ "<lambda>", params, .expr body, scope, frn⟩ (cloFrom X.env.cells scope.names []) c') → H1 c' = some (LamX.CodeO c' (X.env.qual ++ "<lambda>")) → Q (.ref f) s') :
    wpAny (model X.prog X.w) X.A (eval (.Lambda params body scope pos) X.env) Q E s := by
  obtain ⟨ps, hP, ht, ha⟩ := (show NdefX.TabN H P nm from hT _ hm)
  refine PySem.W.kla_eval hdef ?_
  have bP : s.heap.BuiltinsAt X.mg P := TB.bm.keeps I.bk
  have hP' : s.heap.get? P = some { cls := .none, data := .fields ps } := I.hok P _ hP
  have fnOk : ∀ {h1 : Heap} {tk : Tok} {H2 : Hp} {c' : Addr} {ctv : Value}, Inv X pins σ H2 { s with heap := h1, toks := tk } → ∀ frn, Inv X pins σ (L2.upd H2 h1.objs.size (FnZ h1.objs.size ⟨"<lambda>", X.env.qual ++ "<lambda>", params, .expr body, scope, frn⟩ (cloFrom X.env.cells scope.names []) c'))
      { s with heap := h1.push (PySem.W.kla_obj "<lambda>" (X.env.qual ++ "<lambda>") params body scope (cloFrom X.env.cells scope.names []) ((X.mg "__name__").getD .none) c' ctv), toks := tk } := fun {h1 tk H2 c' ctv} J frn => by
    have e : (h1.push (PySem.W.kla_obj "<lambda>" (X.env.qual ++ "<lambda>") params body scope (cloFrom X.env.cells scope.names []) ((X.mg "__name__").getD .none) c' ctv)).get? h1.objs.size = some (PySem.W.kla_obj "<lambda>" (X.env.qual ++ "<lambda>") params body scope (cloFrom X.env.cells scope.names []) ((X.mg "__name__").getD .none) c' ctv) := Heap.get?_push_size _ rfl
    exact J.laid (a := h1.objs.size) (fun b u q => Heap.get?_push_of_some _ q) (Nat.le_refl _) ⟨⟨_, _, _, _, _, e⟩, ⟨_, e⟩, fun g1 g2 ⟨od, sl, d, p, t, z⟩ k => ⟨od, sl, d, p, t, k _ z⟩⟩
  cases hc : codeAmong pos ps.toList with
  | none =>
    refine PySem.W.kla_makeFunction (mg := X.mg) (c := c) (P := P) (ps := ps) (closure_ok hfree) I.ok.glob (I.mod.glob.keeps I.bk) hcode (TB.code.keeps I.bk) hP' ht hc TB.gP bP fun c' ctv g tk hx hge hlt hrec htb => ?_
    obtain ⟨c2, oc, vs, t, e2, hoc, hd, hv⟩ := hrec
    cases e2
    have nC : H c' = none := I.hok.fresh hge
    have I1 := LamX.inv_table (t' := tk) (more := #[rawInt pos.line, rawInt pos.col, .ref c']) (h' := g) I hP (fun b o hb e => hx b o hb e) htb hge ⟨oc, vs, t, hoc, hd, hv⟩
    have nP : ∀ {b o}, H b = some o → (∀ qs, o ≠ .tbl qs) → b ≠ P := fun {b o} e n z => by
      rw [z, hP] at e
      exact n ps (Option.some.inj e).symm
    have hE : LamX.ExtN H (L2.upd (L2.upd H P (.tbl (ps ++ #[rawInt pos.line, rawInt pos.col, .ref c']))) c' (LamX.CodeO c' (X.env.qual ++ "<lambda>"))) := fun b o e n => by
      rw [upd_ne (ne_of_none e nC), upd_ne (nP e n)]
      exact e
    have eL : (ps ++ #[rawInt pos.line, rawInt pos.col, .ref c']).toList = ps.toList ++ [rawInt pos.line, rawInt pos.col, .ref c'] := by simp
    have T1 : NdefX.TabsN T (L2.upd (L2.upd H P (.tbl (ps ++ #[rawInt pos.line, rawInt pos.col, .ref c']))) c' (LamX.CodeO c' (X.env.qual ++ "<lambda>"))) := fun p hp => by
      by_cases hb : p.1 = P
      · rw [hu p hp hb, hb]
        refine ⟨_, by rw [upd_ne (ne_of_none hP nC), upd_same], by rw [eL]; exact PySem.TriplesOk_snoc _ _ _ _ ht, fun p' cv hcv => ?_⟩
        rw [eL] at hcv
        rcases NdefX.among_app2 _ ht hcv with z | ⟨z, z1, z2⟩
        · obtain ⟨c0, e1, e2⟩ := ha p' cv z
          exact ⟨c0, e1, hE _ _ e2 LamX.codeO_ne⟩
        · rw [← z1, ← z2, hn]
          exact ⟨c', z, upd_same⟩
      · obtain ⟨qs, a1, a2, a3⟩ := hT p hp
        refine ⟨qs, by rw [upd_ne (ne_of_none a1 nC), upd_ne hb]; exact a1, a2, fun p' cv hcv => ?_⟩
        obtain ⟨c0, e1, e2⟩ := a3 p' cv hcv
        exact ⟨c0, e1, hE _ _ e2 LamX.codeO_ne⟩
    have nF := I1.hok.fresh (Nat.le_refl _)
    refine h g.objs.size c' _ _ [] (fnOk (ctv := ctv) I1 []) (fun b o e n => ?_) (fun b e => NdefX.upd_none (NdefX.upd_none (NdefX.upd_none e))) (T1.ext fun b o e => ?_) upd_same ?_
    · have e1 := hE b o e n
      exact (upd_ne (ne_of_none e1 nF)).trans e1
    · exact (upd_ne (ne_of_none e nF)).trans e
    · exact (upd_ne (Nat.ne_of_lt hlt)).trans upd_same
  | some cv =>
    obtain ⟨c', e, hco⟩ := ha pos cv hc
    subst e
    rw [hn] at hco
    refine PySem.W.kla_makeFunctionHit (mg := X.mg) (c := c) (P := P) (ps := ps) (closure_ok hfree) I.ok.glob (I.mod.glob.keeps I.bk) hcode (TB.code.keeps I.bk) hP' ht hc bP fun ctv g tk hx hsz => ?_
    have I1 : Inv X pins σ H { s with heap := g, toks := tk } := I.kept hx
    have nF : H g.objs.size = none := I1.hok.fresh (Nat.le_refl _)
    refine h g.objs.size c' _ _ [] (fnOk (ctv := ctv) I1 []) (fun b o e n => ?_) (fun b e => NdefX.upd_none e) (hT.ext fun b o e => ?_) upd_same ?_
    · exact (upd_ne (ne_of_none e nF)).trans e
    · exact (upd_ne (ne_of_none e nF)).trans e
    · exact (upd_ne (ne_of_none hco nF)).trans hco
/-- what the making of the function C in X asks: the code object's table, the captured names -/
structure MakeOk (X : Cx) {Z : KS} (W : WZ Z) (id : Nat) (C : FCode) (js : List Nat) (pos : Pos) : Prop where
  code : Z.code id = some C
  tab : ∃ c P nm, LamX.TabB X.base X.mg c P ∧ X.env.code = .ref c ∧ (P, nm) ∈ Z.tabs ∧ nm pos.line pos.col = X.env.qual ++ C.name ∧ ∀ p ∈ Z.tabs, p.1 = P → p.2 = nm
  qual : C.qual = X.env.qual ++ C.name
  dfl : defaultsOf C.params X.env = ([], [])
  free : ∀ y ∈ C.scope.names, y.2 = .free → X.env.scope.names.lookup y.1 = some .cell ∨ X.env.scope.names.lookup y.1 = some .free
  frn : ∀ y ∈ C.fr, (y, NameKind.free) ∈ C.scope.names
  frs : ∀ y ∈ C.scope.names, y.2 = .free → y.1 ∈ C.fr
  cap : CapOk X W C.fr js
theorem fnZ_fr {f c : Addr} {C : FCode} {cl : List (Str × Addr)} {frn : List Str} : FnZ f ⟨C.name, C.qual, C.params, C.body, C.scope, frn⟩ cl c = FnZ f C cl c := rfl
theorem d_lam (id : Nat) (js : List Nat) {params : Arguments} {body : Expr} {scope : Scope} {pos : Pos} {frn : List Str} {q : Str} (M : MakeOk X W id ⟨"<lambda>", q, params, .expr body, scope, frn⟩ js pos) : DE X W (.Lambda params body scope pos) (eLam id js) := by
  constructor
  intro pins s σ H Q I ⟨fr, ms, ρ, st, w, g⟩
  obtain ⟨c, P, nm, TB, hcode, hm, hn, hu⟩ := M.tab
  have hq : q = X.env.qual ++ "<lambda>" := M.qual
  refine lam_mk I TB hcode hm hn hu w.sr.tab M.dfl (fun y hy e => (M.free y hy e).elim (fun z => I.ok.has _ (.inl z)) fun z => I.ok.has _ (.inr z)) fun f c' H1 s' fr2 I1 hx nn T1 h1 h2 => ?_
  unfold eLam at g
  cases hcp : capsAt ρ js with
  | none =>
    rw [hcp] at g
    exact g.elim
  | some xs =>
    rw [hcp] at g
    obtain ⟨vs, hv, rv⟩ := caps_at w hcp
    have e1 := ext_made (fr := fr) (ms := ms) hx nn
    have s1 := w.sr.made hx nn T1
    subst hq
    refine ⟨.ref f, H1, I1, rfl, g fr H1 ms e1 s1 _ ?_⟩
    exact .fn (C := ⟨"<lambda>", X.env.qual ++ "<lambda>", params, .expr body, scope, frn⟩) h1 M.code h2 (kn_made I1.ok M.cap M.free M.frn M.frs hv) (VRs.ex w.sr e1 rv)
end
def sFn (i id : Nat) (js : List Nat) : FS := fun ρ st => match capsAt ρ js with
  | some xs => .nx (ρ.set i (some (.fn id xs))) st
  | none => .bad
section
variable {X : Cx} {Z : KS} {W : WZ Z}
theorem s_fn (i id : Nat) (js : List Nat) {name q : Str} {params : Arguments} {body : List Stmt} {scope : Scope} {pos : Pos} {frn : List Str} (M : MakeOk X W id ⟨name, q, params, .stmts body, scope, frn⟩ js pos) (hd0 : params.defaults = [] := by rfl) (hk0 : params.kw_defaults = [] := by rfl) (ha : annTrees params none X.env = [] := by rfl)
    (hN : X.N.Nodup) (hi : X.N[i]? = some name := by rfl) (hx : L2.Loc X.env.scope name := by first | exact Or.inl rfl | exact Or.inr rfl) (hcs : i ∉ W.cs := by exact not_cs (by assumption) (by decide)) (hf : X.fn name = true ∨ X.env.scope.names.lookup name = some .local := by first | exact .inl rfl | exact .inr rfl) :
    DS X W (.FunctionDef name params body [] none [] scope none name pos) (sFn i id js) := by
  obtain ⟨c, P, nm, TB, hcode, hm, hn, hu⟩ := M.tab
  have hok : ∀ {pins σ H s}, Inv X pins σ H s → X.Ok := fun I => I.ok
  constructor
  intro pins s σ H D I ⟨fr, ms, ρ, st, w, g⟩
  refine (NdefX.ps_ndefM (body := body) TB hcode hm hn hu M.free hd0 hk0 ha hN hi hx hf).run pins s σ H D I ⟨w.sr.tab, fun f c' H1 hx1 nn T1 _ h1 h2 => ?_⟩
  unfold sFn at g
  cases hcp : capsAt ρ js with
  | none =>
    rw [hcp] at g
    exact g.elim
  | some xs =>
    rw [hcp] at g
    obtain ⟨vs, hv, rv⟩ := caps_at w hcp
    have e1 := ext_made (fr := fr) (ms := ms) hx1 nn
    have s1 := w.sr.made hx1 nn T1
    have hq : q = X.env.qual ++ name := M.qual
    subst hq
    refine g fr H1 ms _ e1 (gamOf_put hcs) ((w.on e1 s1).put (.fn (c := c') h1 M.code h2 (kn_made I.ok M.cap M.free M.frn M.frs hv) (VRs.ex w.sr e1 rv)) i)
end
end FL
namespace FL
open PySem PySem.Spec PyProof.Rows L2
/-! ### what a made function promises -/
abbrev Disp := Nat → List Val → List Val → Store → R Val
def spC (K : KZ) (F : List Val → List Val → Store → R Val) (ws vs : List V) (H : Hp) (Q : VK) (E : XK) : Prop := ∃ fr ms st caps xs, SR K fr H ms st ∧ VRs K fr H ms ws caps ∧ VRs K fr H ms vs xs ∧ G K (fun c d _ H => E c d H) [] fr H ms (F caps xs st) (PV K Q)
structure CloF (Z : KS) (P : Program) (w : World) (K : PySem.W.Frag) (mg : Str → Option Value) (base : Heap) (lv : Nat) (C : FCode) (F : List Val → List Val → Store → R Val) : Prop where
  go : ∀ (A : Around) (outer : List PySem.Env) (s : Shared) (H : Hp) (f c : Addr) (cl : List (Str × Addr)) (us : List Value) (vs ws : List V) (Q : VK) (E : XK), Room lv A → A.guards = some [] → Env0 P w K mg base A outer s H → H f = some (FnZ f C cl c) → H c = some (LamX.CodeO c C.qual) →
    KnAll (k0 K Z) H cl C.fr ws → Vals vs us → spC (k0 K Z) F ws vs H Q E → codeAny (model P w) A (.call (.ref f) ⟨us, []⟩) (L2.CR (L2.CX P w) outer P w H s Q E) s
theorem CloF.mono {Z : KS} {P : Program} {w : World} {K : PySem.W.Frag} {mg : Str → Option Value} {base : Heap} {j lv : Nat} {C : FCode} {F : List Val → List Val → Store → R Val} (h0 : CloF Z P w K mg base j C F) (h : j ≤ lv) : CloF Z P w K mg base lv C F :=
  ⟨fun A outer s H f c cl us vs ws Q E hr => h0.go A outer s H f c cl us vs ws Q E (hr.mono h)⟩
/-- the promise of each made function -/
def DispF (Z : KS) (P : Program) (w : World) (K : PySem.W.Frag) (mg : Str → Option Value) (base : Heap) (lv : Nat) (D : Disp) : Prop := ∀ id C, Z.code id = some C → CloF Z P w K mg base lv C (D id)
theorem CloF.none {Z : KS} {P : Program} {w : World} {K : PySem.W.Frag} {mg : Str → Option Value} {base : Heap} {lv : Nat} {C : FCode} : CloF Z P w K mg base lv C (fun _ _ _ => .bad) :=
  ⟨fun A outer s H f c cl us vs ws Q E _ _ _ _ _ _ _ hsp => by
    obtain ⟨fr, ms, st, caps, xs, _, _, _, g⟩ := hsp
    exact g.elim⟩
/-! ### the cells of a made function, in its body -/
section
variable {g : Addr → Option V} {h : Heap} {H H' : Hp} {c : Addr}
/-- the cells stand in the heap as they did -/
def Same (g : Addr → Option V) (h h' : Heap) : Prop := ∀ c v, g c = some v → h'.get? c = h.get? c
theorem gok_minus {P : Program} {w : World} (ok : HOk P w H h) (k : Kept g h H) : GOk g h (Hminus g H) := fun c v e => by
  obtain ⟨ob, u, h1, h2, h3, h4⟩ := k c v e
  exact ⟨hminus_on e, ob, u, h1, h3, h4⟩
theorem kept_hok {P : Program} {w : World} (ok : HOk P w H h) (k : ∀ c v, g c = some v → ∃ ob u, H c = some (CellO c ob) ∧ ob.data = .cell (some u) ∧ L2.RelV v u) : Kept g h H := fun c v e => by
  obtain ⟨ob, u, h1, h2, h3⟩ := k c v e
  exact ⟨ob, u, (ok c _ h1).1, h1, h2, h3⟩
end
section
variable {K : KZ} {g : Addr → Option V} {h h' : Heap} {fr fr' : Addr → Prop} {H H' : Hp} {ms ms' : List Addr} {st : Store}
/-- from the call to the body's end, the cells told again -/
theorem Ext.again (k : Kept g h H) (Gk : GOk g h' H') (sm : Same g h h') (e : Ext ms.length fr (Hminus g H) ms fr' H' ms') (s' : SR K fr' H' ms' st) : Ext ms.length fr H ms fr' (Hplus g h' H') ms' := by
  refine ⟨e.pre, fun a o q n b => ?_, fun a q => ?_, fun a q => ?_, e.frk, fun a q => ?_⟩
  · cases z : g a with
    | none =>
      rw [hplus_off z]
      exact e.keep a o ((hminus_off z).trans q) n b
    | some v =>
      obtain ⟨ob, u, h1, h2, _⟩ := k a v z
      rw [q] at h2
      cases h2
      exact hplus_on z ((sm a v z).trans h1)
  · cases z : g a with
    | none =>
      rw [hplus_off z]
      refine e.there a ?_
      rw [hminus_off z]
      exact q
    | some v =>
      obtain ⟨ob, u, h1, _⟩ := k a v z
      rw [hplus_on z ((sm a v z).trans h1)]
      simp
  · refine (e.tk a q).imp id fun y => ?_
    cases z : g a with
    | none => exact (hminus_off z).symm.trans y
    | some v => exact absurd (Gk a v z).1 (s'.there q)
  · refine (e.frn a q).imp id fun y => y.imp (fun y => ?_) id
    cases z : g a with
    | none => exact (hminus_off z).symm.trans y
    | some v => exact absurd (Gk a v z).1 (s'.low a q)
end
section
variable {P : Program} {w : World} {K : PySem.W.Frag} {mg : Str → Option Value} {base : Heap} {Z : KS}
/-- a call in which the cells are not told: what it comes to, the cells told -/
theorem cr_again {outer : List PySem.Env} {s s' : Shared} {H : Hp} {g : Addr → Option V} (ok : HOk P w H s.heap) (k : Kept g s.heap H) (ns : ∀ c, c ∈ frs outer → g c = none) {Q : VK} {E : XK} {r : Result}
    (q : L2.CR (L2.CX P w) outer P w (Hminus g H) s (fun v H' => ∀ h', GOk g h' H' → Same g s.heap h' → Q v (Hplus g h' H')) (fun c d H' => ∀ h', GOk g h' H' → Same g s.heap h' → E c d (Hplus g h' H')) r s') : L2.CR (L2.CX P w) outer P w H s Q E r s' := by
  have mn : ∀ {c : Addr} {u : HO}, H c = some u → (∀ ob, u ≠ CellO c ob) → g c = none := fun {c u} q n => by
    cases z : g c with
    | none => rfl
    | some v =>
      obtain ⟨ob, _, _, h2, _⟩ := k c v z
      rw [q] at h2
      exact absurd (Option.some.inj h2) (n ob)
  match r, q with
  | .ok (.ret u), ⟨v, H', os, bare, un, hok, rv, q⟩ =>
    have keep : ∀ c v, g c = some v → ∃ ob u, s.heap.get? c = some ob ∧ s'.heap.get? c = some ob ∧ H' c = none ∧ H c = some (CellO c ob) ∧ ob.data = .cell (some u) ∧ L2.RelV v u := fun c v eg => by
      obtain ⟨ob, u, h1, h2, h3, h4⟩ := k c v eg
      have nf : c ∉ frs outer := fun z => by
        rw [ns c z] at eg
        cases eg
      exact ⟨ob, u, h1, un.keep c ob h1 (hminus_on eg) nf (by simp), un.free c ob h1 (hminus_on eg) (by simp), h2, h3, h4⟩
    have Gk : GOk g s'.heap H' := fun c v eg => by
      obtain ⟨ob, u, _, h1, h2, _, h3, h4⟩ := keep c v eg
      exact ⟨h2, ob, u, h1, h3, h4⟩
    have sm : Same g s.heap s'.heap := fun c v eg => by
      obtain ⟨ob, u, h0, h1, _⟩ := keep c v eg
      rw [h0, h1]
    refine ⟨v, Hplus g s'.heap H', os, bare, ⟨fun b o e n hb hx => ?_, fun b o e n hb hx => ?_, fun b o e n hx => ?_, un.there, fun b xs e => ?_, fun b o xs e => ?_, fun b ps e => ?_⟩, hok_plus Gk hok, rv, q _ Gk sm⟩
    · have eg : g b = none := by
        cases z : g b with
        | none => rfl
        | some v =>
          obtain ⟨_, _, _, _, _, h2, _⟩ := keep b v z
          rw [n] at h2
          cases h2
      exact un.keep b o e ((hminus_off eg).trans n) hb hx
    · exact un.slot b o e ((hminus_off (ns b hb)).trans n) hb hx
    · have eg : g b = none := by
        cases z : g b with
        | none => rfl
        | some v =>
          obtain ⟨_, _, _, _, _, h2, _⟩ := keep b v z
          rw [n] at h2
          cases h2
      rw [hplus_off eg]
      exact un.free b o e ((hminus_off eg).trans n) hx
    · have eg := mn e fun ob z => (by unfold CellO at z; cases z)
      rw [hplus_off eg]
      exact un.tups b xs ((hminus_off eg).trans e)
    · cases eg : g b with
      | none =>
        rw [hplus_off eg]
        exact un.frzs b o xs ((hminus_off eg).trans e)
      | some v =>
        obtain ⟨ob, u, _, h1, _, h2, _⟩ := keep b v eg
        rw [e] at h2
        rw [hplus_on eg h1]
        exact h2.symm
    · have eg := mn e fun ob z => (by unfold CellO at z; cases z)
      rw [hplus_off eg]
      exact un.tbls b ps ((hminus_off eg).trans e)
  | .error e, ⟨a, B, H', cls, d, ea, fly, hok, ub, na, os, bare, q⟩ =>
    have keep : ∀ c v, g c = some v → ∃ ob u, s.heap.get? c = some ob ∧ B.get? c = some ob ∧ H' c = none ∧ H c = some (CellO c ob) ∧ ob.data = .cell (some u) ∧ L2.RelV v u := fun c v eg => by
      obtain ⟨ob, u, h1, h2, h3, h4⟩ := k c v eg
      have nf : c ∉ frs outer := fun z => by
        rw [ns c z] at eg
        cases eg
      exact ⟨ob, u, h1, ub.keep c ob h1 (hminus_on eg) nf, ub.free c ob h1 (hminus_on eg), h2, h3, h4⟩
    have Gk : GOk g B H' := fun c v eg => by
      obtain ⟨ob, u, _, h1, h2, _, h3, h4⟩ := keep c v eg
      exact ⟨h2, ob, u, h1, h3, h4⟩
    have sm : Same g s.heap B := fun c v eg => by
      obtain ⟨ob, u, h0, h1, _⟩ := keep c v eg
      rw [h0, h1]
    have nb : B.get? a = none := fly.2.1
    refine ⟨a, B, Hplus g B H', cls, d, ea, fly, hok_plus Gk hok, ⟨fun b o e n hb => ?_, ub.slot, fun b o e n => ?_, ub.there, fun b xs e => ?_, fun b o xs e => ?_, fun b ps e => ?_⟩, ?_, os, bare, q _ Gk sm⟩
    · have eg : g b = none := by
        cases z : g b with
        | none => rfl
        | some v =>
          obtain ⟨_, _, _, _, _, h2, _⟩ := keep b v z
          rw [n] at h2
          cases h2
      exact ub.keep b o e ((hminus_off eg).trans n) hb
    · have eg : g b = none := by
        cases z : g b with
        | none => rfl
        | some v =>
          obtain ⟨_, _, _, _, _, h2, _⟩ := keep b v z
          rw [n] at h2
          cases h2
      rw [hplus_off eg]
      exact ub.free b o e ((hminus_off eg).trans n)
    · have eg := mn e fun ob z => (by unfold CellO at z; cases z)
      rw [hplus_off eg]
      exact ub.tups b xs ((hminus_off eg).trans e)
    · cases eg : g b with
      | none =>
        rw [hplus_off eg]
        exact ub.frzs b o xs ((hminus_off eg).trans e)
      | some v =>
        obtain ⟨ob, u, _, h1, _, h2, _⟩ := keep b v eg
        rw [e] at h2
        rw [hplus_on eg h1]
        exact h2.symm
    · have eg := mn e fun ob z => (by unfold CellO at z; cases z)
      rw [hplus_off eg]
      exact ub.tbls b ps ((hminus_off eg).trans e)
    · cases eg : g a with
      | none =>
        rw [hplus_off eg]
        exact na
      | some v =>
        obtain ⟨ob, u, _, h1, _⟩ := keep a v eg
        rw [nb] at h1
        cases h1
/-- the slots of captured cells in the body: behind the m parameters -/
def zC (m : Nat) (cl : List (Str × Addr)) (fr : List Str) : Addr → Option Nat := fun a => (fr.findIdx? fun y => decide (cl.lookup y = some a)).map fun i => m + i
theorem zC_at {m : Nat} {cl : List (Str × Addr)} {fr : List Str} {a : Addr} {j : Nat} (h : zC m cl fr a = some j) : ∃ i y, j = m + i ∧ fr[i]? = some y ∧ cl.lookup y = some a := by
  unfold zC at h
  obtain ⟨i, hi, rfl⟩ := Option.map_eq_some_iff.mp h
  obtain ⟨h1, h2, _⟩ := List.findIdx?_eq_some_iff_getElem.mp hi
  exact ⟨i, _, rfl, List.getElem?_eq_getElem h1, of_decide_eq_true h2⟩
def wC (Z : KS) (m : Nat) (cl : List (Str × Addr)) (fr : List Str) (w : WX) : WZ Z := ⟨w, zC m cl fr, (List.range fr.length).map fun i => m + i, fun c j h => by
  obtain ⟨i, y, rfl, hi, _⟩ := zC_at h
  exact List.mem_map.mpr ⟨i, List.mem_range.mpr (List.getElem?_eq_some_iff.mp hi).1, rfl⟩⟩
/-- the names' values at the body's begin -/
def startC (n : Nat) (xs caps : List Val) : Env := xs.map some ++ (caps.map some ++ List.replicate (n - xs.length - caps.length) none)
theorem startC_wd {K : KZ} {fr : Addr → Prop} {H : Hp} {ms : List Addr} {st : Store} {N : List Str} {vs ws : List V} {xs caps : List Val} (s : SR K fr H ms st) (r : VRs K fr H ms vs xs) (rc : VRs K fr H ms ws caps) : Wd K fr H ms (NdefX.startF N vs (ws.map some)) (startC N.length xs caps) st := by
  have hl := r.length
  have hc := rc.length
  have look : ∀ {vs : List V} {xs : List Val}, VRs K fr H ms vs xs → ∀ (i : Nat) (x : Val), (xs.map some)[i]? = some (some x) → ∃ v, (vs.map some)[i]? = some (some v) ∧ VR K fr H ms v x := fun {vs xs} r i x h => by
    rw [List.getElem?_map] at h
    cases e : xs[i]? with
    | none =>
      rw [e] at h
      cases h
    | some y =>
      rw [e] at h
      cases h
      obtain ⟨v, hv, rv⟩ := r.get e
      exact ⟨v, by rw [List.getElem?_map, hv]; rfl, rv⟩
  refine ⟨by unfold startC NdefX.startF; simp only [List.length_append, List.length_map, List.length_replicate]; omega, fun i x h => ?_, s⟩
  unfold startC at h
  unfold NdefX.startF
  by_cases h1 : i < xs.length
  · rw [List.getElem?_append_left (by rw [List.length_map]; exact h1)] at h
    rw [List.getElem?_append_left (by rw [List.length_map, hl]; exact h1)]
    exact look r i x h
  · rw [List.getElem?_append_right (by rw [List.length_map]; omega), List.length_map] at h
    rw [List.getElem?_append_right (by rw [List.length_map]; omega)]
    rw [show (vs.map some).length = xs.length by rw [List.length_map, hl]]
    by_cases h2 : i - xs.length < caps.length
    · rw [List.getElem?_append_left (by rw [List.length_map]; exact h2)] at h
      rw [List.getElem?_append_left (by rw [List.length_map, hc]; exact h2)]
      exact look rc _ x h
    · rw [List.getElem?_append_right (by rw [List.length_map]; omega), List.getElem?_replicate] at h
      split at h <;> cases h
/-- a made function as a function: k parameters, n names -/
def fnC (z : Bool) (k m n : Nat) (t : FS) : List Val → List Val → Store → R Val := fun caps xs st => bif xs.length == k && caps.length == m then retF z st (t (startC n xs caps) st) else .bad
abbrev ctxC (P : Program) (w : World) (K : PySem.W.Frag) (mg : Str → Option Value) (base : Heap) (N : List Str) (C : FCode) (cl : List (Str × Addr)) (c f : Addr) (A : Around) (outer : List PySem.Env) (s : Shared) (H : Hp) (E : XK) : Cx :=
  NdefX.ncx (L2.CX P w) P w K mg base N ⟨C.name, C.qual, C.params, [], C.scope, cl, c⟩ f A outer s H E
theorem slot_startF {N : List Str} {vs ws : List V} {m i : Nat} (hl : vs.length = m) (hi : i < ws.length) : NdefX.slotAt (NdefX.startF N vs (ws.map some)) (m + i) = ws[i]? := by
  unfold NdefX.slotAt NdefX.startF
  rw [List.getElem?_append_right (by rw [List.length_map]; omega), List.getElem?_append_left (by rw [List.length_map, List.length_map]; omega), List.length_map, List.getElem?_map]
  have e : m + i - vs.length = i := by omega
  rw [e, List.getElem?_eq_getElem hi]
  rfl
section
variable {N ps : List Str} {C : FCode} {cl : List (Str × Addr)} {ws vs : List V} {H : Hp} {s : Shared} {A : Around} {outer : List PySem.Env} {w0 : WX}
/-- what the captured cells hold, told by slots -/
theorem gamC_at (kn : KnAll (k0 K Z) H cl C.fr ws) (hl : vs.length = ps.length) {a : Addr} {v : V} (h : gamOf (wC Z ps.length cl C.fr w0) (NdefX.startF N vs (ws.map some)) a = some v) : ∃ (i : Nat) (y : Str), C.fr[i]? = some y ∧ cl.lookup y = some a ∧ ws[i]? = some v := by
  unfold gamOf at h
  cases hz : (wC Z ps.length cl C.fr w0).z a with
  | none =>
    rw [hz] at h
    cases h
  | some j =>
    rw [hz] at h
    obtain ⟨i, y, rfl, h1, h2⟩ := zC_at hz
    have hi : i < ws.length := by
      rw [kn.len]
      exact (List.getElem?_eq_some_iff.mp h1).1
    have h : NdefX.slotAt (NdefX.startF N vs (ws.map some)) (ps.length + i) = some v := h
    rw [slot_startF hl hi] at h
    exact ⟨i, y, h1, h2, h⟩
theorem gamC_on (kn : KnAll (k0 K Z) H cl C.fr ws) (hl : vs.length = ps.length) {a : Addr} {y : Str} (h : cl.lookup y = some a) : ∃ v, gamOf (wC Z ps.length cl C.fr w0) (NdefX.startF N vs (ws.map some)) a = some v := by
  have hy := kn.sub y a h
  cases hz : zC ps.length cl C.fr a with
  | none =>
    unfold zC at hz
    rw [Option.map_eq_none_iff, List.findIdx?_eq_none_iff] at hz
    have q := hz y hy
    rw [decide_eq_true h] at q
    cases q
  | some j =>
    obtain ⟨i, y', rfl, h1, h2⟩ := zC_at hz
    have hi : i < ws.length := by
      rw [kn.len]
      exact (List.getElem?_eq_some_iff.mp h1).1
    refine ⟨ws[i], ?_⟩
    unfold gamOf
    rw [show (wC Z ps.length cl C.fr w0).z a = some (ps.length + i) from hz]
    show NdefX.slotAt (NdefX.startF N vs (ws.map some)) (ps.length + i) = some ws[i]
    rw [slot_startF hl hi, List.getElem?_eq_getElem hi]
theorem gamC_kept (e0 : Env0 P w K mg base A outer s H) (kn : KnAll (k0 K Z) H cl C.fr ws) (hl : vs.length = ps.length) : Kept (gamOf (wC Z ps.length cl C.fr w0) (NdefX.startF N vs (ws.map some))) s.heap H := fun a v h => by
  obtain ⟨i, y, h1, h2, h3⟩ := gamC_at kn hl h
  obtain ⟨c, hc, hk⟩ := kn.at_ i y v h1 h3
  rw [h2] at hc
  cases hc
  rcases hk with hk | ⟨o, u, k1, k2, k3⟩
  · cases hk
  · exact ⟨o, u, (e0.hok a _ k1).1, k1, k2, k3⟩
theorem gamC_ns (e0 : Env0 P w K mg base A outer s H) (kn : KnAll (k0 K Z) H cl C.fr ws) (hl : vs.length = ps.length) {c : Addr} (hc : c ∈ frs outer) : gamOf (wC Z ps.length cl C.fr w0) (NdefX.startF N vs (ws.map some)) c = none := by
  cases h : gamOf (wC Z ps.length cl C.fr w0) (NdefX.startF N vs (ws.map some)) c with
  | none => rfl
  | some v =>
    obtain ⟨o, u, _, k1, _⟩ := gamC_kept e0 kn hl c v h
    rw [e0.frf c hc] at k1
    cases k1
theorem gamC_env (e0 : Env0 P w K mg base A outer s H) (kn : KnAll (k0 K Z) H cl C.fr ws) (hl : vs.length = ps.length) : Env0 P w K mg base A outer s (Hminus (gamOf (wC Z ps.length cl C.fr w0) (NdefX.startF N vs (ws.map some))) H) := by
  have none_ : ∀ {b : Addr}, H b = none → Hminus (gamOf (wC Z ps.length cl C.fr w0) (NdefX.startF N vs (ws.map some))) H b = none := fun {b} q => by
    unfold Hminus
    split
    · rfl
    · exact q
  exact ⟨e0.frames, e0.mod, fun b o e => ⟨(e0.bs b o e).1, none_ (e0.bs b o e).2⟩, e0.bsz, e0.funs, fun b hb => none_ (e0.frf b hb), hok_minus e0.hok fun c v eg => let ⟨ob, _, _, k1, _⟩ := gamC_kept e0 kn hl c v eg; ⟨ob, k1⟩, e0.bare⟩
theorem gamC_cells (e0 : Env0 P w K mg base A outer s H) (kn : KnAll (k0 K Z) H cl C.fr ws) (hl : vs.length = ps.length) : NdefX.CellsAt cl C.fr (ws.map some) s.heap (Hminus (gamOf (wC Z ps.length cl C.fr w0) (NdefX.startF N vs (ws.map some))) H) := by
  refine ⟨by rw [List.length_map, kn.len], fun y c e => ?_, kn.inj, fun i y e => ?_⟩
  · obtain ⟨v, hv⟩ := gamC_on (w0 := w0) (N := N) (Z := Z) kn hl e
    obtain ⟨o, u, k0, k1, k2, k3⟩ := gamC_kept e0 kn hl c v hv
    exact ⟨hminus_on hv, some u, o, k0, k2⟩
  · have hi : i < ws.length := by
      rw [kn.len]
      exact (List.getElem?_eq_some_iff.mp e).1
    obtain ⟨c, hc, hk⟩ := kn.at_ i y ws[i] e (List.getElem?_eq_getElem hi)
    refine ⟨c, hc, fun v ev => ?_⟩
    rw [List.getElem?_map, List.getElem?_eq_getElem hi] at ev
    have ev' : ws[i] = v := Option.some.inj (Option.some.inj ev)
    rcases hk with hk | ⟨o, u, k1, k2, k3⟩
    · cases hk
    · exact ⟨u, ev' ▸ k3, o, (e0.hok c _ k1).1, k2⟩
theorem gamC_z (S : NdefX.NScope N ps C.fr C.scope) (e0 : Env0 P w K mg base A outer s H) (kn : KnAll (k0 K Z) H cl C.fr ws) (hl : vs.length = ps.length) (f c : Addr) (H0 : Hp) (E : XK) : ZOk (ctxC P w K mg base N C cl c f A outer s H0 E) (wC Z ps.length cl C.fr w0) := by
  have tr : ∀ a j, (wC Z ps.length cl C.fr w0).z a = some j → ∃ ob, H a = some (CellO a ob) := fun a j h => by
    obtain ⟨i, y, _, h1, h2⟩ := zC_at h
    obtain ⟨v, hv⟩ := gamC_on (w0 := w0) (N := N) (Z := Z) (vs := vs) (ps := ps) kn hl h2
    obtain ⟨o, u, k0, k1, _⟩ := gamC_kept e0 kn hl a v hv
    exact ⟨o, k1⟩
  refine ⟨fun a j h => ?_, fun a j h => ?_, fun a j h q => ?_⟩
  · obtain ⟨i, y, rfl, h1, h2⟩ := zC_at h
    refine ⟨y, ?_, h2, .inr (S.frk y (List.mem_of_getElem? h1))⟩
    have q := congrArg (fun l : List Str => l[ps.length + i]?) S.pre
    have hi := (List.getElem?_eq_some_iff.mp h1).1
    rw [List.getElem?_take, if_pos (by omega), List.getElem?_append_right (by omega)] at q
    rw [show ps.length + i - ps.length = i by omega, h1] at q
    exact q
  · cases e : base.get? a with
    | none => exact e
    | some o =>
      obtain ⟨ob, q⟩ := tr a j h
      rw [(e0.bs a o e).2] at q
      cases q
  · obtain ⟨ob, q'⟩ := tr a j h
    rw [e0.frf a q] at q'
    cases q'
end
/-- THE RULE for a made function: a def -/
theorem cloS {C : FCode} {N ps : List Str} {lv k m n : Nat} {body : List Stmt} {t : FS} {z : Bool} (hb : C.body = .stmts body) (S : NdefX.NScope N ps C.fr C.scope) (hk : k = ps.length) (hm : m = C.fr.length) (hn : n = N.length) (hbind : ∀ (cl : List (Str × Addr)) (c : Addr) (doc pm ctv : Value) (us : List Value), us.length = ps.length → bindArgs (fnZ C cl c doc pm ctv) ⟨us, []⟩ = pure (ps.zip us))
    (walk : ∀ (cl : List (Str × Addr)) (c f : Addr) (A : Around) (outer : List PySem.Env) (s : Shared) (H : Hp) (E : XK), Room lv (ctxC P w K mg base N C cl c f A outer s H E).A → (ctxC P w K mg base N C cl c f A outer s H E).A.guards = some [] →
      ∀ W : WZ Z, Takes (ctxC P w K mg base N C cl c f A outer s H E) W → ZOk (ctxC P w K mg base N C cl c f A outer s H E) W → W.cs = (List.range C.fr.length).map (fun i => ps.length + i) → DSs (ctxC P w K mg base N C cl c f A outer s H E) W body t) : CloF Z P w K mg base (lv + 1) C (fnC z k m n t) := by
  subst hk hm hn
  refine ⟨fun A outer s H f c cl us vs ws Q E hr hg e0 hf hc kn r hsp => ?_⟩
  obtain ⟨fr, ms, st, caps, xs, sr, rc, rx, gg⟩ := hsp
  have nb := gg.nb
  have hlx : xs.length = ps.length ∧ caps.length = C.fr.length := by
    unfold fnC at nb
    cases e : (xs.length == ps.length && caps.length == C.fr.length) with
    | true =>
      have q := Bool.and_eq_true_iff.mp e
      exact ⟨beq_nat q.1, beq_nat q.2⟩
    | false =>
      rw [e] at nb
      exact absurd rfl nb
  have hl : vs.length = ps.length := rx.length.trans hlx.1
  have hlu : us.length = ps.length := r.length.symm.trans hl
  have kp := gamC_kept (w0 := fun cls d _ H' => ∀ h', GOk (gamOf (wC Z ps.length cl C.fr fun _ _ _ _ => False) (NdefX.startF N vs (ws.map some))) h' H' → Same (gamOf (wC Z ps.length cl C.fr fun _ _ _ _ => False) (NdefX.startF N vs (ws.map some))) s.heap h' → E cls d (Hplus (gamOf (wC Z ps.length cl C.fr fun _ _ _ _ => False) (NdefX.startF N vs (ws.map some))) h' H')) (N := N) e0 kn hl
  generalize hG : gamOf (wC Z ps.length cl C.fr fun _ _ _ _ => False) (NdefX.startF N vs (ws.map some)) = G0 at kp
  have gE : ∀ w0, gamOf (wC Z ps.length cl C.fr w0) (NdefX.startF N vs (ws.map some)) = G0 := fun w0 => by rw [← hG]; rfl
  have e1 := gamC_env (Z := Z) (w0 := fun _ _ _ _ => False) (N := N) e0 kn hl
  have cells := gamC_cells (Z := Z) (w0 := fun _ _ _ _ => False) (N := N) e0 kn hl
  rw [gE] at e1 cells kp
  have hf0 : Hminus G0 H f = some (FnZ f C cl c) := minus_keep kp hf fun ob => cellO_ext
  have hc0 : Hminus G0 H c = some (LamX.CodeO c C.qual) := minus_keep kp hc fun ob => cellO_ext
  refine codeAny_mono ?_ fun r s' z => cr_again e0.hok kp (fun c hc => by rw [← gE (fun _ _ _ _ => False)]; exact gamC_ns e0 kn hl hc) z
  obtain ⟨od, sl, doc, pm, ctv, ho⟩ := (e1.hok f _ hf0).1
  have lim : s.heap.NoLimit := e1.mod.nolimit.keeps fun b o e => (e1.bs b o e).1
  refine codeAny_call_function hr.depth ho rfl S.co S.gen hb (NdefX.codeO_at e1.hok hc0) ?_
  rw [hbind cl c doc pm ctv us hlu]
  refine wpAny_pure (wpAny_newFunctionEnv S.nocell (fun ⟨n, _⟩ hy => S.par n (List.of_mem_zip hy).1) (fun h₁ hns hsb => ⟨lim.fresh _ hsb, ?_⟩) S.kind)
  refine codeAny_func ?_
  have keep1 : ∀ b o, s.heap.get? b = some o → h₁.get? b = some o := fun b o e => hsb.extBut b o (Nat.ne_of_lt (Heap.lt_size e)) (Heap.get?_push_of_some _ e)
  have I := NdefX.inv_startN (CX := L2.CX P w) (F := ⟨C.name, C.qual, C.params, [], C.scope, cl, c⟩) (f := f) (E := fun c d H' => ∀ h', GOk G0 h' H' → Same G0 s.heap h' → E c d (Hplus G0 h' H')) (tk := s.toks + (ps.zip us).length) S hr.hd e1 hl r cells hns keep1
  have zk := gamC_z (w0 := fun cls d _ H' => ∀ h', GOk G0 h' H' → Same G0 s.heap h' → E cls d (Hplus G0 h' H')) S e0 kn hl f c (Hminus G0 H) (fun c d H' => ∀ h', GOk G0 h' H' → Same G0 s.heap h' → E c d (Hplus G0 h' H'))
  have wk := walk cl c f A outer s (Hminus G0 H) (fun c d H' => ∀ h', GOk G0 h' H' → Same G0 s.heap h' → E c d (Hplus G0 h' H')) (hr.deeper _) (guards_deeper _ hg) (wC Z ps.length cl C.fr fun cls d _ H' => ∀ h', GOk G0 h' H' → Same G0 s.heap h' → E cls d (Hplus G0 h' H')) (takes_of rfl rfl rfl rfl) zk rfl
  have sr0 : SR ((k0 K Z).gm G0) fr (Hminus G0 H) ms st := sr.minus (K := k0 K Z) kp
  have rx0 : VRs ((k0 K Z).gm G0) fr (Hminus G0 H) ms vs xs := VRs.minus (K := k0 K Z) kp rx
  have rc0 : VRs ((k0 K Z).gm G0) fr (Hminus G0 H) ms ws caps := VRs.minus (K := k0 K Z) kp rc
  have wd := startC_wd (N := N) sr0 rx0 rc0
  have fin : LS (kx (ctxC P w K mg base N C cl c f A outer s (Hminus G0 H) fun c d H' => ∀ h', GOk G0 h' H' → Same G0 s.heap h' → E c d (Hplus G0 h' H')) Z) (wC Z ps.length cl C.fr fun cls d _ H' => ∀ h', GOk G0 h' H' → Same G0 s.heap h' → E cls d (Hplus G0 h' H')) t { nx := fun _ H' => ∀ h', GOk G0 h' H' → Same G0 s.heap h' → Q .non (Hplus G0 h' H'), rt := fun v H' => ∀ h', GOk G0 h' H' → Same G0 s.heap h' → Q v (Hplus G0 h' H') } (NdefX.startF N vs (ws.map some)) (Hminus G0 H) := by
    have hK : (kx (ctxC P w K mg base N C cl c f A outer s (Hminus G0 H) fun c d H' => ∀ h', GOk G0 h' H' → Same G0 s.heap h' → E c d (Hplus G0 h' H')) Z).to (wC Z ps.length cl C.fr fun cls d _ H' => ∀ h', GOk G0 h' H' → Same G0 s.heap h' → E cls d (Hplus G0 h' H')) (NdefX.startF N vs (ws.map some)) = (k0 K Z).gm G0 := by
      show (⟨K, Z, gamOf _ _⟩ : KZ) = ⟨K, Z, G0⟩
      rw [gE]
    refine ⟨fr, ms, startC N.length xs caps, st, by rw [hK]; exact wd, ?_⟩
    rw [hK]
    have g' : G (k0 K Z) (fun c d _ H => E c d H) [] fr H ms (retF z st (t (startC N.length xs caps) st)) (PV (k0 K Z) Q) := by
      unfold fnC at gg
      rw [show (xs.length == ps.length && caps.length == C.fr.length) = true by simp [hlx]] at gg
      exact gg
    unfold retF at g'
    split at g'
    · next x st' he =>
      rw [he]
      cases z with
      | true => exact fun fr' H' ms' v e' s' r' h' Gk sm => ret_rt sr (QV.of g') (e'.again kp Gk sm s') (SR.plus (K := k0 K Z) Gk s') (VR.plus (K := k0 K Z) Gk r')
      | false => exact fun fr' H' ms' v e' s' r' h' Gk sm => QV.of g' _ _ _ _ (e'.again kp Gk sm s') (SR.plus (K := k0 K Z) Gk s') (VR.plus (K := k0 K Z) Gk r')
    · next ρ st' he =>
      rw [he]
      cases z with
      | true => exact fun fr' H' ms' σ' e' _ w' h' Gk sm => ret_rt (x := .non) (v := .non) (st := st') sr (QV.of g') (e'.again kp Gk sm w'.sr) (SR.plus (K := k0 K Z) Gk w'.sr) .non
      | false => exact fun fr' H' ms' σ' e' _ w' h' Gk sm => QV.of g' _ _ _ _ (e'.again kp Gk sm w'.sr) (SR.plus (K := k0 K Z) Gk w'.sr) .non
    · next x ρ st' he =>
      rw [he]
      have xr : ∀ {x : XV} {fr' : Addr → Prop} {H' : Hp} {ms' : List Addr} {d : Option Addr} {h' : Heap}, GOk G0 h' H' → XR ((k0 K Z).gm G0) fr' H' ms' d x → XR (k0 K Z) fr' (Hplus G0 h' H') ms' d x := fun {x fr' H' ms' d h'} Gk r => by
        unfold XR at r ⊢
        split at r
        · exact r
        · obtain ⟨dd, v, h1, h2, h3⟩ := r
          exact ⟨dd, v, h1, hplus_keep Gk h2, VR.plus (K := k0 K Z) Gk h3⟩
      cases z with
      | true => exact fun fr' H' ms' σ' d e' _ w' x' h' Gk sm => retX_at (K := k0 K Z) sr (x := x) (st := st') g' (e'.again kp Gk sm w'.sr) (SR.plus (K := k0 K Z) Gk w'.sr) (xr Gk x')
      | false => exact fun fr' H' ms' σ' d e' _ w' x' h' Gk sm => g' _ _ _ d (e'.again kp Gk sm w'.sr) (SR.plus (K := k0 K Z) Gk w'.sr) (xr Gk x')
    · exact g'.elim
  refine wpAny_mono (wk.run [] _ _ (Hminus G0 H) _ I fin) (fun fl s' hs => ?_) fun _ _ z => z
  match fl, hs with
  | .ret u, ⟨v, σ', H', J, rv, q⟩ => exact ⟨v, H', J.os, J.bare, J.base, J.hok, rv, q⟩
  | .next, ⟨σ', H', J, q⟩ => exact ⟨.non, H', J.os, J.bare, J.base, J.hok, rfl, q⟩
  | .brk, ⟨_, _, _, q⟩ => exact q.elim
  | .cont, ⟨_, _, _, q⟩ => exact q.elim
/-- THE RULE for a made function: a lambda -/
theorem cloE {C : FCode} {N ps : List Str} {lv k m n : Nat} {body : Expr} {te : FE} {z : Bool} (hb : C.body = .expr body) (S : NdefX.NScope N ps C.fr C.scope) (hk : k = ps.length) (hm : m = C.fr.length) (hn : n = N.length) (hbind : ∀ (cl : List (Str × Addr)) (c : Addr) (doc pm ctv : Value) (us : List Value), us.length = ps.length → bindArgs (fnZ C cl c doc pm ctv) ⟨us, []⟩ = pure (ps.zip us))
    (walk : ∀ (cl : List (Str × Addr)) (c f : Addr) (A : Around) (outer : List PySem.Env) (s : Shared) (H : Hp) (E : XK), Room lv (ctxC P w K mg base N C cl c f A outer s H E).A → (ctxC P w K mg base N C cl c f A outer s H E).A.guards = some [] →
      ∀ W : WZ Z, Takes (ctxC P w K mg base N C cl c f A outer s H E) W → ZOk (ctxC P w K mg base N C cl c f A outer s H E) W → W.cs = (List.range C.fr.length).map (fun i => ps.length + i) → DE (ctxC P w K mg base N C cl c f A outer s H E) W body te) : CloF Z P w K mg base (lv + 1) C (fnC z k m n (sRet te)) := by
  subst hk hm hn
  refine ⟨fun A outer s H f c cl us vs ws Q E hr hg e0 hf hc kn r hsp => ?_⟩
  obtain ⟨fr, ms, st, caps, xs, sr, rc, rx, gg⟩ := hsp
  have nb := gg.nb
  have hlx : xs.length = ps.length ∧ caps.length = C.fr.length := by
    unfold fnC at nb
    cases e : (xs.length == ps.length && caps.length == C.fr.length) with
    | true =>
      have q := Bool.and_eq_true_iff.mp e
      exact ⟨beq_nat q.1, beq_nat q.2⟩
    | false =>
      rw [e] at nb
      exact absurd rfl nb
  have hl : vs.length = ps.length := rx.length.trans hlx.1
  have hlu : us.length = ps.length := r.length.symm.trans hl
  have kp := gamC_kept (w0 := fun cls d _ H' => ∀ h', GOk (gamOf (wC Z ps.length cl C.fr fun _ _ _ _ => False) (NdefX.startF N vs (ws.map some))) h' H' → Same (gamOf (wC Z ps.length cl C.fr fun _ _ _ _ => False) (NdefX.startF N vs (ws.map some))) s.heap h' → E cls d (Hplus (gamOf (wC Z ps.length cl C.fr fun _ _ _ _ => False) (NdefX.startF N vs (ws.map some))) h' H')) (N := N) e0 kn hl
  generalize hG : gamOf (wC Z ps.length cl C.fr fun _ _ _ _ => False) (NdefX.startF N vs (ws.map some)) = G0 at kp
  have gE : ∀ w0, gamOf (wC Z ps.length cl C.fr w0) (NdefX.startF N vs (ws.map some)) = G0 := fun w0 => by rw [← hG]; rfl
  have e1 := gamC_env (Z := Z) (w0 := fun _ _ _ _ => False) (N := N) e0 kn hl
  have cells := gamC_cells (Z := Z) (w0 := fun _ _ _ _ => False) (N := N) e0 kn hl
  rw [gE] at e1 cells kp
  have hf0 : Hminus G0 H f = some (FnZ f C cl c) := minus_keep kp hf fun ob => cellO_ext
  have hc0 : Hminus G0 H c = some (LamX.CodeO c C.qual) := minus_keep kp hc fun ob => cellO_ext
  refine codeAny_mono ?_ fun r s' z => cr_again e0.hok kp (fun c hc => by rw [← gE (fun _ _ _ _ => False)]; exact gamC_ns e0 kn hl hc) z
  obtain ⟨od, sl, doc, pm, ctv, ho⟩ := (e1.hok f _ hf0).1
  have lim : s.heap.NoLimit := e1.mod.nolimit.keeps fun b o e => (e1.bs b o e).1
  refine PySem.W.kla_callFunE hr.depth ho rfl S.co S.gen hb (NdefX.codeO_at e1.hok hc0) ?_
  rw [hbind cl c doc pm ctv us hlu]
  refine wpAny_pure (wpAny_newFunctionEnv S.nocell (fun ⟨n, _⟩ hy => S.par n (List.of_mem_zip hy).1) (fun h₁ hns hsb => ⟨lim.fresh _ hsb, ?_⟩) S.kind)
  have keep1 : ∀ b o, s.heap.get? b = some o → h₁.get? b = some o := fun b o e => hsb.extBut b o (Nat.ne_of_lt (Heap.lt_size e)) (Heap.get?_push_of_some _ e)
  have I := NdefX.inv_startN (CX := L2.CX P w) (F := ⟨C.name, C.qual, C.params, [], C.scope, cl, c⟩) (f := f) (E := fun c d H' => ∀ h', GOk G0 h' H' → Same G0 s.heap h' → E c d (Hplus G0 h' H')) (tk := s.toks + (ps.zip us).length) S hr.hd e1 hl r cells hns keep1
  have zk := gamC_z (w0 := fun cls d _ H' => ∀ h', GOk G0 h' H' → Same G0 s.heap h' → E cls d (Hplus G0 h' H')) S e0 kn hl f c (Hminus G0 H) (fun c d H' => ∀ h', GOk G0 h' H' → Same G0 s.heap h' → E c d (Hplus G0 h' H'))
  have wk := walk cl c f A outer s (Hminus G0 H) (fun c d H' => ∀ h', GOk G0 h' H' → Same G0 s.heap h' → E c d (Hplus G0 h' H')) (hr.deeper _) (guards_deeper _ hg) (wC Z ps.length cl C.fr fun cls d _ H' => ∀ h', GOk G0 h' H' → Same G0 s.heap h' → E cls d (Hplus G0 h' H')) (takes_of rfl rfl rfl rfl) zk rfl
  have sr0 : SR ((k0 K Z).gm G0) fr (Hminus G0 H) ms st := sr.minus (K := k0 K Z) kp
  have rx0 : VRs ((k0 K Z).gm G0) fr (Hminus G0 H) ms vs xs := VRs.minus (K := k0 K Z) kp rx
  have rc0 : VRs ((k0 K Z).gm G0) fr (Hminus G0 H) ms ws caps := VRs.minus (K := k0 K Z) kp rc
  have wd := startC_wd (N := N) sr0 rx0 rc0
  have fin : LS (kx (ctxC P w K mg base N C cl c f A outer s (Hminus G0 H) fun c d H' => ∀ h', GOk G0 h' H' → Same G0 s.heap h' → E c d (Hplus G0 h' H')) Z) (wC Z ps.length cl C.fr fun cls d _ H' => ∀ h', GOk G0 h' H' → Same G0 s.heap h' → E cls d (Hplus G0 h' H')) (sRet te) { nx := fun _ H' => ∀ h', GOk G0 h' H' → Same G0 s.heap h' → Q .non (Hplus G0 h' H'), rt := fun v H' => ∀ h', GOk G0 h' H' → Same G0 s.heap h' → Q v (Hplus G0 h' H') } (NdefX.startF N vs (ws.map some)) (Hminus G0 H) := by
    have hK : (kx (ctxC P w K mg base N C cl c f A outer s (Hminus G0 H) fun c d H' => ∀ h', GOk G0 h' H' → Same G0 s.heap h' → E c d (Hplus G0 h' H')) Z).to (wC Z ps.length cl C.fr fun cls d _ H' => ∀ h', GOk G0 h' H' → Same G0 s.heap h' → E cls d (Hplus G0 h' H')) (NdefX.startF N vs (ws.map some)) = (k0 K Z).gm G0 := by
      show (⟨K, Z, gamOf _ _⟩ : KZ) = ⟨K, Z, G0⟩
      rw [gE]
    refine ⟨fr, ms, startC N.length xs caps, st, by rw [hK]; exact wd, ?_⟩
    rw [hK]
    have g' : G (k0 K Z) (fun c d _ H => E c d H) [] fr H ms (retF z st (sRet te (startC N.length xs caps) st)) (PV (k0 K Z) Q) := by
      unfold fnC at gg
      rw [show (xs.length == ps.length && caps.length == C.fr.length) = true by simp [hlx]] at gg
      exact gg
    unfold retF at g'
    split at g'
    · next x st' he =>
      rw [he]
      cases z with
      | true => exact fun fr' H' ms' v e' s' r' h' Gk sm => ret_rt sr (QV.of g') (e'.again kp Gk sm s') (SR.plus (K := k0 K Z) Gk s') (VR.plus (K := k0 K Z) Gk r')
      | false => exact fun fr' H' ms' v e' s' r' h' Gk sm => QV.of g' _ _ _ _ (e'.again kp Gk sm s') (SR.plus (K := k0 K Z) Gk s') (VR.plus (K := k0 K Z) Gk r')
    · next ρ st' he =>
      rw [he]
      cases z with
      | true => exact fun fr' H' ms' σ' e' _ w' h' Gk sm => ret_rt (x := .non) (v := .non) (st := st') sr (QV.of g') (e'.again kp Gk sm w'.sr) (SR.plus (K := k0 K Z) Gk w'.sr) .non
      | false => exact fun fr' H' ms' σ' e' _ w' h' Gk sm => QV.of g' _ _ _ _ (e'.again kp Gk sm w'.sr) (SR.plus (K := k0 K Z) Gk w'.sr) .non
    · next x ρ st' he =>
      rw [he]
      have xr : ∀ {x : XV} {fr' : Addr → Prop} {H' : Hp} {ms' : List Addr} {d : Option Addr} {h' : Heap}, GOk G0 h' H' → XR ((k0 K Z).gm G0) fr' H' ms' d x → XR (k0 K Z) fr' (Hplus G0 h' H') ms' d x := fun {x fr' H' ms' d h'} Gk r => by
        unfold XR at r ⊢
        split at r
        · exact r
        · obtain ⟨dd, v, h1, h2, h3⟩ := r
          exact ⟨dd, v, h1, hplus_keep Gk h2, VR.plus (K := k0 K Z) Gk h3⟩
      cases z with
      | true => exact fun fr' H' ms' σ' d e' _ w' x' h' Gk sm => retX_at (K := k0 K Z) sr (x := x) (st := st') g' (e'.again kp Gk sm w'.sr) (SR.plus (K := k0 K Z) Gk w'.sr) (xr Gk x')
      | false => exact fun fr' H' ms' σ' d e' _ w' x' h' Gk sm => g' _ _ _ d (e'.again kp Gk sm w'.sr) (SR.plus (K := k0 K Z) Gk w'.sr) (xr Gk x')
    · exact g'.elim
  refine PySem.W.kla_codeExpr (wpAny_mono (wk.run [] _ _ (Hminus G0 H) (fun v H' => ∀ h', GOk G0 h' H' → Same G0 s.heap h' → Q v (Hplus G0 h' H')) I ?_) (fun u s' hs => ?_) fun _ _ z => z)
  · obtain ⟨fr, ms, ρ, st, w1, g1⟩ := fin
    exact ⟨fr, ms, ρ, st, w1, (g1.to w1).mono fun x st1 fr1 H1 ms1 _ _ ⟨e1, s1, w1, g1⟩ v rv => g1.rt s1 rv⟩
  · obtain ⟨v, H', J, rv, q⟩ := hs
    exact ⟨v, H', J.os, J.bare, J.base, J.hok, rv, q⟩
end
end FL
namespace FL
open PySem PySem.Spec PyProof.Rows L2
/-! ### a made function called -/
theorem g_plus {K : KZ} {g : Addr → Option V} {h : Heap} {fr : Addr → Prop} {H : Hp} {ms : List Addr} {st : Store} {r : R Val} {Q : VK} {E : XK} (Gk : GOk g h H) (s : SR (K.gm g) fr H ms st) (q : G (K.gm g) (fun c d _ H => E c d H) [] fr H ms r (PV (K.gm g) Q)) :
    G (K.gm fun _ => none) (fun c d _ H' => E c d (Hminus g H')) [] fr (Hplus g h H) ms r (PV (K.gm fun _ => none) (fun v H' => Q v (Hminus g H'))) := by
  cases r with
  | ok a st' =>
    intro fr' H' ms' e' s' v rv
    have k := kept_ext Gk (s.plus Gk) e'
    exact q fr' (Hminus g H') ms' (e'.minus Gk k) (s'.minus k) v (VR.minus k rv)
  | exc x st' =>
    intro fr' H' ms' d e' s' x'
    have k := kept_ext Gk (s.plus Gk) e'
    refine q fr' (Hminus g H') ms' d (e'.minus Gk k) (s'.minus k) ?_
    unfold XR at x' ⊢
    split at x'
    · exact x'
    · obtain ⟨dd, v, h1, h2, h3⟩ := x'
      exact ⟨dd, v, h1, minus_keep k h2 fun ob z => (by unfold CellO at z; cases z), VR.minus k h3⟩
  | bad => exact q
section
variable {X : Cx} {Z : KS} {W : WZ Z} {lv : Nat} {D : Disp} {pins : List (Addr × Obj)} {σ : L2.St} {H : Hp} {s : Shared} {Q : VK}
theorem vr_fn {K : KZ} {fr : Addr → Prop} {ms : List Addr} {v : V} {id : Nat} {caps : List Val} (h : VR K fr H ms v (.fn id caps)) : ∃ a, v = .ref a := by
  cases h with
  | fn => exact ⟨_, rfl⟩
theorem call_c (hD : DispF Z X.prog X.w X.K X.mg X.base lv D) (hr : Room lv X.A) (hg : X.A.guards = some []) (tk : Takes X W) (hz : ZOk X W) (I : Inv X pins σ H s) {fr : Addr → Prop} {ms : List Addr} {st : Store} {f : Addr} {id : Nat} {caps xs : List Val} {us : List Value} {vs : List V} (rf : VR ((kx X Z).to W σ) fr H ms (.ref f) (.fn id caps)) (sr : SR ((kx X Z).to W σ) fr H ms st)
    (rx : VRs ((kx X Z).to W σ) fr H ms vs xs) (r : Vals vs us) (g : G ((kx X Z).to W σ) (fun c d _ H => W c d σ H) [] fr H ms (D id caps xs st) (PV ((kx X Z).to W σ) Q)) : wpAny (model X.prog X.w) X.A (PySem.call (.ref f) us) (EP X pins σ Q) X.xe s := by
  have Gk := gok_of I hz
  cases rf with
  | fn h1 hc h2 kn rc =>
    refine wpAny_call (codeAny_mono ((hD _ _ hc).go X.A X.stack s (Hplus (gamOf W σ) s.heap H) f _ _ us vs _ _ _ hr hg (env_plus I hz) (hplus_keep Gk h1) (hplus_keep Gk h2) (kn_plus (K := kx X Z) Gk kn) r ⟨fr, ms, st, caps, xs, SR.plus (K := kx X Z) Gk sr, VRs.plus (K := kx X Z) Gk rc, VRs.plus (K := kx X Z) Gk rx, g_plus (K := kx X Z) Gk sr g⟩) fun z s' hz' => ?_)
    have hz2 := cr_minus (Q := Q) (E := fun c d H => W c d σ H) Gk (fun c hc => gam_nst I hz hc) hz'
    match z, hz2 with
    | .error e, hz => exact tk e s' (XE.of_call I (fun _ _ _ h => h) hz)
    | .ok (.ret u), hz => exact I.after hz
theorem fnAtZ (I : Inv X pins σ H s) {K : KZ} {fr : Addr → Prop} {ms : List Addr} {f : Addr} {id : Nat} {caps : List Val} (rf : VR K fr H ms (.ref f) (.fn id caps)) : PySem.W.FnAt f s.heap := by
  cases rf with
  | fn h1 _ _ _ _ =>
    obtain ⟨od, sl, doc, pm, ctv, ho⟩ := (I.hok f _ h1).1
    exact ⟨_, od, _, sl, ho⟩
end
/-- a value is called -/
def eCallV (D : Disp) (tf : FE) (ta : FA) : FE := fun ρ st => (tf ρ st).bind fun f st1 => match f with
  | .fn id caps => (ta ρ st1).bind fun xs st2 => D id caps xs st2
  | _ => .bad
section
variable {X : Cx} {Z : KS} {W : WZ Z} {lv : Nat} {D : Disp} {x : Str} {p pos : Pos} {e : Expr} {es : List Expr} {t : FA} {tf : FE}
/-- f(e, ..), f a name that holds a made function -/
theorem d_callV {i : Nat} (hD : DispF Z X.prog X.w X.K X.mg X.base lv D) (hr : Room lv X.A) (hg : X.A.guards = some []) (tk : Takes X W) (ha : DA X W (e :: es) t) (hN : X.N[i]? = some x := by rfl) (hv : Vis X.env.scope x := by first | exact Or.inl rfl | exact Or.inr (Or.inl rfl) | exact Or.inr (Or.inr rfl))
    (hd : (x == ("__debug__" : Str)) = false := by decide) (hcd : (x == ("__classdict__" : Str)) = false := by decide) (he : starEach (e :: es) X.env = (false, eval e X.env) :: starEach es X.env := by rfl) (hpl : (backTo pos (starEach es X.env)).any (·.1) = false := by rfl)
    (hz : ZOk X W := by first | assumption | exact ZOk.none (by assumption)) : DE X W (.Call (.Name x p) (e :: es) [] pos) (eCallV D (eV i) t) := by
  constructor
  intro pins s σ H Q I ⟨fr, ms, ρ, st, w, g⟩
  unfold eCallV eV at g
  cases hx : ρ[i]? with
  | none =>
    rw [hx] at g
    exact g.elim
  | some o =>
    cases o with
    | none =>
      rw [hx] at g
      exact g.elim
    | some y =>
      rw [hx] at g
      obtain ⟨v, hσ, rv⟩ := w.env i y hx
      cases y with
      | fn id caps =>
        obtain ⟨f, rfl⟩ := vr_fn rv
        have g : G ((kx X Z).to W σ) W.w σ fr H ms ((t ρ st).bind fun xs st2 => D id caps xs st2) (PV ((kx X Z).to W σ) Q) := g
        refine wpAny_Call_Name_kw (thn ((pe_var (pos := p) hN hv hd hcd).run pins s σ H (fun v H1 => v = .ref f ∧ H1 = H) I ⟨.ref f, hσ, rfl, rfl⟩) fun u s1 ⟨v, H1, I1, r1, q1⟩ => ?_)
        obtain ⟨rfl, rfl⟩ := q1
        cases r1
        refine PySem.W.callWith_F (first := []) (fnAtZ I1 rv) (thn (ha.run pos pins s1 σ H1 (fun vs H2 => ∃ fr2 ms2 st2 xs, VR ((kx X Z).to W σ) fr2 H2 ms2 (.ref f) (.fn id caps) ∧ SR ((kx X Z).to W σ) fr2 H2 ms2 st2 ∧ VRs ((kx X Z).to W σ) fr2 H2 ms2 vs xs ∧ G ((kx X Z).to W σ) (fun c d _ H => W c d σ H) [] fr2 H2 ms2 (D id caps xs st2) (PV ((kx X Z).to W σ) Q)) I1
          ⟨fr, ms, ρ, st, w, g.bind.mono fun xs st2 fr2 H2 ms2 _ _ ⟨e2, s2, g2⟩ vs rs => ⟨fr2, ms2, st2, xs, rv.ex w.sr e2, s2, rs, G.call g2⟩⟩) fun us s2 ⟨vs, H2, I2, r, fr2, ms2, st2, xs, rf, sr, rx, g2⟩ => ⟨fnAtZ I2 rf, ?_⟩) he hpl
        exact call_c hD hr hg tk hz I2 rf sr rx r g2
      | _ => exact g.elim
end
end FL
namespace FL
open PySem PySem.Spec PyProof.Rows L2
/-! ### a def whose own cells are captured -/
section
variable {K : KZ} {g g' : Addr → Option V} {fr : Addr → Prop} {H : Hp} {ms : List Addr} {st : Store}
def GLe (g g' : Addr → Option V) : Prop := ∀ c v, g c = some v → g' c = some v
theorem kn_le (h : GLe g g') {cl : List (Str × Addr)} {fs : List Str} {vs : List V} (k : KnAll (K.gm g) H cl fs vs) : KnAll (K.gm g') H cl fs vs :=
  ⟨k.len, fun i y v a b => let ⟨c, hc, hk⟩ := k.at_ i y v a b; ⟨c, hc, hk.imp (h c v) id⟩, k.inj, k.sub⟩
mutual
theorem VR.le (h : GLe g g') : ∀ {v : V} {x : Val}, VR (K.gm g) fr H ms v x → VR (K.gm g') fr H ms v x
  | _, _, .non => .non
  | _, _, .bl b => .bl b
  | _, _, .int i => .int i
  | _, _, .str x => .str x
  | _, _, .tup a r => .tup a (VRs.le h r)
  | _, _, .ro a f r => .ro a f (VRs.le h r)
  | _, _, .wr a r => .wr a (VRs.le h r)
  | _, _, .rd a l f r => .rd a l f (VRs.le h r)
  | _, _, .ref a => .ref a
  | _, _, .ty n => .ty n
  | _, _, .gl a => .gl a
  | _, _, .ex0 a => .ex0 a
  | _, _, .ex1 a d r => .ex1 a d (VR.le h r)
  | _, _, .fn a i c k r => .fn a i c (kn_le h k) (VRs.le h r)
theorem VRs.le (h : GLe g g') : ∀ {v : List V} {x : List Val}, VRs (K.gm g) fr H ms v x → VRs (K.gm g') fr H ms v x
  | _, _, .nil => .nil
  | _, _, .cons a b => .cons (VR.le h a) (VRs.le h b)
end
theorem VRk.le {κ : Type} (h : GLe g g') : ∀ {vs : List (κ × V)} {xs : List (κ × Val)}, VRk (K.gm g) fr H ms vs xs → VRk (K.gm g') fr H ms vs xs
  | _, _, .nil => .nil
  | _, _, .cons a b => .cons (a.le h) (VRk.le h b)
theorem CR.le (h : GLe g g') {p : Addr} : ∀ {c : Cell}, CR (K.gm g) fr H ms p c → CR (K.gm g') fr H ms p c
  | .lst _, ⟨ws, a, b⟩ => ⟨ws, a, b.le h⟩
  | .dic _, ⟨ws, a, b⟩ => ⟨ws, a, b.le h⟩
  | .dit _, ⟨ws, a, b⟩ => ⟨ws, a, b.le h⟩
  | .ins _ _, ⟨dx, ws, a, d, b⟩ => ⟨dx, ws, a, d, b.le h⟩
theorem SR.le (h : GLe g g') (s : SR (K.gm g) fr H ms st) : SR (K.gm g') fr H ms st := ⟨s.len, s.nd, fun i a c x y => (s.cell i a c x y).le h, s.nfr, s.lo, s.tab⟩
theorem Wd.le {σ : L2.St} {ρ : Env} (h : GLe g g') (w : Wd (K.gm g) fr H ms σ ρ st) : Wd (K.gm g') fr H ms σ ρ st := ⟨w.len, fun i x e => let ⟨v, a, b⟩ := w.env i x e; ⟨v, a, b.le h⟩, w.sr.le h⟩
end
/-- the captured slots grow -/
def ZLe {Z : KS} (W W' : WZ Z) : Prop := ∀ c i, W.z c = some i → W'.z c = some i
theorem ZLe.gam {Z : KS} {W W' : WZ Z} (h : ZLe W W') (σ : L2.St) : GLe (gamOf W σ) (gamOf W' σ) := fun c v e => by
  unfold gamOf at e ⊢
  cases hi : W.z c with
  | none =>
    rw [hi] at e
    cases e
  | some i =>
    rw [hi] at e
    rw [h c i hi]
    exact e
/-! ### a body, its slots told at the end -/
structure EndB where
  nx : L2.St → Hp → Prop
  rt : L2.St → V → Hp → Prop
def BP (X : Cx) (pins : List (Addr × Obj)) (D : EndB) (f : Flow) (s' : Shared) : Prop := match f with
  | .next => ∃ σ' H', Inv X pins σ' H' s' ∧ D.nx σ' H'
  | .ret u => ∃ v σ' H', Inv X pins σ' H' s' ∧ L2.RelV v u ∧ D.rt σ' v H'
  | _ => False
structure PB (X : Cx) (b : List Stmt) (t : EndB → L2.St → Hp → Prop) : Prop where
  run : ∀ (pins : List (Addr × Obj)) (s : Shared) (σ : L2.St) (H : Hp) (D : EndB), Inv X pins σ H s → t D σ H → wpAny (model X.prog X.w) X.A (execs b X.env) (BP X pins D) X.xe s
/-- what holds of a body's result, by the last captured slots -/
def GB (K : KZ) {Z : KS} (W1 : WZ Z) (fr : Addr → Prop) (H : Hp) (ms : List Addr) (r : S) (D : EndB) : Prop := match r with
  | .nx ρ st => ∀ fr' H' ms' σ', Ext ms.length fr H ms fr' H' ms' → SR (K.to W1 σ') fr' H' ms' st → D.nx σ' H'
  | .rt x st => ∀ fr' H' ms' σ' v, Ext ms.length fr H ms fr' H' ms' → SR (K.to W1 σ') fr' H' ms' st → VR (K.to W1 σ') fr' H' ms' v x → D.rt σ' v H'
  | .ex x ρ st => ∀ fr' H' ms' σ' d, Ext ms.length fr H ms fr' H' ms' → SR (K.to W1 σ') fr' H' ms' st → XR (K.to W1 σ') fr' H' ms' d x → W1 (.ref (cA K x.1)) d σ' H'
  | _ => False
def LB (K : KZ) {Z : KS} (W1 W : WZ Z) (t : FS) : EndB → L2.St → Hp → Prop := fun D σ H => ∃ fr ms ρ st, Wd (K.to W σ) fr H ms σ ρ st ∧ GB K W1 fr H ms (t ρ st) D
abbrev DB (X : Cx) {Z : KS} (W1 W : WZ Z) (b : List Stmt) (t : FS) : Prop := PB X b (LB (kx X Z) W1 W t)
section
variable {K : KZ} {Z : KS} {W1 W : WZ Z} {σ : L2.St} {fr fr1 : Addr → Prop} {H H1 : Hp} {ms ms1 : List Addr} {st : Store} {D : EndB}
theorem GB.at {r : S} (g : GB K W1 fr H ms r D) (e : Ext ms.length fr H ms fr1 H1 ms1) : GB K W1 fr1 H1 ms1 r D := by
  cases r with
  | nx ρ st => exact fun fr' H' ms' σ' e' s => g _ _ _ _ (e.then e') s
  | rt x st => exact fun fr' H' ms' σ' v e' s => g _ _ _ _ _ (e.then e') s
  | bk ρ st => exact g
  | ct ρ st => exact g
  | ex x ρ st => exact fun fr' H' ms' σ' d e' s => g _ _ _ _ d (e.then e') s
  | bad => exact g
theorem xr_le {K : KZ} {g g' : Addr → Option V} {fr : Addr → Prop} {H : Hp} {ms : List Addr} {d : Option Addr} {x : XV} (h : GLe g g') (r : XR (K.gm g) fr H ms d x) : XR (K.gm g') fr H ms d x := by
  unfold XR at r ⊢
  split at r
  · exact r
  · obtain ⟨dd, v, h1, h2, h3⟩ := r
    exact ⟨dd, v, h1, h2, VR.le h h3⟩
end
/-- a result that is no return -/
def S.noRt (r : S) : S := match r with
  | .rt _ _ => .bad
  | r => r
def sNoRt (t : FS) : FS := fun ρ st => (t ρ st).noRt
section
variable {X : Cx} {Z : KS} {W1 W W' : WZ Z} {s : Stmt} {rest b : List Stmt} {t u : FS} {e : Expr} {te : FE} {pos : Pos}
theorem none_gam (h0 : W.z = fun _ => none) (σ : L2.St) (g : Addr → Option V) : GLe (gamOf W σ) g := fun c v e => by
  rw [gamOf_none h0] at e
  cases e
/-- a statement ahead, nothing captured as yet -/
theorem b_cons0 (hw : W.w = W1.w) (h0 : W.z = fun _ => none) (h1 : DS X W s t) (h2 : DB X W1 W rest u) : DB X W1 W (s :: rest) (sSeq t u) := by
  constructor
  intro pins sh σ H D I ⟨fr, ms, ρ, st, w, g⟩
  refine wpAny_execs_cons (thn (h1.run pins sh σ H { nx := LB (kx X Z) W1 W u D, rt := fun v H' => ∀ σ', D.rt σ' v H' } I ⟨fr, ms, ρ, st, w, ?_⟩) fun f s1 q => ?_)
  · unfold sSeq at g
    cases hr : t ρ st with
    | nx ρ' st' =>
      rw [hr] at g
      exact fun fr' H' ms' σ' e' m w' => ⟨fr', ms', ρ', st', by rw [KZ.to_to m]; exact w', GB.at g e'⟩
    | rt x st' =>
      rw [hr] at g
      exact fun fr' H' ms' v e' s' r' σ' => g fr' H' ms' σ' v e' (SR.le (K := kx X Z) (none_gam h0 σ _) s') (VR.le (K := kx X Z) (none_gam h0 σ _) r')
    | bk ρ' st' =>
      rw [hr] at g
      exact g.elim
    | ct ρ' st' =>
      rw [hr] at g
      exact g.elim
    | ex x ρ' st' =>
      rw [hr] at g
      intro fr' H' ms' σ' d e' m w' x'
      rw [hw]
      exact g fr' H' ms' σ' d e' (SR.le (K := kx X Z) (none_gam h0 σ _) w'.sr) (xr_le (K := kx X Z) (none_gam h0 σ _) x')
    | bad =>
      rw [hr] at g
      exact g.elim
  · cases f with
    | next =>
      obtain ⟨σ', H', I', q⟩ := q
      exact h2.run pins s1 σ' H' D I' q
    | ret u =>
      obtain ⟨v, σ', H', I', r, q⟩ := q
      exact ⟨v, σ', H', I', r, q σ'⟩
    | brk =>
      obtain ⟨_, _, _, q⟩ := q
      exact q.elim
    | cont =>
      obtain ⟨_, _, _, q⟩ := q
      exact q.elim
/-- a statement ahead that hands nothing back -/
theorem b_cons (hw : W.w = W1.w) (hle : ZLe W W1) (h1 : DS X W s t) (h2 : DB X W1 W rest u) : DB X W1 W (s :: rest) (sSeq (sNoRt t) u) := by
  constructor
  intro pins sh σ H D I ⟨fr, ms, ρ, st, w, g⟩
  refine wpAny_execs_cons (thn (h1.run pins sh σ H { nx := LB (kx X Z) W1 W u D, rt := fun v H' => False } I ⟨fr, ms, ρ, st, w, ?_⟩) fun f s1 q => ?_)
  · unfold sSeq sNoRt at g
    cases hr : t ρ st with
    | nx ρ' st' =>
      rw [hr] at g
      exact fun fr' H' ms' σ' e' m w' => ⟨fr', ms', ρ', st', by rw [KZ.to_to m]; exact w', GB.at g e'⟩
    | rt x st' =>
      rw [hr] at g
      exact g.elim
    | bk ρ' st' =>
      rw [hr] at g
      exact g.elim
    | ct ρ' st' =>
      rw [hr] at g
      exact g.elim
    | ex x ρ' st' =>
      rw [hr] at g
      intro fr' H' ms' σ' d e' m w' x'
      rw [hw]
      rw [← KZ.to_to (K := kx X Z) m] at w' x'
      exact g fr' H' ms' σ' d e' (SR.le (K := kx X Z) (hle.gam σ') w'.sr) (xr_le (K := kx X Z) (hle.gam σ') x')
    | bad =>
      rw [hr] at g
      exact g.elim
  · cases f with
    | next =>
      obtain ⟨σ', H', I', q⟩ := q
      exact h2.run pins s1 σ' H' D I' q
    | ret u =>
      obtain ⟨v, σ', H', I', r, q⟩ := q
      exact q.elim
    | brk =>
      obtain ⟨_, _, _, q⟩ := q
      exact q.elim
    | cont =>
      obtain ⟨_, _, _, q⟩ := q
      exact q.elim
/-- more is captured from here on -/
theorem b_switch (hle : ZLe W W') (h : DB X W1 W' b t) : DB X W1 W b t := by
  constructor
  intro pins sh σ H D I ⟨fr, ms, ρ, st, w, g⟩
  exact h.run pins sh σ H D I ⟨fr, ms, ρ, st, Wd.le (K := kx X Z) (hle.gam σ) w, g⟩
theorem b_ret (hw : W.w = W1.w) (hle : ZLe W W1) (he : DE X W e te) : DB X W1 W [.Return (some e) pos] (sRet te) := by
  constructor
  intro pins sh σ H D I ⟨fr, ms, ρ, st, w, g⟩
  refine wpAny_execs_cons (wpAny_Return_some (thn (he.run pins sh σ H (fun v H' => D.rt σ v H') I ⟨fr, ms, ρ, st, w, ?_⟩) fun u s1 ⟨v, H1, I1, r1, q1⟩ => ⟨v, σ, H1, I1, r1, q1⟩))
  unfold sRet at g
  cases hr : te ρ st with
  | ok x st' =>
    rw [hr] at g
    exact fun fr' H' ms' e' s' v r' => g fr' H' ms' σ v e' (SR.le (K := kx X Z) (hle.gam σ) s') (VR.le (K := kx X Z) (hle.gam σ) r')
  | exc x st' =>
    rw [hr] at g
    intro fr' H' ms' d e' s' x'
    rw [hw]
    exact g fr' H' ms' σ d e' (SR.le (K := kx X Z) (hle.gam σ) s') (xr_le (K := kx X Z) (hle.gam σ) x')
  | bad =>
    rw [hr] at g
    exact g.elim
theorem b_nil (hle : ZLe W W1) : DB X W1 W [] sNext := by
  constructor
  intro pins sh σ H D I ⟨fr, ms, ρ, st, w, g⟩
  exact wpAny_execs_nil ⟨σ, H, I, g fr H ms σ (Ext.refl _ _ _ _) (SR.le (K := kx X Z) (hle.gam σ) w.sr)⟩
end
end FL
namespace FL
open PySem PySem.Spec PyProof.Rows L2
/-! ### the call of a def whose own cells are captured -/
section
variable {X : Cx} {Z : KS} {W : WZ Z} {E : XK}
/-- an exception leaves the def: its captured cells are told from then on -/
theorem takesZ (hs : X.stack = X.env :: X.outer) (hf : X.env.frame = some X.env.locals) (hex : X.ex = []) (hz : ZOk X W) (hnew : ∀ c i, W.z c = some i → X.s_0.heap.objs.size ≤ c) {E₁ : Value → Shared → Prop}
    (hx : X.xe = fun e s' => wpAny (model X.prog X.w) X.A (leaving X.env e) (fun _ s'' => L2.CX X.prog X.w X.outer X.H_0 X.s_0 E e s'') E₁ s') : Takes X (fun cls d σ H => ∀ h', GOk (gamOf W σ) h' H → E cls d (Hplus (gamOf W σ) h' H)) := fun u s' x => by
  rw [hx]
  obtain ⟨a, B, sI, pins, σ, H, cls, d, rfl, I, nb, up, sky, na, os, ag, wish⟩ := x
  have hfr : X.A.frames = some (X.env :: X.outer) := by rw [I.ok.frames, hs]
  have apart : ∀ b o, X.s_0.heap.get? b = some o → b ∉ X.fs → b ∉ frs X.stack := fun b o e hb hm => by
    rcases List.mem_cons.mp (I.stkSub b hm) with z | z
    · have l1 := Heap.lt_size e
      have l2 := I.ok.above
      rw [z] at l1
      exact absurd (Nat.lt_of_lt_of_le l1 l2) (Nat.lt_irrefl _)
    · exact hb z
  have noEx : ∀ b, b ∉ X.ex := fun b hb => by rw [hex] at hb; cases hb
  have old : ∀ b o, X.s_0.heap.get? b = some o → gamOf W σ b = none := fun b o e => by
    cases eg : gamOf W σ b with
    | none => rfl
    | some v =>
      obtain ⟨i, hi⟩ := gam_z eg
      have l1 := Heap.lt_size e
      have l2 := hnew b i hi
      exact absurd (Nat.lt_of_lt_of_le l1 l2) (Nat.lt_irrefl _)
  have G0 := gok_of I hz
  have GB : GOk (gamOf W σ) B H := fun c v eg => by
    obtain ⟨n, ob, u, h1, h2, h3⟩ := G0 c v eg
    have nst : c ∉ frs X.stack := fun z => by
      rw [gam_nst I hz z] at eg
      cases eg
    exact ⟨n, ob, u, nb c ob h1 nst, h2, h3⟩
  have hB0 : B.get? a = none := by
    rcases sky with ⟨hB, hn, _⟩ | fl | hd
    · exact hn
    · exact fl.2.1
    · exact hd.2.1
  have ga : gamOf W σ a = none := by
    cases eg : gamOf W σ a with
    | none => rfl
    | some v =>
      obtain ⟨_, ob, u, h1, _⟩ := GB a v eg
      rw [hB0] at h1
      cases h1
  have okB := hok_plus GB (I.inGround nb)
  have fin : ∀ h', HandSPX.FlyingZ B X.outer a (Zc cls d) h' → s'.heap.UpToSlots h' → L2.CX X.prog X.w X.outer X.H_0 X.s_0 E (.ref a) { s' with heap := h' } := fun h' fl up' => by
    refine ⟨a, B, Hplus (gamOf W σ) B H, cls, d, rfl, fl, okB, ⟨fun b o e n hb => nb b o (I.base.keep b o e n hb (noEx b)) (apart b o e hb), fun b o e hb => ?_, fun b o e n => ?_, fun b o e hb => ?_, fun b xs e => ?_, fun b o xs e => ?_, fun b ps e => ?_⟩, ?_, os.trans I.os, ag, wish B GB⟩
    · obtain ⟨_, o0, e0, hnf⟩ := I.ok.funs.mem hb
      rw [e] at e0
      cases e0
      obtain ⟨sl, e1⟩ := I.base.slot b o e (I.ok.frf b hb) hb (noEx b)
      obtain ⟨sl2, e2⟩ := up b _ e1 hnf
      obtain ⟨sl3, e3⟩ := up' b _ e2 hnf
      exact ⟨sl3, e3⟩
    · rw [hplus_off (old b o e)]
      exact I.base.free b o e n (noEx b)
    · obtain ⟨o', e1⟩ := I.base.there b o e (noEx b)
      exact ⟨o', nb b o' e1 (apart b o e hb)⟩
    · exact hplus_keep GB (I.base.tups b xs e)
    · exact hplus_keep GB (I.base.frzs b o xs e)
    · obtain ⟨more, q⟩ := I.base.tbls b ps e
      exact ⟨more, hplus_keep GB q⟩
    · rw [hplus_off ga]
      exact na
  rw [hs] at sky
  rcases sky with ⟨hB, hn, hl, oe, vs, he, hzz, hd, h1⟩ | fl | hd
  · exact HandSPX.leaving_firstZ Zc.steady hfr hl hf he hB hn hd h1 hzz fin
  · exact HandSPX.leaves_onZ Zc.steady hfr hf fl fin
  · exact HandSPX.leaves_heldZ hf hd fin
end
/-- the cells of the slots cs -/
def zF (N : List Str) (cells : List (Str × Addr)) (cs : List Nat) : Addr → Option Nat := fun a => cs.find? fun j => match N[j]? with
  | some y => decide (cells.lookup y = some a)
  | none => false
theorem zF_at {N : List Str} {cells : List (Str × Addr)} {cs : List Nat} {a : Addr} {j : Nat} (h : zF N cells cs a = some j) : j ∈ cs ∧ ∃ y, N[j]? = some y ∧ cells.lookup y = some a := by
  have h1 := List.mem_of_find?_eq_some h
  have h2 := List.find?_some h
  refine ⟨h1, ?_⟩
  split at h2
  · next y hy => exact ⟨y, hy, of_decide_eq_true h2⟩
  · cases h2
def wF (Z : KS) (w : WX) (N : List Str) (cells : List (Str × Addr)) (cs : List Nat) : WZ Z := ⟨w, zF N cells cs, cs, fun c i h => (zF_at h).1⟩
/-- more slots: the first that fits stays -/
theorem zF_le {Z : KS} {w w' : WX} {N : List Str} {cells : List (Str × Addr)} {cs more : List Nat} : ZLe (wF Z w N cells cs) (wF Z w' N cells (cs ++ more)) := fun c i h => by
  show (cs ++ more).find? _ = some i
  rw [List.find?_append]
  have h' : cs.find? _ = some i := h
  rw [h']
  rfl
theorem zF_at_cell {N : List Str} {cells : List (Str × Addr)} {cs : List Nat} {a : Addr} {j : Nat} {y : Str} (inj : ∀ x y c, cells.lookup x = some c → cells.lookup y = some c → x = y) (nd : N.Nodup) (hj : j ∈ cs) (hy : N[j]? = some y) (hc : cells.lookup y = some a) : zF N cells cs a = some j := by
  cases h : zF N cells cs a with
  | none =>
    have q := List.find?_eq_none.mp h j hj
    rw [hy] at q
    simp [hc] at q
  | some i =>
    obtain ⟨_, y', h1, h2⟩ := zF_at h
    have e := inj _ _ _ h2 hc
    subst e
    rw [nodup_ix nd h1 hy]
section
variable {P : Program} {w : World} {K : PySem.W.Frag} {mg : Str → Option Value} {base : Heap} {Z : KS}
/-- own captured cells: new at the call -/
theorem ext_adopt {fr fr' : Addr → Prop} {H H' : Hp} {ms ms' : List Addr} {g : Addr → Option V} {h' : Heap} (n : ∀ c v, g c = some v → H c = none) (Gk : GOk g h' H') (e : Ext ms.length fr H ms fr' H' ms') : Ext ms.length fr H ms fr' (Hplus g h' H') ms' := by
  have off : ∀ {a : Addr}, H a ≠ none → g a = none := fun {a} q => by
    cases z : g a with
    | none => rfl
    | some v => exact absurd (n a v z) q
  refine ⟨e.pre, fun a o q m b => ?_, fun a q => ?_, e.tk, e.frk, e.frn⟩
  · rw [hplus_off (off (by rw [q]; simp))]
    exact e.keep a o q m b
  · rw [hplus_off (off q)]
    exact e.there a q
/-- THE RULE for a def whose own cells are captured (cs: their slots, as they come) -/
theorem okFc {x qual : Str} {params : Arguments} {body : List Stmt} {scope : Scope} {dvs : List V} {kws : List (Str × V)} {f : Addr} {fd : FuncData} {N ps : List Str} {lv k n : Nat} {t : FS} {z : Bool} (cs : List Nat) (F : FunD K x qual params body scope dvs kws f fd) (S : FnScope N ps scope) (hk : k = ps.length) (hn : n = N.length)
    (hcs : ∀ j ∈ cs, ∃ y, N[j]? = some y ∧ scope.names.lookup y = some .cell)
    (walk : ∀ (cdv : Value) (A : Around) (outer : List PySem.Env) (s : Shared) (H : Hp) (E : XK), Room lv (cxOf (L2.CX P w) P w K mg base N qual scope f cdv A outer s H E).A → (cxOf (L2.CX P w) P w K mg base N qual scope f cdv A outer s H E).A.guards = some [] → PySem.W.codeIn K cdv qual = true →
      ∀ w1 : WX, Takes (cxOf (L2.CX P w) P w K mg base N qual scope f cdv A outer s H E) w1 → (∀ cs', (∀ j ∈ cs', j ∈ cs) → ZOk (cxOf (L2.CX P w) P w K mg base N qual scope f cdv A outer s H E) (wF Z w1 N (cellsFrom (s.heap.objs.size + 1) scope.names []) cs')) →
      DB (cxOf (L2.CX P w) P w K mg base N qual scope f cdv A outer s H E) (wF Z w1 N (cellsFrom (s.heap.objs.size + 1) scope.names []) cs) (wF Z w1 N (cellsFrom (s.heap.objs.size + 1) scope.names []) []) body t) : FnF Z P w K mg base (lv + 1) f fd ps (fnF z k n t) := by
  subst hk hn
  have len : ∀ xs st, fnF z ps.length N.length t xs st ≠ .bad → xs.length = ps.length := fun xs st h => by
    unfold fnF at h
    cases e : (xs.length == ps.length) with
    | true => exact beq_nat e
    | false =>
      rw [e] at h
      exact absurd rfl h
  refine ⟨len, fun A outer s H args us vs Q E hr hg e0 hb r hsp => ?_⟩
  have hlv := spF_len len hsp
  obtain ⟨fr, ms, st, xs, sr, rx, g⟩ := hsp
  obtain ⟨oc, od, dV, kV, doc, pm, an, cdv, ct, osl, rfl, lk, hcd, _, _⟩ := F.ex
  have sees : K.In s.heap := e0.mod.kin.keeps fun b o q => (e0.bs b o q).1
  have kinds : ∀ y ∈ ps.zip us, scope.names.lookup y.1 = some .local ∨ (scope.names.lookup y.1 = some .cell ∧ ((cellsFrom (s.heap.objs.size + 1) scope.names []).lookup y.1).isSome = true) := by
    rintro ⟨n, v⟩ hy
    exact (S.par n (List.of_mem_zip hy).1).imp id fun q => ⟨q, PySem.W.cellsFrom_some _ _ _ (.inl q)⟩
  refine codeAny_call_function hr.depth (sees _ _ lk) rfl S.co S.gen rfl (PySem.W.codeRec_of sees hcd) (hb _ _ _ _ (wpAny_newFunctionEnv_cells S.kind kinds fun env he s1 X1 => ?_))
  subst he
  have lim : s.heap.NoLimit := e0.mod.nolimit.keeps fun b o q => (e0.bs b o q).1
  refine ⟨lim.keeps X1.toInCall.keep, codeAny_func ?_⟩
  have I := inv_start (CX := L2.CX P w) (E := E) S hr.hd e0 hlv r X1
  -- the cells are new
  have hnew : ∀ (cs' : List Nat) (w1 : WX) c i, (wF Z w1 N (cellsFrom (s.heap.objs.size + 1) scope.names []) cs').z c = some i → s.heap.objs.size ≤ c := fun cs' w1 c i h => by
    obtain ⟨_, y, _, hy⟩ := zF_at h
    exact I.ok.cab y c rfl hy
  have zk : ∀ (w1 : WX) (cs' : List Nat), (∀ j ∈ cs', j ∈ cs) → ZOk (cxOf (L2.CX P w) P w K mg base N qual scope f cdv A outer s H E) (wF Z w1 N (cellsFrom (s.heap.objs.size + 1) scope.names []) cs') := fun w1 cs' sub => by
    refine ⟨fun c i h => ?_, fun c i h => ?_, fun c i h q => ?_⟩
    · obtain ⟨hm, y, hy, hc⟩ := zF_at h
      obtain ⟨y', hy', hcl⟩ := hcs i (sub i hm)
      rw [hy] at hy'
      cases hy'
      exact ⟨y, hy, hc, .inl hcl⟩
    · cases e : base.get? c with
      | none => exact e
      | some o =>
        have l1 := Heap.lt_size (e0.bs c o e).1
        have l2 := hnew cs' w1 c i h
        exact absurd (Nat.lt_of_lt_of_le l1 l2) (Nat.lt_irrefl _)
    · obtain ⟨_, o, e, _⟩ := e0.funs.mem q
      have l1 := Heap.lt_size e
      have l2 := hnew cs' w1 c i h
      exact absurd (Nat.lt_of_lt_of_le l1 l2) (Nat.lt_irrefl _)
  generalize hwz : wF Z (fun _ _ _ _ => False) N (cellsFrom (s.heap.objs.size + 1) scope.names []) cs = WG
  have gE : ∀ (w1 : WX) σ, gamOf (wF Z w1 N (cellsFrom (s.heap.objs.size + 1) scope.names []) cs) σ = gamOf WG σ := fun w1 σ => by rw [← hwz]; rfl
  have zG : ZOk (cxOf (L2.CX P w) P w K mg base N qual scope f cdv A outer s H E) WG := hwz ▸ zk _ cs fun _ h => h
  have tk := takesZ (X := cxOf (L2.CX P w) P w K mg base N qual scope f cdv A outer s H E) (W := WG) (E := E) rfl rfl rfl zG (fun c i h => hnew cs (fun _ _ _ _ => False) c i (hwz ▸ h)) rfl
  have wk := walk cdv A outer s H E (hr.deeper _) (guards_deeper _ hg) hcd _ tk fun cs' sub => zk _ cs' sub
  have g' : G (k0 K Z) (fun c d _ H => E c d H) [] fr H ms (retF z st (t (startF N.length xs) st)) (PV (k0 K Z) Q) := by
    unfold fnF at g
    rw [show (xs.length == ps.length) = true by simp [len xs st g.nb]] at g
    exact g
  have nH : ∀ σ c v, gamOf WG σ c = some v → H c = none := fun σ c v e => by
    obtain ⟨i, hi⟩ := gam_z e
    exact e0.hok.fresh (hnew cs (fun _ _ _ _ => False) c i (hwz ▸ hi))
  refine wpAny_mono (wk.run [] s1 _ H { nx := fun σ' H' => ∀ h', GOk (gamOf WG σ') h' H' → Q .non (Hplus (gamOf WG σ') h' H'), rt := fun σ' v H' => ∀ h', GOk (gamOf WG σ') h' H' → Q v (Hplus (gamOf WG σ') h' H') } I ⟨fr, ms, startF N.length xs, st, ?_, ?_⟩) (fun fl s' hs => ?_) fun _ _ z => z
  · have w0 := start_wd (K := k0 K Z) (N := N) sr rx
    exact Wd.le (K := k0 K Z) (g := fun _ => none) (fun c v e => by cases e) w0
  · have KT : ∀ (w1 : WX) σ', (kx (cxOf (L2.CX P w) P w K mg base N qual scope f cdv A outer s H E) Z).to (wF Z w1 N (cellsFrom (s.heap.objs.size + 1) scope.names []) cs) σ' = (k0 K Z).gm (gamOf WG σ') := fun w1 σ' => by
      show (⟨K, Z, gamOf _ _⟩ : KZ) = ⟨K, Z, gamOf WG σ'⟩
      rw [gE]
    unfold retF at g'
    split at g'
    · next x st' he =>
      rw [he]
      intro fr' H' ms' σ' v e' s' r' h' Gk
      rw [KT] at s' r'
      have s2 := SR.plus (K := k0 K Z) Gk s'
      have r2 := VR.plus (K := k0 K Z) Gk r'
      have e2 := ext_adopt (nH σ') Gk e'
      cases z with
      | true => exact ret_rt sr (QV.of g') e2 s2 r2
      | false => exact QV.of g' _ _ _ _ e2 s2 r2
    · next ρ st' he =>
      rw [he]
      intro fr' H' ms' σ' e' s' h' Gk
      rw [KT] at s'
      have s2 := SR.plus (K := k0 K Z) Gk s'
      have e2 := ext_adopt (nH σ') Gk e'
      cases z with
      | true => exact ret_rt (x := .non) (v := .non) (st := st') sr (QV.of g') e2 s2 .non
      | false => exact QV.of g' _ _ _ _ e2 s2 .non
    · next x ρ st' he =>
      rw [he]
      intro fr' H' ms' σ' d e' s' x' h' Gk
      rw [KT] at s' x'
      have s2 := SR.plus (K := k0 K Z) Gk s'
      have e2 := ext_adopt (nH σ') Gk e'
      have x2 : XR (k0 K Z) fr' (Hplus (gamOf WG σ') h' H') ms' d x := by
        unfold XR at x' ⊢
        split at x'
        · exact x'
        · obtain ⟨dd, v, h1, h2, h3⟩ := x'
          exact ⟨dd, v, h1, hplus_keep Gk h2, VR.plus (K := k0 K Z) Gk h3⟩
      cases z with
      | true => exact retX_at (K := k0 K Z) sr (x := x) (st := st') g' e2 s2 x2
      | false => exact g' _ _ _ d e2 s2 x2
    · exact g'.elim
  · have fin : ∀ {σ' : L2.St} {H' : Hp} {v : V} {u : Value}, Inv (cxOf (L2.CX P w) P w K mg base N qual scope f cdv A outer s H E) [] σ' H' s' → L2.RelV v u → Q v (Hplus (gamOf WG σ') s'.heap H') → CE outer P w H s Q u s' := fun {σ' H' v u} J rv q => by
      have Gk := gok_of J zG
      refine ⟨v, Hplus (gamOf WG σ') s'.heap H', J.os, J.bare, ⟨J.base.keep, J.base.slot, fun b o e nn hx => ?_, J.base.there, fun b xs e => hplus_keep Gk (J.base.tups b xs e), fun b o xs e => hplus_keep Gk (J.base.frzs b o xs e), fun b ps e => ?_⟩, hok_plus Gk J.hok, rv, q⟩
      · have off : gamOf WG σ' b = none := by
          cases z : gamOf WG σ' b with
          | none => rfl
          | some v =>
            obtain ⟨i, hi⟩ := gam_z z
            have l1 := Heap.lt_size e
            have l2 := hnew cs (fun _ _ _ _ => False) b i (hwz ▸ hi)
            exact absurd (Nat.lt_of_lt_of_le l1 l2) (Nat.lt_irrefl _)
        rw [hplus_off off]
        exact J.base.free b o e nn hx
      · obtain ⟨more, q⟩ := J.base.tbls b ps e
        exact ⟨more, hplus_keep Gk q⟩
    match fl, hs with
    | .ret u, ⟨v, σ', H', J, rv, q⟩ => exact fin J rv (q _ (gok_of J zG))
    | .next, ⟨σ', H', J, q⟩ => exact fin (v := .non) J rfl (q _ (gok_of J zG))
    | .brk, q => exact q.elim
    | .cont, q => exact q.elim
end
end FL
namespace FL
/-- the equations of the readings, all -/
def seval := And.intro (And.intro (And.intro (And.intro (And.intro (And.intro (And.intro (And.intro (@cond_t) (And.intro (@cond_f) (@dec_t))) (And.intro (And.intro (@dec_f) (@not_t)) (And.intro (@not_f) (@and_t)))) (And.intro (And.intro (@and_f) (And.intro (@or_t) (@or_f))) (And.intro (And.intro (@and_t') (@or_f')) (And.intro (@R.bind_ok) (@R.bind_exc))))) (And.intro (And.intro (And.intro (@R.to_ok) (And.intro (@R.to_exc) (@R.opt_some))) (And.intro (And.intro (@then_nx) (@then_rt)) (And.intro (@then_bk) (@then_ct)))) (And.intro (And.intro (@then_ex) (And.intro (@turnP_nx) (@turnP_ct))) (And.intro (And.intro (@turnP_bk) (@turnP_rt)) (And.intro (@turnP_ex) (@fst_eq)))))) (And.intro (And.intro (And.intro (And.intro (@snd_eq) (And.intro (@set_z) (@set_s))) (And.intro (And.intro (@eV_z) (@eV_s)) (And.intro (@eC_eq) (@wipeF_nil)))) (And.intro (And.intro (@wipeF_cons) (And.intro (@startF_nil) (@startF_cons))) (And.intro (And.intro (@rep_z) (@rep_s)) (And.intro (@lenB_nil) (@lenB_cons))))) (And.intro (And.intro (And.intro (@fnF_eq) (And.intro (@retF_rt) (@retF_nx))) (And.intro (And.intro (@retF_ex) (@retF_rtz)) (And.intro (@retF_nxz) (@retF_exz)))) (And.intro (And.intro (And.intro (@sNext_eq) (@sBrk_eq)) (And.intro (@sCnt_eq) (@sSeq_eq))) (And.intro (And.intro (@kDrop_eq) (@sDrop_eq)) (And.intro (@kRet_eq) (@sRet_eq))))))) (And.intro (And.intro (And.intro (And.intro (And.intro (@sRetN_eq) (And.intro (@kIf_t) (@kIf_f))) (And.intro (And.intro (@sIf_eq) (@kSet_eq)) (And.intro (@sSet_eq) (@kPar_eq)))) (And.intro (And.intro (@sPar_eq) (And.intro (@kPar3_eq) (@sPar3_eq))) (And.intro (And.intro (@ofG_some) (@kAsg_eq)) (And.intro (@sAsg_eq) (@kUnp_eq))))) (And.intro (And.intro (And.intro (@sUnp_eq) (And.intro (@sWipe_eq) (@wiped_nx))) (And.intro (And.intro (@wiped_bk) (@wiped_ct)) (And.intro (@wiped_rt) (@wiped_ex)))) (And.intro (And.intro (@kFor_eq) (And.intro (@sFor_eq) (@sWhile_eq))) (And.intro (And.intro (@kRaise_1) (@kRaise_0)) (And.intro (@sRaise_eq) (@sTry_eq)))))) (And.intro (And.intro (And.intro (And.intro (@caught_nx) (And.intro (@caught_rt) (@caught_ex))) (And.intro (And.intro (@thenG_some) (@gN_eq)) (And.intro (@gNil_eq) (@gCons_eq)))) (And.intro (And.intro (@gTup_eq) (And.intro (@gSub_eq) (@kSub1_ok))) (And.intro (And.intro (@kSub2_ok) (@kOp2_eq)) (And.intro (@kOp1_eq) (@eOp_eq))))) (And.intro (And.intro (And.intro (@kUn_eq) (And.intro (@eUn_eq) (@kB_eq))) (And.intro (And.intro (@tB_eq) (@kCh4_eq)) (And.intro (@kCh3_t) (@kCh3_f)))) (And.intro (And.intro (And.intro (@kCh2_eq) (@kCh1_eq)) (And.intro (@eChain_eq) (@kAnd_t))) (And.intro (And.intro (@kAnd_f) (@tAnd_eq)) (And.intro (@kOr_t) (@kOr_f)))))))) (And.intro (And.intro (And.intro (And.intro (And.intro (And.intro (@tOr_eq) (And.intro (@kNot_eq) (@tNot_eq))) (And.intro (And.intro (@tYes_eq) (@kEAnd_t)) (And.intro (@kEAnd_f) (@eAnd_eq)))) (And.intro (And.intro (@kEOr_t) (And.intro (@kEOr_f) (@eOr_eq))) (And.intro (And.intro (@kENot_eq) (@eNot_eq)) (And.intro (@kEIf_t) (@kEIf_f))))) (And.intro (And.intro (And.intro (@eIf_eq) (And.intro (@aNil_eq) (@kCons2_eq))) (And.intro (And.intro (@kCons1_eq) (@aCons_eq)) (And.intro (@kTup_eq) (@eTup_eq)))) (And.intro (And.intro (@okL_f) (And.intro (@okL_t) (@kLst_eq))) (And.intro (And.intro (@eLst_eq) (@newL_f)) (And.intro (@newL_t) (@app_nil)))))) (And.intro (And.intro (And.intro (And.intro (@app_cons) (And.intro (@nil_app) (@kCall_eq))) (And.intro (And.intro (@eCall_eq) (@kCallK_eq)) (And.intro (@eCallK_eq) (@kCallM2_eq)))) (And.intro (And.intro (@kCallM1_eq) (And.intro (@eCallM_eq) (@byPl_nil'))) (And.intro (And.intro (@byPl_cons) (@nthA_z)) (And.intro (@nthA_s) (@kBf_eq))))) (And.intro (And.intro (And.intro (@eB_eq) (And.intro (@mOut_some) (@kM3_eq))) (And.intro (And.intro (@kM2_eq) (@kM1'_eq)) (And.intro (@kM1_eq) (@onL_some)))) (And.intro (And.intro (And.intro (@eM_eq) (@kSl3_eq)) (And.intro (@kSl2_eq) (@kSl1_eq))) (And.intro (And.intro (@eSl_eq) (@oNo_eq)) (And.intro (@kAt_eq) (@oAt_eq))))))) (And.intro (And.intro (And.intro (And.intro (And.intro (@kIsi_non) (And.intro (@kIsi_bl) (@kIsi_int))) (And.intro (And.intro (@kIsi_str) (@kIsi_tup)) (And.intro (@kIsi_ro) (@kIsi_wr)))) (And.intro (And.intro (@kIsi_rd) (And.intro (@eIsi_eq) (@kTru_non))) (And.intro (And.intro (@kTru_bl) (@kTru_int)) (And.intro (@kTru_tup) (@kTru_ro))))) (And.intro (And.intro (And.intro (@tTru_eq) (And.intro (@kRev_eq) (@eRev_eq))) (And.intro (And.intro (@kMk1_eq) (@eMk1_eq)) (And.intro (@lcOut_some) (@kLc_eq)))) (And.intro (And.intro (@eLc_eq) (And.intro (@lcEnd_ok) (@lcTst_t))) (And.intro (And.intro (@lcTst_f) (@lcTg_some)) (And.intro (@lc1_eq) (@curR_some)))))) (And.intro (And.intro (And.intro (And.intro (@kSeq_eq) (And.intro (@iSeq_eq) (@kRg1_eq))) (And.intro (And.intro (@iRg1_eq) (@kRg2_eq)) (And.intro (@iRg2_eq) (@enR_some)))) (And.intro (And.intro (@kEn_eq) (And.intro (@iEn_eq) (@zpR_some))) (And.intro (And.intro (@kZp_eq) (@iZpB_eq)) (And.intro (@kRgL1_eq) (@eListRg1_eq))))) (And.intro (And.intro (And.intro (@kRgT1_eq) (And.intro (@eTupRg1_eq) (@kRgL2_eq))) (And.intro (And.intro (@kRgL2a_eq) (@eListRg2_eq)) (And.intro (@kRgT2_eq) (@kRgT2a_eq)))) (And.intro (And.intro (And.intro (@eTupRg2_eq) (@cur_tup)) (And.intro (@cur_ro) (@cur_wr))) (And.intro (And.intro (@enC_c) (@seq_tup)) (And.intro (@seq_ro) (@seq_wr))))))))) (And.intro (And.intro (And.intro (And.intro (And.intro (And.intro (And.intro (@lst_ro) (And.intro (@lst_wr) (@pl_ro))) (And.intro (And.intro (@store_set) (@store_set_ne)) (And.intro (@store_app) (@fAdd_i)))) (And.intro (And.intro (@fSub_i) (And.intro (@fMod_i) (@fMul_i))) (And.intro (And.intro (@fDiv_i) (@fLt_i)) (And.intro (@fLe_i) (@fGt_i))))) (And.intro (And.intro (And.intro (@fGe_i) (And.intro (@fNeg_i) (@fEq_i))) (And.intro (And.intro (@fNe_i) (@fEq_s)) (And.intro (@fNe_s) (@fIsN_eq)))) (And.intro (And.intro (@isN_non) (And.intro (@isN_bl) (@isN_int))) (And.intro (And.intro (@isN_str) (@isN_tup)) (And.intro (@isN_ro) (@isN_ref)))))) (And.intro (And.intro (And.intro (And.intro (@isN_ex1) (And.intro (@isN_ex0) (@ble_sz))) (And.intro (And.intro (@fAdd_tup) (@fAdd_ro)) (And.intro (@okRg_eq) (@fLen_tup)))) (And.intro (And.intro (@rev_map) (And.intro (@len_map) (@revF_tup))) (And.intro (And.intro (@revF_ro) (@lstAt_eq1)) (And.intro (@dicAt_eq1) (@seq_ref1))))) (And.intro (And.intro (And.intro (@lst_ref1) (And.intro (@pl_ref1) (@cur_ref1))) (And.intro (And.intro (@dict_ref1) (@seq_int1)) (And.intro (@seq_str1) (@seq_non1)))) (And.intro (And.intro (And.intro (@seq_bl1) (@seq_rd1)) (And.intro (@dict_rd1) (@at_0))) (And.intro (And.intro (@at_1) (@at_2)) (And.intro (@at_3) (@at_4))))))) (And.intro (And.intro (And.intro (And.intro (And.intro (@at_5) (And.intro (@at_map) (@map_some))) (And.intro (And.intro (@at_ints) (@ixN_in)) (And.intro (@ix_tup) (@ix_ro)))) (And.intro (And.intro (@ix_wr) (And.intro (@ix_ref1) (@len_ro))) (And.intro (And.intro (@len_tup) (@len_wr)) (And.intro (@len_ref) (@len_nil))))) (And.intro (And.intro (And.intro (@len_cons) (And.intro (@len_app) (@len_rngs))) (And.intro (And.intro (@len_set) (@ty_non)) (And.intro (@ty_bl) (@ty_int)))) (And.intro (And.intro (@ty_str) (And.intro (@ty_tup) (@ty_ro))) (And.intro (And.intro (@ty_rd) (@le_nn)) (And.intro (@le_bi) (@le_bs)))))) (And.intro (And.intro (And.intro (And.intro (@le_bt) (And.intro (@le_bl) (@le_bd))) (And.intro (And.intro (@le_ib) (@le_is)) (And.intro (@le_it) (@le_il)))) (And.intro (And.intro (@le_id) (And.intro (@le_si) (@le_sb))) (And.intro (And.intro (@le_st) (@le_sl)) (And.intro (@le_sd) (@le_ti))))) (And.intro (And.intro (And.intro (@le_tb) (And.intro (@le_ts) (@le_tl))) (And.intro (And.intro (@le_td) (@le_li)) (And.intro (@le_lb) (@le_ls)))) (And.intro (And.intro (And.intro (@le_lt) (@le_ld)) (And.intro (@le_ni) (@le_nb))) (And.intro (And.intro (@le_ns) (@le_nt)) (And.intro (@le_nl) (@le_nd)))))))) (And.intro (And.intro (And.intro (And.intro (And.intro (And.intro (@le_di) (And.intro (@le_db) (@le_ds))) (And.intro (And.intro (@le_dt) (@le_dl)) (And.intro (@list_ro) (@list_tup)))) (And.intro (And.intro (@list_wr) (And.intro (@list_ref) (@tuple_tup))) (And.intro (And.intro (@tuple_ro) (@tuple_wr)) (And.intro (@tuple_ref) (@int_i))))) (And.intro (And.intro (And.intro (@int_b) (And.intro (@ints_of) (@bools_of))) (And.intro (And.intro (@sum_eq1) (@all_eq1)) (And.intro (@any_eq1) (@intsIn_ro)))) (And.intro (And.intro (@boolsIn_ro) (And.intro (@boolsIn_ref) (@intsIn_ref))) (And.intro (And.intro (@intsIn_tup) (@max2_eq)) (And.intro (@min2_eq) (@app_eq)))))) (And.intro (And.intro (And.intro (And.intro (@clr_eq) (And.intro (@sl_tup) (@sl_ro))) (And.intro (And.intro (@sl_wr) (@sl_ref)) (And.intro (@cut_to') (@cut_from')))) (And.intro (And.intro (@cut_all') (And.intro (@cut_mid) (@toNat_cast))) (And.intro (And.intro (@take_map) (@drop_map)) (And.intro (@eraseIdx_map) (@tru_non))))) (And.intro (And.intro (And.intro (@tru_bl) (And.intro (@tru_int) (@tru_tup))) (And.intro (And.intro (@tru_ro) (@below_int)) (And.intro (@below_bl) (@below_non)))) (And.intro (And.intro (And.intro (@below_str) (@below_tup)) (And.intro (@below_ro) (@belows_nil))) (And.intro (And.intro (@belows_cons) (@belows_app)) (And.intro (@belows_ints) (@store_last))))))) (And.intro (And.intro (And.intro (And.intro (And.intro (@store_put) (And.intro (@putAt_last) (@set_ints))) (And.intro (And.intro (@in_ro) (@in_tup)) (And.intro (@nin_ro) (@nin_tup)))) (And.intro (And.intro (@zpC_c) (And.intro (@zpC_f) (@pow18))) (And.intro (And.intro (@pow50) (@pow59)) (And.intro (@eq_tup) (@ne_tup))))) (And.intro (And.intro (And.intro (@eq_ro) (And.intro (@ne_ro) (@eq_ro0))) (And.intro (And.intro (@ne_ro0) (@repr_int)) (And.intro (@eq_bl) (@ne_bl)))) (And.intro (And.intro (And.intro (@dec_bb) (@dec_tf)) (And.intro (@dec_ft) (@hnd_nil))) (And.intro (And.intro (@hnd_cons) (@hndR_t)) (And.intro (@hndR_f) (@unname_nx)))))) (And.intro (And.intro (And.intro (And.intro (@unname_rt) (And.intro (@unname_nx0) (@unname_rt0))) (And.intro (And.intro (@putAt_some) (@putAt_none)) (And.intro (@xvV_1) (@xvV_0)))) (And.intro (And.intro (@eMk0_eq) (And.intro (@eXf_eq) (@isN_ty))) (And.intro (And.intro (@isN_gl) (@eDictZ_eq)) (And.intro (@eDict0_eq) (@catR_eq))))) (And.intro (And.intro (And.intro (@fAdd_rr) (And.intro (@fAdd_rr2) (@fAdd_rr3))) (And.intro (And.intro (@reprU_int) (@reprU_non)) (And.intro (@reprU_bl) (@eUpper_eq)))) (And.intro (And.intro (And.intro (@onP_eq) (@kX3_ro)) (And.intro (@kX3_ref) (@kX2_eq))) (And.intro (And.intro (@kX1_eq) (@eExt_eq)) (And.intro (@fIsB_eq) (@fAddI_eq)))))))))
end FL
namespace Law
open PySem PySem.Spec PyProof.Rows L2 FL
def tbI : ClsT := tabO (("NoCoin", "NoCoin", true) :: ("NoCoin", "NoCurve", false) :: ("NoCoin", "NoGiven", false) :: ("NoCoin", "NoLetter", false) :: ("NoCoin", "NoMark", false) :: ("NoCoin", "NoNumber", false) :: ("NoCoin", "NoRow", false) :: ("NoCoin", "NoText", false) :: ("NoCoin", "NoTurn", false) :: ("NoCoin", "NoTurned", false) :: ("NoCoin", "TooMany", false) :: ("NoCurve", "NoCoin", false) :: ("NoCurve", "NoCurve", true) :: ("NoCurve", "NoGiven", false) :: ("NoCurve", "NoLetter", false) :: ("NoCurve", "NoMark", false) :: ("NoCurve", "NoNumber", false) :: ("NoCurve", "NoRow", false) :: ("NoCurve", "NoText", false) :: ("NoCurve", "NoTurn", false) :: ("NoCurve", "NoTurned", false) :: ("NoCurve", "TooMany", false) :: ("NoGiven", "NoCoin", false) :: ("NoGiven", "NoCurve", false) :: ("NoGiven", "NoGiven", true) :: ("NoGiven", "NoLetter", false) :: ("NoGiven", "NoMark", false) :: ("NoGiven", "NoNumber", false) :: ("NoGiven", "NoRow", false) :: ("NoGiven", "NoText", false) :: ("NoGiven", "NoTurn", false) :: ("NoGiven", "NoTurned", false) :: ("NoGiven", "TooMany", false) :: ("NoLetter", "NoCoin", false) :: ("NoLetter", "NoCurve", false) :: ("NoLetter", "NoGiven", false) :: ("NoLetter", "NoLetter", true) :: ("NoLetter", "NoMark", false) :: ("NoLetter", "NoNumber", false) :: ("NoLetter", "NoRow", false) :: ("NoLetter", "NoText", false) :: ("NoLetter", "NoTurn", false) :: ("NoLetter", "NoTurned", false) :: ("NoLetter", "TooMany", false) :: ("NoMark", "NoCoin", false) :: ("NoMark", "NoCurve", false) :: ("NoMark", "NoGiven", false) :: ("NoMark", "NoLetter", false) :: ("NoMark", "NoMark", true) :: ("NoMark", "NoNumber", false) :: ("NoMark", "NoRow", false) :: ("NoMark", "NoText", false) :: ("NoMark", "NoTurn", false) :: ("NoMark", "NoTurned", false) :: ("NoMark", "TooMany", false) :: ("NoNumber", "NoCoin", false) :: ("NoNumber", "NoCurve", false) :: ("NoNumber", "NoGiven", false) :: ("NoNumber", "NoLetter", false) :: ("NoNumber", "NoMark", false) :: ("NoNumber", "NoNumber", true) :: ("NoNumber", "NoRow", false) :: ("NoNumber", "NoText", false) :: ("NoNumber", "NoTurn", false) :: ("NoNumber", "NoTurned", false) :: ("NoNumber", "TooMany", false) :: ("NoRow", "NoCoin", false) :: ("NoRow", "NoCurve", false) :: ("NoRow", "NoGiven", false) :: ("NoRow", "NoLetter", false) :: ("NoRow", "NoMark", false) :: ("NoRow", "NoNumber", false) :: ("NoRow", "NoRow", true) :: ("NoRow", "NoText", false) :: ("NoRow", "NoTurn", false) :: ("NoRow", "NoTurned", false) :: ("NoRow", "TooMany", false) :: ("NoText", "NoCoin", false) :: ("NoText", "NoCurve", false) :: ("NoText", "NoGiven", false) :: ("NoText", "NoLetter", false) :: ("NoText", "NoMark", false) :: ("NoText", "NoNumber", false) :: ("NoText", "NoRow", false) :: ("NoText", "NoText", true) :: ("NoText", "NoTurn", false) :: ("NoText", "NoTurned", false) :: ("NoText", "TooMany", false) :: ("NoTurn", "NoCoin", false) :: ("NoTurn", "NoCurve", false) :: ("NoTurn", "NoGiven", false) :: ("NoTurn", "NoLetter", false) :: ("NoTurn", "NoMark", false) :: ("NoTurn", "NoNumber", false) :: ("NoTurn", "NoRow", false) :: ("NoTurn", "NoText", false) :: ("NoTurn", "NoTurn", true) :: ("NoTurn", "NoTurned", false) :: ("NoTurn", "TooMany", false) :: ("NoTurned", "NoCoin", false) :: ("NoTurned", "NoCurve", false) :: ("NoTurned", "NoGiven", false) :: ("NoTurned", "NoLetter", false) :: ("NoTurned", "NoMark", false) :: ("NoTurned", "NoNumber", false) :: ("NoTurned", "NoRow", false) :: ("NoTurned", "NoText", false) :: ("NoTurned", "NoTurn", false) :: ("NoTurned", "NoTurned", true) :: ("NoTurned", "TooMany", false) :: ("TooMany", "NoCoin", false) :: ("TooMany", "NoCurve", false) :: ("TooMany", "NoGiven", false) :: ("TooMany", "NoLetter", false) :: ("TooMany", "NoMark", false) :: ("TooMany", "NoNumber", false) :: ("TooMany", "NoRow", false) :: ("TooMany", "NoText", false) :: ("TooMany", "NoTurn", false) :: ("TooMany", "NoTurned", false) :: ("TooMany", "TooMany", true) :: [])
def tbB : ClsB := tabB (("NoCoin", "IndexError", true) :: ("NoCoin", "KeyError", false) :: ("NoCoin", "LookupError", true) :: ("NoCoin", "NotImplementedError", false) :: ("NoCoin", "OverflowError", false) :: ("NoCoin", "RuntimeError", false) :: ("NoCoin", "ValueError", false) :: ("NoCoin", "ZeroDivisionError", false) :: ("NoCurve", "IndexError", false) :: ("NoCurve", "KeyError", false) :: ("NoCurve", "LookupError", false) :: ("NoCurve", "NotImplementedError", false) :: ("NoCurve", "OverflowError", false) :: ("NoCurve", "RuntimeError", false) :: ("NoCurve", "ValueError", true) :: ("NoCurve", "ZeroDivisionError", false) :: ("NoGiven", "IndexError", false) :: ("NoGiven", "KeyError", true) :: ("NoGiven", "LookupError", true) :: ("NoGiven", "NotImplementedError", false) :: ("NoGiven", "OverflowError", false) :: ("NoGiven", "RuntimeError", false) :: ("NoGiven", "ValueError", false) :: ("NoGiven", "ZeroDivisionError", false) :: ("NoLetter", "IndexError", false) :: ("NoLetter", "KeyError", false) :: ("NoLetter", "LookupError", true) :: ("NoLetter", "NotImplementedError", false) :: ("NoLetter", "OverflowError", false) :: ("NoLetter", "RuntimeError", false) :: ("NoLetter", "ValueError", false) :: ("NoLetter", "ZeroDivisionError", false) :: ("NoMark", "IndexError", false) :: ("NoMark", "KeyError", false) :: ("NoMark", "LookupError", true) :: ("NoMark", "NotImplementedError", false) :: ("NoMark", "OverflowError", false) :: ("NoMark", "RuntimeError", false) :: ("NoMark", "ValueError", false) :: ("NoMark", "ZeroDivisionError", false) :: ("NoNumber", "IndexError", false) :: ("NoNumber", "KeyError", false) :: ("NoNumber", "LookupError", false) :: ("NoNumber", "NotImplementedError", false) :: ("NoNumber", "OverflowError", false) :: ("NoNumber", "RuntimeError", false) :: ("NoNumber", "ValueError", true) :: ("NoNumber", "ZeroDivisionError", false) :: ("NoRow", "IndexError", false) :: ("NoRow", "KeyError", false) :: ("NoRow", "LookupError", true) :: ("NoRow", "NotImplementedError", false) :: ("NoRow", "OverflowError", false) :: ("NoRow", "RuntimeError", false) :: ("NoRow", "ValueError", false) :: ("NoRow", "ZeroDivisionError", false) :: ("NoText", "IndexError", false) :: ("NoText", "KeyError", false) :: ("NoText", "LookupError", false) :: ("NoText", "NotImplementedError", false) :: ("NoText", "OverflowError", false) :: ("NoText", "RuntimeError", false) :: ("NoText", "ValueError", true) :: ("NoText", "ZeroDivisionError", false) :: ("NoTurn", "IndexError", false) :: ("NoTurn", "KeyError", false) :: ("NoTurn", "LookupError", false) :: ("NoTurn", "NotImplementedError", false) :: ("NoTurn", "OverflowError", false) :: ("NoTurn", "RuntimeError", true) :: ("NoTurn", "ValueError", false) :: ("NoTurn", "ZeroDivisionError", false) :: ("NoTurned", "IndexError", false) :: ("NoTurned", "KeyError", false) :: ("NoTurned", "LookupError", false) :: ("NoTurned", "NotImplementedError", false) :: ("NoTurned", "OverflowError", false) :: ("NoTurned", "RuntimeError", false) :: ("NoTurned", "ValueError", false) :: ("NoTurned", "ZeroDivisionError", true) :: ("TooMany", "IndexError", false) :: ("TooMany", "KeyError", false) :: ("TooMany", "LookupError", false) :: ("TooMany", "NotImplementedError", false) :: ("TooMany", "OverflowError", true) :: ("TooMany", "RuntimeError", false) :: ("TooMany", "ValueError", false) :: ("TooMany", "ZeroDivisionError", false) :: [])
-- BLOCK law_all_made
def t_law_all_made : FS := fun ρ st => (sSeq (sSet 2 (eLst true (aCons (eTup (aCons (eC (.int 0)) (aCons (eLst false (aCons (eC (.int 0)) aNil)) (aCons (eMk1 "NoTurned" "prime" (aCons (eV 0) aNil)) (aCons (eMk1 "NoTurned" "prime" (aCons (eV 0) aNil)) (aCons (eLst false (aCons (eXf ["NoTurned"] "prime" (eMk1 "NoTurned" "prime" (aCons (eV 0) aNil))) (aCons (eXf ["NoTurned"] "prime" (eMk1 "NoTurned" "prime" (aCons (eV 0) aNil))) aNil))) aNil)))))) aNil)))
  (sSeq (sDrop (eM fApp (eV 2) (aCons (eTup (aCons (eC (.int 1)) (aCons (eLst false (aCons (eC (.int 1)) aNil)) (aCons (eMk1 "NoCurve" "place" (aCons (eV 0) aNil)) (aCons (eMk1 "NoCurve" "place" (aCons (eV 0) aNil)) (aCons (eLst false (aCons (eXf ["NoCurve"] "place" (eMk1 "NoCurve" "place" (aCons (eV 0) aNil))) (aCons (eXf ["NoCurve"] "place" (eMk1 "NoCurve" "place" (aCons (eV 0) aNil))) aNil))) aNil)))))) aNil)))
  (sSeq (sDrop (eM fApp (eV 2) (aCons (eTup (aCons (eC (.int 2)) (aCons (eLst false (aCons (eC (.int 1)) aNil)) (aCons (eMk1 "NoNumber" "hand" (aCons (eV 0) aNil)) (aCons (eMk1 "NoNumber" "hand" (aCons (eV 0) aNil)) (aCons (eLst false (aCons (eXf ["NoNumber", "NoCoin", "NoGiven"] "hand" (eMk1 "NoNumber" "hand" (aCons (eV 0) aNil))) (aCons (eXf ["NoNumber", "NoCoin", "NoGiven"] "hand" (eMk1 "NoNumber" "hand" (aCons (eV 0) aNil))) aNil))) aNil)))))) aNil)))
  (sSeq (sDrop (eM fApp (eV 2) (aCons (eTup (aCons (eC (.int 4)) (aCons (eLst false (aCons (eC (.int 2)) aNil)) (aCons (eMk1 "NoLetter" "step" (aCons (eV 0) aNil)) (aCons (eMk1 "NoLetter" "step" (aCons (eV 0) aNil)) (aCons (eLst false (aCons (eXf ["NoLetter"] "step" (eMk1 "NoLetter" "step" (aCons (eV 0) aNil))) (aCons (eXf ["NoLetter"] "step" (eMk1 "NoLetter" "step" (aCons (eV 0) aNil))) aNil))) aNil)))))) aNil)))
  (sSeq (sDrop (eM fApp (eV 2) (aCons (eTup (aCons (eC (.int 5)) (aCons (eLst false (aCons (eC (.int 2)) aNil)) (aCons (eMk1 "NoMark" "number" (aCons (eV 0) aNil)) (aCons (eMk1 "NoMark" "number" (aCons (eV 0) aNil)) (aCons (eLst false (aCons (eXf ["NoMark", "NoRow"] "number" (eMk1 "NoMark" "number" (aCons (eV 0) aNil))) (aCons (eXf ["NoMark", "NoRow"] "number" (eMk1 "NoMark" "number" (aCons (eV 0) aNil))) aNil))) aNil)))))) aNil)))
  (sSeq (sDrop (eM fApp (eV 2) (aCons (eTup (aCons (eC (.int 6)) (aCons (eLst false (aCons (eC (.int 2)) aNil)) (aCons (eMk1 "NoRow" "number" (aCons (eV 0) aNil)) (aCons (eMk1 "NoRow" "number" (aCons (eV 0) aNil)) (aCons (eLst false (aCons (eXf ["NoMark", "NoRow"] "number" (eMk1 "NoRow" "number" (aCons (eV 0) aNil))) (aCons (eXf ["NoMark", "NoRow"] "number" (eMk1 "NoRow" "number" (aCons (eV 0) aNil))) aNil))) aNil)))))) aNil)))
  (sSeq (sDrop (eM fApp (eV 2) (aCons (eTup (aCons (eC (.int 7)) (aCons (eLst false (aCons (eC (.int 2)) (aCons (eC (.int 3)) aNil))) (aCons (eMk1 "NoCoin" "hand" (aCons (eV 0) aNil)) (aCons (eMk1 "NoCoin" "hand" (aCons (eV 0) aNil)) (aCons (eLst false (aCons (eXf ["NoNumber", "NoCoin", "NoGiven"] "hand" (eMk1 "NoCoin" "hand" (aCons (eV 0) aNil))) (aCons (eXf ["NoNumber", "NoCoin", "NoGiven"] "hand" (eMk1 "NoCoin" "hand" (aCons (eV 0) aNil))) aNil))) aNil)))))) aNil)))
  (sSeq (sDrop (eM fApp (eV 2) (aCons (eTup (aCons (eC (.int 8)) (aCons (eLst false (aCons (eC (.int 2)) (aCons (eC (.int 4)) aNil))) (aCons (eMk1 "NoGiven" "hand" (aCons (eV 0) aNil)) (aCons (eMk1 "NoGiven" "hand" (aCons (eV 0) aNil)) (aCons (eLst false (aCons (eXf ["NoNumber", "NoCoin", "NoGiven"] "hand" (eMk1 "NoGiven" "hand" (aCons (eV 0) aNil))) (aCons (eXf ["NoNumber", "NoCoin", "NoGiven"] "hand" (eMk1 "NoGiven" "hand" (aCons (eV 0) aNil))) aNil))) aNil)))))) aNil)))
  (sSeq (sDrop (eM fApp (eV 2) (aCons (eTup (aCons (eC (.int 9)) (aCons (eLst false (aCons (eC (.int 5)) aNil)) (aCons (eMk1 "TooMany" "most" (aCons (eV 0) aNil)) (aCons (eMk1 "TooMany" "most" (aCons (eV 0) aNil)) (aCons (eLst false (aCons (eXf ["TooMany"] "most" (eMk1 "TooMany" "most" (aCons (eV 0) aNil))) (aCons (eXf ["TooMany"] "most" (eMk1 "TooMany" "most" (aCons (eV 0) aNil))) aNil))) aNil)))))) aNil)))
  (sSeq (sSet 3 (eLst false (aCons (eTup (aCons (eC (.int 3)) (aCons (eLst false (aCons (eC (.int 1)) aNil)) (aCons (eMk1 "NoText" "why" (aCons (eV 1) aNil)) (aCons (eMk1 "NoText" "why" (aCons (eV 1) aNil)) (aCons (eLst false (aCons (eXf ["NoText"] "why" (eMk1 "NoText" "why" (aCons (eV 1) aNil))) (aCons (eXf ["NoText"] "why" (eMk1 "NoText" "why" (aCons (eV 1) aNil))) aNil))) aNil)))))) aNil)))
  (sRet (eOp (fAdd false) (eLc false (iSeq (eV 2)) (gN 4) tYes (eTup (aCons (eV 4) (aCons (eV 0) aNil))) [4]) (eLc false (iSeq (eV 3)) (gN 4) tYes (eTup (aCons (eV 4) (aCons (eV 1) aNil))) [4]))))))))))))) ρ st
def F_law_all_made : List Val → Store → R Val := fnF true 2 5 t_law_all_made
-- BLOCK law_fresh
def r_law_fresh_0 : FS := fun ρ st => (sRet (eV 5)) ρ st
def b_law_fresh_0 : FS := sWipe [0, 6] (sSeq (sSet 4 (eOp (fMod) (eOp (fAdd false) (eOp (fAdd false) (eOp (fMul false) (eV 4) (eV 4)) (eOp (fMul false) (eOp (fMul false) (eC (.int 69621)) (eOp (fAdd false) (eV 6) (eC (.int 1)))) (eOp (fAdd false) (eV 1) (eC (.int 1))))) (eV 2)) (eV 3)))
  (sSet 5 (eOp (fAdd false) (eOp (fMul false) (eV 5) (eV 3)) (eV 4))))
def r_law_fresh_1 : FS := fun ρ st => (sSeq (sSet 3 (eC (.int 2305843009213693951)))
  (sSeq (sSet 4 (eOp (fMod) (eOp (fAdd false) (eOp (fAdd false) (eOp (fMul false) (eV 2) (eC (.int 48271))) (eOp (fMul false) (eC (.int 40692)) (eV 1))) (eC (.int 31))) (eV 3)))
  (sSeq (sSet 5 (eV 4))
  (sSeq (sFor [0, 6] (iRg1 (aCons (eC (.int 6)) aNil)) (gN 6) b_law_fresh_0)
  r_law_fresh_0)))) ρ st
def r_law_fresh_2 : FS := fun ρ st => (sSeq (sIf (tAnd (tB (eOp fLt (eV 1) (eB fLen (aCons (eOp fIx (eV 0) (eC (.int 0))) aNil)))) (tB (eOp fGe (eV 2) (eOp (fPow) (eC (.int 10)) (eC (.int 18)))))) (sRet (eOp (fSub) (eV 2) (eOp (fPow) (eC (.int 10)) (eC (.int 18))))) sNext)
  r_law_fresh_1) ρ st
def t_law_fresh : FS := fun ρ st => (sSeq (sSet 1 (eOp fIx (eV 0) (eC (.int 1))))
  (sSeq (sAsg (eOp (fAdd false) (eV 1) (eC (.int 1))) (gSub (eV 0) (eC (.int 1))))
  (sSeq (sSet 2 (eC (.int 0)))
  (sSeq (sIf (tB (eOp (fEq true) (eOp fIx (eV 0) (eC (.int 0))) (eLst false aNil))) (sSet 2 (eOp fIx (eOp fIx (eV 0) (eC (.int 0))) (eOp (fMod) (eV 1) (eB fLen (aCons (eOp fIx (eV 0) (eC (.int 0))) aNil))))) sNext)
  r_law_fresh_2)))) ρ st
def F_law_fresh : List Val → Store → R Val := fnF false 1 7 t_law_fresh
-- BLOCK law_draw
def r_law_draw_0 : FS := fun ρ st => (sSeq (sSet 2 (eOp (fMod) (eOp fIx (eV 0) (eC (.int 2))) (eV 1)))
  (sSeq (sAsg (eOp (fDiv) (eOp fIx (eV 0) (eC (.int 2))) (eV 1)) (gSub (eV 0) (eC (.int 2))))
  (sRet (eV 2)))) ρ st
def t_law_draw : FS := fun ρ st => (sSeq (sIf (tB (eOp fLt (eOp fIx (eV 0) (eC (.int 2))) (eV 1))) (sAsg (eCall F_law_fresh [] (aCons (eV 0) aNil)) (gSub (eV 0) (eC (.int 2)))) sNext)
  r_law_draw_0) ρ st
def F_law_draw : List Val → Store → R Val := fnF false 2 3 t_law_draw
-- BLOCK law_kinds
def t_law_kinds : FS := fun ρ st => (sSeq (sSet 1 (eLst false (aCons (eB (fIsX tbI tbB) (aCons (eV 0) (aCons (eC (.gl "NoTurned")) aNil))) (aCons (eB (fIsX tbI tbB) (aCons (eV 0) (aCons (eC (.gl "NoCurve")) aNil))) (aCons (eB (fIsX tbI tbB) (aCons (eV 0) (aCons (eC (.gl "NoNumber")) aNil))) (aCons (eB (fIsX tbI tbB) (aCons (eV 0) (aCons (eC (.gl "NoText")) aNil))) aNil))))))
  (sSeq (sSet 1 (eOp (fAdd false) (eV 1) (eLst false (aCons (eB (fIsX tbI tbB) (aCons (eV 0) (aCons (eC (.gl "NoLetter")) aNil))) (aCons (eB (fIsX tbI tbB) (aCons (eV 0) (aCons (eC (.gl "NoMark")) aNil))) (aCons (eB (fIsX tbI tbB) (aCons (eV 0) (aCons (eC (.gl "NoRow")) aNil))) (aCons (eB (fIsX tbI tbB) (aCons (eV 0) (aCons (eC (.gl "NoCoin")) aNil))) aNil)))))))
  (sSeq (sSet 1 (eOp (fAdd false) (eV 1) (eLst false (aCons (eB (fIsX tbI tbB) (aCons (eV 0) (aCons (eC (.gl "NoGiven")) aNil))) (aCons (eB (fIsX tbI tbB) (aCons (eV 0) (aCons (eC (.gl "TooMany")) aNil))) (aCons (eB (fIsX tbI tbB) (aCons (eV 0) (aCons (eC (.gl "NoTurn")) aNil))) aNil))))))
  (sRet (eLc false (iEn (aCons (eV 1) aNil)) (gTup 2 (gCons (gN 2) (gCons (gN 3) gNil))) (tTru (eV 3)) (eV 2) [2, 3]))))) ρ st
def F_law_kinds : List Val → Store → R Val := fnF false 1 4 t_law_kinds
-- BLOCK law_pen
def t_law_pen : FS := fun ρ st => (sRet (eLst true (aCons (eB (fList false) (aCons (eSl false (eV 0) oNo (oAt (eC (.int 63)))) aNil)) (aCons (eC (.int 0)) (aCons (eC (.int 0)) aNil))))) ρ st
def F_law_pen : List Val → Store → R Val := fnF false 1 1 t_law_pen
-- BLOCK law_under
def t_law_under : FS := fun ρ st => (sSeq (sSet 1 (eLst false (aCons (eB (fIsX tbI tbB) (aCons (eV 0) (aCons (eC (.ty "ZeroDivisionError")) aNil))) (aCons (eB (fIsX tbI tbB) (aCons (eV 0) (aCons (eC (.ty "ValueError")) aNil))) (aCons (eB (fIsX tbI tbB) (aCons (eV 0) (aCons (eC (.ty "LookupError")) aNil))) aNil)))))
  (sSeq (sSet 1 (eOp (fAdd false) (eV 1) (eLst false (aCons (eB (fIsX tbI tbB) (aCons (eV 0) (aCons (eC (.ty "IndexError")) aNil))) (aCons (eB (fIsX tbI tbB) (aCons (eV 0) (aCons (eC (.ty "KeyError")) aNil))) (aCons (eB (fIsX tbI tbB) (aCons (eV 0) (aCons (eC (.ty "OverflowError")) aNil))) aNil))))))
  (sSeq (sSet 1 (eOp (fAdd false) (eV 1) (eLst false (aCons (eB (fIsX tbI tbB) (aCons (eV 0) (aCons (eC (.ty "RuntimeError")) aNil))) (aCons (eB (fIsX tbI tbB) (aCons (eV 0) (aCons (eC (.ty "NotImplementedError")) aNil))) aNil)))))
  (sRet (eLc false (iEn (aCons (eV 1) aNil)) (gTup 2 (gCons (gN 2) (gCons (gN 3) gNil))) (tTru (eV 3)) (eV 2) [2, 3]))))) ρ st
def F_law_under : List Val → Store → R Val := fnF false 1 4 t_law_under
-- BLOCK law
def r_law_0 : FS := fun ρ st => (sRet (eC (.bl true))) ρ st
def r_law_1 : FS := fun ρ st => (sSeq (sSet 13 (eMk0 "NoTurn"))
  (sIf (tOr (tB (eOp (fEq true) (eCall F_law_kinds [] (aCons (eV 13) aNil)) (eLst false (aCons (eC (.int 10)) aNil)))) (tB (eOp (fEq true) (eCall F_law_under [] (aCons (eV 13) aNil)) (eLst false (aCons (eC (.int 6)) aNil))))) (sRet (eC (.bl false))) sNext)) ρ st
def r_law_2 : FS := fun ρ st => (sIf (tOr (tB (eOp (fEq true) (eCall F_law_under [] (aCons (eV 9) aNil)) (eV 8))) (tOr (tB (eOp (fEq true) (eCall F_law_under [] (aCons (eV 10) aNil)) (eV 8))) (tB (eOp (fEq true) (eB fReprU (aCons (eV 11) aNil)) (eB fReprU (aCons (eLst false (aCons (eV 12) (aCons (eV 12) aNil))) aNil)))))) (sRet (eC (.bl false))) sNext) ρ st
def b_law_0 : FS := sWipe [0, 2, 3, 4, 6, 7, 8, 9, 10, 11, 12, 13, 14] (sSeq (sIf (tOr (tB (eOp (fEq true) (eCall F_law_kinds [] (aCons (eV 9) aNil)) (eLst false (aCons (eV 7) aNil)))) (tB (eOp (fEq true) (eCall F_law_kinds [] (aCons (eV 10) aNil)) (eLst false (aCons (eV 7) aNil))))) (sRet (eC (.bl false))) sNext)
  r_law_2)
def b_law_1 : FS := sWipe [0, 2, 3, 4, 6, 7, 8, 9, 10, 11, 12, 13, 14] (sFor [0, 2, 3, 4, 6, 7, 8, 9, 10, 11, 12, 13, 14] (iSeq (eCall F_law_all_made [] (aCons (eV 6) (aCons (eV 5) aNil)))) (gTup 2 (gCons (gTup 5 (gCons (gN 7) (gCons (gN 8) (gCons (gN 9) (gCons (gN 10) (gCons (gN 11) gNil)))))) (gCons (gN 12) gNil))) b_law_0)
def b_law_2 : FS := sWipe [0, 2, 3, 4, 5, 6, 7, 8, 9, 10, 11, 12, 13, 14] (sSeq (sSet 3 (eLst false (aCons (eCall F_law_draw [] (aCons (eV 1) (aCons (eC (.int 10)) aNil))) (aCons (eCall F_law_draw [] (aCons (eV 1) (aCons (eOp (fPow) (eC (.int 10)) (eC (.int 59))) aNil))) (aCons (eUn fNeg (eC (.int 1))) aNil)))))
  (sSeq (sSet 4 (eB fTuple (aCons (eLc false (iRg1 (aCons (eCall F_law_draw [] (aCons (eV 1) (aCons (eC (.int 4)) aNil))) aNil)) (gN 14) tYes (eCall F_law_draw [] (aCons (eV 1) (aCons (eC (.int 4)) aNil))) [14]) aNil)))
  (sSeq (sSet 5 (eTup (aCons (eV 4) (aCons (eOp fIx (eLst false (aCons (eC (.str "form")) (aCons (eC (.str "hand")) (aCons (eC (.str "name")) (aCons (eC (.str "road")) (aCons (eC (.str "long")) aNil)))))) (eCall F_law_draw [] (aCons (eV 1) (aCons (eC (.int 5)) aNil)))) aNil))))
  (sSeq (sFor [0, 2, 3, 4, 6, 7, 8, 9, 10, 11, 12, 13, 14] (iSeq (eV 3)) (gN 6) b_law_1)
  r_law_1))))
def t_law : FS := fun ρ st => (sSeq (sSet 1 (eCall F_law_pen [] (aCons (eV 0) aNil)))
  (sSeq (sFor [0, 2, 3, 4, 5, 6, 7, 8, 9, 10, 11, 12, 13, 14] (iRg1 (aCons (eB fMax2 (aCons (eC (.int 1)) (aCons (eB fMin2 (aCons (eC (.int 4)) (aCons (eB fLen (aCons (eV 0) aNil)) aNil))) aNil))) aNil)) (gN 2) b_law_2)
  r_law_0)) ρ st
def F_law : List Val → Store → R Val := fnF true 1 15 t_law
local macro_rules | `(tactic| walk_at "dz") => `(tactic| first | omega | with_reducible assumption | (simp only [List.length_map, List.length_cons, List.length_append, List.length_nil, List.length_replicate, List.length_range, List.length_reverse, List.length_set, List.length_take, List.length_drop, rngs_len, enL_len, Int.toNat_natCast] <;> omega))
local macro_rules | `(tactic| walk_at "ev") => `(tactic| simp (disch := walk_at "dz") only [seval, Int.reduceToNat, Nat.reduceAdd, Nat.reduceSub, Nat.reduceMul, Nat.reduceLT, Nat.reduceLeDiff, Nat.reduceEqDiff, Nat.reduceBEq, Nat.reduceMod, Nat.reduceDiv, Int.reduceAdd, Int.reduceSub, Int.reduceMul, Int.reduceNeg, Int.reduceLT, Int.reduceLE, Int.reduceEq, Int.reduceBEq, Int.reduceBNe, Int.reduceMod, Int.reduceDiv, Int.cast_ofNat_Int, t_law_all_made, r_law_fresh_0, r_law_fresh_1, r_law_fresh_2, t_law_fresh, r_law_draw_0, t_law_draw, t_law_kinds, t_law_pen, t_law_under, r_law_0, r_law_1, r_law_2, t_law])
local macro_rules | `(tactic| walk_at "ev*") => `(tactic| simp (disch := walk_at "dz") only [seval, Int.reduceToNat, Nat.reduceAdd, Nat.reduceSub, Nat.reduceMul, Nat.reduceLT, Nat.reduceLeDiff, Nat.reduceEqDiff, Nat.reduceBEq, Nat.reduceMod, Nat.reduceDiv, Int.reduceAdd, Int.reduceSub, Int.reduceMul, Int.reduceNeg, Int.reduceLT, Int.reduceLE, Int.reduceEq, Int.reduceBEq, Int.reduceBNe, Int.reduceMod, Int.reduceDiv, Int.cast_ofNat_Int, t_law_all_made, r_law_fresh_0, r_law_fresh_1, r_law_fresh_2, t_law_fresh, r_law_draw_0, t_law_draw, t_law_kinds, t_law_pen, t_law_under, r_law_0, r_law_1, r_law_2, t_law, *])
local macro_rules | `(tactic| walk_at "evd") => `(tactic| simp (disch := walk_at "dz") only [seval, Int.reduceToNat, Nat.reduceAdd, Nat.reduceSub, Nat.reduceMul, Nat.reduceLT, Nat.reduceLeDiff, Nat.reduceEqDiff, Nat.reduceBEq, Nat.reduceMod, Nat.reduceDiv, Int.reduceAdd, Int.reduceSub, Int.reduceMul, Int.reduceNeg, Int.reduceLT, Int.reduceLE, Int.reduceEq, Int.reduceBEq, Int.reduceBNe, Int.reduceMod, Int.reduceDiv, Int.cast_ofNat_Int, t_law_all_made, r_law_fresh_0, r_law_fresh_1, r_law_fresh_2, t_law_fresh, r_law_draw_0, t_law_draw, t_law_kinds, t_law_pen, t_law_under, r_law_0, r_law_1, r_law_2, t_law, dT, dF])
/-! ### the pen -/
/-- the pen's list: the cells, the place, what is left -/
def PenL (xs : List Val) : Prop := ∃ (ns : List Int) (a rest : Int), xs = [.ro (iL ns), .int a, .int rest] ∧ 0 ≤ a ∧ 0 ≤ rest
/-- at p lies a pen -/
def Pen (p : Nat) (st : Store) : Prop := ∃ xs, st[p]? = some (.lst xs) ∧ PenL xs
theorem pen_ok {ns : List Int} {st : Store} (h : ns.length ≤ 63) : F_law_pen [.wr (iL ns)] st = .ok (.ref st.length) (st ++ [.lst [.ro (iL ns), .int 0, .int 0]]) := by
  unfold F_law_pen
  walk_at "ev"
  rw [List.take_of_length_le (by show ns.length ≤ 63; exact h)]
theorem mix_low {a b : Int} (h : 0 < b) : 0 ≤ a % b ∧ a % b < b := ⟨Int.emod_nonneg _ (by omega), Int.emod_lt_of_pos _ h⟩
theorem fresh_mix {p : Nat} {st : Store} {a c : Int} {v : Option Val} : ∃ n, r_law_fresh_1 [v, some (.int a), some (.int c), none, none, none, none] st = .rt (.int n) st ∧ 0 ≤ n := by
  walk_at "ev"
  generalize hb : (c * 48271 + 40692 * a + 31) % 2305843009213693951 = b
  have b0 := mix_low (a := c * 48271 + 40692 * a + 31) (b := 2305843009213693951) (by decide)
  rw [hb] at b0
  rw [rngs_map]
  obtain ⟨e1, e2, e3⟩ := fl_foldP (g := gN 6) (b := b_law_fresh_0) (cur := fun _ => some ((List.range 6).map fun i => Val.int (0 + (i : Nat)))) (List.range 6) (fun i => Val.int (0 + (i : Nat)))
    (fun (s : Int × Int) i => ((s.1 * s.1 + 69621 * (0 + (i : Nat) + 1) * (a + 1) + c) % 2305843009213693951, s.2 * 2305843009213693951 + (s.1 * s.1 + 69621 * (0 + (i : Nat) + 1) * (a + 1) + c) % 2305843009213693951))
    (fun _ s => (0 ≤ s.1 ∧ s.1 < 2305843009213693951) ∧ 0 ≤ s.2) (fun s => [none, some (.int a), some (.int c), some (.int 2305843009213693951), some (.int s.1), some (.int s.2), none]) (fun _ => st) (b, b) (by decide) ⟨b0, b0.1⟩ (fun _ => rfl) (by
    rintro d i r s hd ⟨⟨h0, h1⟩, h2⟩
    have hi : i < 6 := by have : i ∈ List.range 6 := by rw [hd]; simp
                          simpa using this
    unfold b_law_fresh_0
    refine ⟨_, _, rfl, .inl ?_, mix_low (by decide), ?_⟩
    · walk_at "ev"
    · have := mix_low (a := s.1 * s.1 + 69621 * (0 + (i : Nat) + 1) * (a + 1) + c) (b := 2305843009213693951) (by decide)
      omega)
  have e1' := e1
  dsimp only at e1'
  rw [e1']
  walk_at "ev"
  exact ⟨_, rfl, e3⟩
theorem fresh_ok {p : Nat} {st : Store} {xs : List Val} (h : st[p]? = some (.lst xs)) (hx : PenL xs) : ∃ n ys, F_law_fresh [.ref p] st = .ok (.int n) (st.set p (.lst ys)) ∧ 0 ≤ n ∧ PenL ys := by
  obtain ⟨ns, a, rest, rfl, a0, r0⟩ := hx
  have hp : p < st.length := (List.getElem?_eq_some_iff.mp h).1
  have pa : ∀ ρ : FL.Env, putAt1 st p (.int 1) (.int (a + 1)) ρ = some (ρ, st.set p (.lst [.ro (iL ns), .int (a + 1), .int rest])) := fun ρ => by rw [putAt_lst h (by decide) (by simp)]; rfl
  have hS : (st.set p (.lst [.ro (iL ns), .int (a + 1), .int rest]))[p]? = some (.lst [.ro (iL ns), .int (a + 1), .int rest]) := store_set hp
  suffices hs : ∀ c : Int, ∃ n, r_law_fresh_2 [some (.ref p), some (.int a), some (.int c), none, none, none, none] (st.set p (.lst [.ro (iL ns), .int (a + 1), .int rest])) = .rt (.int n) (st.set p (.lst [.ro (iL ns), .int (a + 1), .int rest])) ∧ 0 ≤ n by
    unfold F_law_fresh
    simp (disch := walk_at "dz") only [seval, Int.reduceToNat, Nat.reduceAdd, Nat.reduceSub, Nat.reduceMul, Nat.reduceLT, Nat.reduceLeDiff, Nat.reduceEqDiff, Nat.reduceBEq, Nat.reduceMod, Nat.reduceDiv, Int.reduceAdd, Int.reduceSub, Int.reduceMul, Int.reduceNeg, Int.reduceLT, Int.reduceLE, Int.reduceEq, Int.reduceBEq, Int.reduceBNe, Int.reduceMod, Int.reduceDiv, Int.cast_ofNat_Int, t_law_fresh, h, pa, hS]
    by_cases e : ns = []
    · rw [decide_eq_true e]
      obtain ⟨n, h1, h2⟩ := hs 0
      simp (disch := walk_at "dz") only [seval, Int.reduceToNat, Nat.reduceAdd, Nat.reduceSub, Nat.reduceMul, Nat.reduceLT, Nat.reduceLeDiff, Nat.reduceEqDiff, Nat.reduceBEq, Nat.reduceMod, Nat.reduceDiv, Int.reduceAdd, Int.reduceSub, Int.reduceMul, Int.reduceNeg, Int.reduceLT, Int.reduceLE, Int.reduceEq, Int.reduceBEq, Int.reduceBNe, Int.reduceMod, Int.reduceDiv, Int.cast_ofNat_Int, h1]
      exact ⟨n, _, rfl, h2, ns, a + 1, rest, rfl, by omega, r0⟩
    · rw [decide_eq_false e]
      have hl : 0 < (ns.length : Int) := by
        have := List.length_pos_iff.mpr e
        omega
      have hm := mix_low (a := a) hl
      obtain ⟨n, h1, h2⟩ := hs (ns.getD (a % (ns.length : Int)).toNat 0)
      simp (disch := walk_at "dz") only [seval, Int.reduceToNat, Nat.reduceAdd, Nat.reduceSub, Nat.reduceMul, Nat.reduceLT, Nat.reduceLeDiff, Nat.reduceEqDiff, Nat.reduceBEq, Nat.reduceMod, Nat.reduceDiv, Int.reduceAdd, Int.reduceSub, Int.reduceMul, Int.reduceNeg, Int.reduceLT, Int.reduceLE, Int.reduceEq, Int.reduceBEq, Int.reduceBNe, Int.reduceMod, Int.reduceDiv, Int.cast_ofNat_Int, h1, hS]
      exact ⟨n, _, rfl, h2, ns, a + 1, rest, rfl, by omega, r0⟩
  intro c
  obtain ⟨n, h1, h2⟩ := fresh_mix (p := p) (st := st.set p (.lst [.ro (iL ns), .int (a + 1), .int rest])) (a := a) (c := c) (v := some (.ref p))
  simp (disch := walk_at "dz") only [seval, Int.reduceToNat, Nat.reduceAdd, Nat.reduceSub, Nat.reduceMul, Nat.reduceLT, Nat.reduceLeDiff, Nat.reduceEqDiff, Nat.reduceBEq, Nat.reduceMod, Nat.reduceDiv, Int.reduceAdd, Int.reduceSub, Int.reduceMul, Int.reduceNeg, Int.reduceLT, Int.reduceLE, Int.reduceEq, Int.reduceBEq, Int.reduceBNe, Int.reduceMod, Int.reduceDiv, Int.cast_ofNat_Int, r_law_fresh_2, hS]
  by_cases e : a < (ns.length : Int)
  · rw [decide_eq_true e]
    simp (disch := walk_at "dz") only [seval, Int.reduceToNat, Nat.reduceAdd, Nat.reduceSub, Nat.reduceMul, Nat.reduceLT, Nat.reduceLeDiff, Nat.reduceEqDiff, Nat.reduceBEq, Nat.reduceMod, Nat.reduceDiv, Int.reduceAdd, Int.reduceSub, Int.reduceMul, Int.reduceNeg, Int.reduceLT, Int.reduceLE, Int.reduceEq, Int.reduceBEq, Int.reduceBNe, Int.reduceMod, Int.reduceDiv, Int.cast_ofNat_Int]
    by_cases e2 : 1000000000000000000 ≤ c
    · rw [decide_eq_true e2]
      walk_at "ev"
      exact ⟨_, rfl, by omega⟩
    · rw [decide_eq_false e2]
      simp (disch := walk_at "dz") only [seval, Int.reduceToNat, Nat.reduceAdd, Nat.reduceSub, Nat.reduceMul, Nat.reduceLT, Nat.reduceLeDiff, Nat.reduceEqDiff, Nat.reduceBEq, Nat.reduceMod, Nat.reduceDiv, Int.reduceAdd, Int.reduceSub, Int.reduceMul, Int.reduceNeg, Int.reduceLT, Int.reduceLE, Int.reduceEq, Int.reduceBEq, Int.reduceBNe, Int.reduceMod, Int.reduceDiv, Int.cast_ofNat_Int, h1]
      exact ⟨n, rfl, h2⟩
  · rw [decide_eq_false e]
    simp (disch := walk_at "dz") only [seval, Int.reduceToNat, Nat.reduceAdd, Nat.reduceSub, Nat.reduceMul, Nat.reduceLT, Nat.reduceLeDiff, Nat.reduceEqDiff, Nat.reduceBEq, Nat.reduceMod, Nat.reduceDiv, Int.reduceAdd, Int.reduceSub, Int.reduceMul, Int.reduceNeg, Int.reduceLT, Int.reduceLE, Int.reduceEq, Int.reduceBEq, Int.reduceBNe, Int.reduceMod, Int.reduceDiv, Int.cast_ofNat_Int, h1]
    exact ⟨n, rfl, h2⟩
theorem draw_ok {p : Nat} {st : Store} {xs : List Val} {m : Int} (h : st[p]? = some (.lst xs)) (hx : PenL xs) (hm : 0 < m ∧ m < 1152921504606846976) : ∃ d ys, F_law_draw [.ref p, .int m] st = .ok (.int d) (st.set p (.lst ys)) ∧ 0 ≤ d ∧ d < m ∧ PenL ys := by
  have hp : p < st.length := (List.getElem?_eq_some_iff.mp h).1
  have key : ∀ (S : Store) (ns : List Int) (a rest : Int), S[p]? = some (.lst [.ro (iL ns), .int a, .int rest]) → 0 ≤ a → 0 ≤ rest → ∃ d ys, r_law_draw_0 [some (.ref p), some (.int m), none] S = .rt (.int d) (S.set p (.lst ys)) ∧ 0 ≤ d ∧ d < m ∧ PenL ys := by
    intro S ns a rest hS a0 r0
    have pa : ∀ (ρ : FL.Env) (x : Int), putAt1 S p (.int 2) (.int x) ρ = some (ρ, S.set p (.lst [.ro (iL ns), .int a, .int x])) := fun ρ x => by rw [putAt_lst hS (by decide) (by simp)]; rfl
    simp (disch := walk_at "dz") only [seval, Int.reduceToNat, Nat.reduceAdd, Nat.reduceSub, Nat.reduceMul, Nat.reduceLT, Nat.reduceLeDiff, Nat.reduceEqDiff, Nat.reduceBEq, Nat.reduceMod, Nat.reduceDiv, Int.reduceAdd, Int.reduceSub, Int.reduceMul, Int.reduceNeg, Int.reduceLT, Int.reduceLE, Int.reduceEq, Int.reduceBEq, Int.reduceBNe, Int.reduceMod, Int.reduceDiv, Int.cast_ofNat_Int, r_law_draw_0, hS, pa]
    have hmod := mix_low (a := rest) hm.1
    exact ⟨_, _, rfl, hmod.1, hmod.2, ns, a, rest / m, rfl, a0, Int.ediv_nonneg r0 (by omega)⟩
  obtain ⟨ns, a, rest, rfl, a0, r0⟩ := id hx
  unfold F_law_draw
  simp (disch := walk_at "dz") only [seval, Int.reduceToNat, Nat.reduceAdd, Nat.reduceSub, Nat.reduceMul, Nat.reduceLT, Nat.reduceLeDiff, Nat.reduceEqDiff, Nat.reduceBEq, Nat.reduceMod, Nat.reduceDiv, Int.reduceAdd, Int.reduceSub, Int.reduceMul, Int.reduceNeg, Int.reduceLT, Int.reduceLE, Int.reduceEq, Int.reduceBEq, Int.reduceBNe, Int.reduceMod, Int.reduceDiv, Int.cast_ofNat_Int, t_law_draw, h]
  by_cases e : rest < m
  · rw [decide_eq_true e]
    obtain ⟨n, ys, h1, h2, ns', a', rest', rfl, a0', r0'⟩ := fresh_ok h hx
    have hS : (st.set p (.lst [.ro (iL ns'), .int a', .int rest']))[p]? = some (.lst [.ro (iL ns'), .int a', .int rest']) := store_set hp
    have pa : ∀ (ρ : FL.Env), putAt1 (st.set p (.lst [.ro (iL ns'), .int a', .int rest'])) p (.int 2) (.int n) ρ = some (ρ, st.set p (.lst [.ro (iL ns'), .int a', .int n])) := fun ρ => by rw [putAt_lst hS (by decide) (by simp), List.set_set]; rfl
    obtain ⟨d, ys, h3, h4, h5, h6⟩ := key (st.set p (.lst [.ro (iL ns'), .int a', .int n])) ns' a' n (store_set hp) a0' h2
    simp (disch := walk_at "dz") only [seval, Int.reduceToNat, Nat.reduceAdd, Nat.reduceSub, Nat.reduceMul, Nat.reduceLT, Nat.reduceLeDiff, Nat.reduceEqDiff, Nat.reduceBEq, Nat.reduceMod, Nat.reduceDiv, Int.reduceAdd, Int.reduceSub, Int.reduceMul, Int.reduceNeg, Int.reduceLT, Int.reduceLE, Int.reduceEq, Int.reduceBEq, Int.reduceBNe, Int.reduceMod, Int.reduceDiv, Int.cast_ofNat_Int, h1, pa, h3, List.set_set]
    exact ⟨d, ys, rfl, h4, h5, h6⟩
  · rw [decide_eq_false e]
    obtain ⟨d, ys, h3, h4, h5, h6⟩ := key st ns a rest h a0 r0
    simp (disch := walk_at "dz") only [seval, Int.reduceToNat, Nat.reduceAdd, Nat.reduceSub, Nat.reduceMul, Nat.reduceLT, Nat.reduceLeDiff, Nat.reduceEqDiff, Nat.reduceBEq, Nat.reduceMod, Nat.reduceDiv, Int.reduceAdd, Int.reduceSub, Int.reduceMul, Int.reduceNeg, Int.reduceLT, Int.reduceLE, Int.reduceEq, Int.reduceBEq, Int.reduceBNe, Int.reduceMod, Int.reduceDiv, Int.cast_ofNat_Int, h3]
    exact ⟨d, ys, rfl, h4, h5, h6⟩
/-! ### drawing, the rest staying -/
/-- p's cell may change, a pen it stays; all else stays -/
structure Pd (p : Nat) (st st' : Store) : Prop where
  len : st'.length = st.length
  oth : ∀ i, i ≠ p → st'[i]? = st[i]?
  pen : Pen p st'
theorem Pd.trans {p : Nat} {a b c : Store} (h : Pd p a b) (g : Pd p b c) : Pd p a c := ⟨g.len.trans h.len, fun i hi => (g.oth i hi).trans (h.oth i hi), g.pen⟩
theorem Pd.refl {p : Nat} {a : Store} (h : Pen p a) : Pd p a a := ⟨rfl, fun _ _ => rfl, h⟩
theorem draw_pen {p : Nat} {st : Store} {m : Int} (h : Pen p st) (hm : 0 < m ∧ m < 1152921504606846976) : ∃ d st', F_law_draw [.ref p, .int m] st = .ok (.int d) st' ∧ 0 ≤ d ∧ d < m ∧ Pd p st st' := by
  obtain ⟨xs, h1, h2⟩ := h
  obtain ⟨d, ys, e, d0, d1, hy⟩ := draw_ok h1 h2 hm
  exact ⟨d, _, e, d0, d1, List.length_set, fun i hi => List.getElem?_set_ne fun z => hi z.symm, ys, store_set (List.getElem?_eq_some_iff.mp h1).1, hy⟩
/-- at the beginning -/
theorem pen_new {ns : List Int} {st : Store} : Pen st.length (st ++ [.lst [.ro (iL ns), .int 0, .int 0]]) := ⟨_, store_new, ns, 0, 0, rfl, Int.le_refl _, Int.le_refl _⟩
/-- all cells speak of cells of the store alone -/
def Cl (st : Store) : Prop := closed st.length st = true
theorem PenL.cl {xs : List Val} {n : Nat} (h : PenL xs) : cellBelow n (.lst xs) = true := by
  obtain ⟨ns, a, r, rfl, _, _⟩ := h
  show belows n _ = true
  simp only [belows_cons, below_ro, belows_ints, below_int, belows_nil, Bool.and_self]
theorem Pd.cl {p : Nat} {st st' : Store} (h : Pd p st st') (c : Cl st) : Cl st' := by
  unfold Cl closed
  refine List.all_eq_true.mpr fun x hx => ?_
  obtain ⟨i, hi⟩ := List.mem_iff_getElem?.mp hx
  rw [h.len]
  by_cases e : i = p
  · subst e
    obtain ⟨xs, h1, h2⟩ := h.pen
    rw [h1] at hi
    cases hi
    exact h2.cl
  · rw [h.oth i e] at hi
    exact List.all_eq_true.mp c x (List.mem_of_getElem? hi)
theorem retV_cl {st0 st' : Store} {cs : Store} {x : Val} (hl : st'.length = st0.length) (hb : below 0 x = true) (hc : Cl st') : retV st0 x (st' ++ cs) = (x, st') := by
  have ht : (st' ++ cs).take st0.length = st' := by rw [← hl, List.take_append_of_le_length (Nat.le_refl _), List.take_length]
  unfold retV frz
  rw [frzV_id hb]
  dsimp only
  have hL : leftB st0 (st' ++ cs) = true := by
    unfold leftB
    rw [ht, ← hl, show closed st'.length st' = true from hc, Bool.or_true]
  rw [hL, ht]
  rfl
theorem cl_pen {ns : List Int} : Cl [.lst [.ro (iL ns), .int 0, .int 0]] := by
  show (cellBelow 1 (.lst [.ro (iL ns), .int 0, .int 0]) && true) = true
  rw [PenL.cl ⟨ns, 0, 0, rfl, Int.le_refl _, Int.le_refl _⟩]
  rfl
/-- a pen stays a pen behind what is added -/
theorem Pen.app {p : Nat} {st cs : Store} (h : Pen p st) : Pen p (st ++ cs) := by
  obtain ⟨xs, h1, h2⟩ := h
  exact ⟨xs, by rw [List.getElem?_append_left (List.getElem?_eq_some_iff.mp h1).1]; exact h1, h2⟩
/-- drawing with cells behind -/
theorem Pd.split {p : Nat} {st st' cs : Store} (h : Pd p (st ++ cs) st') (hp : p < st.length) : ∃ s2, st' = s2 ++ cs ∧ (Pen p st → Pd p st s2) := by
  have hl := h.len
  rw [List.length_append] at hl
  have e : st' = st'.take st.length ++ cs := by
    apply List.ext_getElem?
    intro i
    by_cases hi : i < st.length
    · rw [List.getElem?_append_left (by rw [List.length_take]; omega), List.getElem?_take, if_pos hi]
    · have h2 := h.oth i (by omega)
      rw [h2, List.getElem?_append_right (by omega), List.getElem?_append_right (by rw [List.length_take]; omega), List.length_take, Nat.min_eq_left (by omega)]
  refine ⟨st'.take st.length, e, fun hpn => ⟨by rw [List.length_take]; omega, fun i hi => ?_, ?_⟩⟩
  · rw [List.getElem?_take]
    by_cases hl2 : i < st.length
    · rw [if_pos hl2, h.oth i hi, List.getElem?_append_left hl2]
    · rw [if_neg hl2, List.getElem?_eq_none (by omega)]
  · obtain ⟨xs, h1, h2⟩ := h.pen
    exact ⟨xs, by rw [List.getElem?_take, if_pos hp]; exact h1, h2⟩
theorem Pen.lt {p : Nat} {st : Store} (h : Pen p st) : p < st.length := let ⟨_, h1, _⟩ := h; (List.getElem?_eq_some_iff.mp h1).1
/-- drawing where a cell lies behind -/
theorem draw_pen' {p : Nat} {st cs : Store} {m : Int} (h : Pen p st) (hm : 0 < m ∧ m < 1152921504606846976) : ∃ d st', F_law_draw [.ref p, .int m] (st ++ cs) = .ok (.int d) (st' ++ cs) ∧ 0 ≤ d ∧ d < m ∧ Pd p st st' := by
  obtain ⟨d, s1, e, d0, d1, hd⟩ := draw_pen (m := m) (h.app (cs := cs)) hm
  obtain ⟨s2, rfl, hs⟩ := hd.split h.lt
  exact ⟨d, s2, e, d0, d1, hs h⟩
theorem retV_cl0 {st0 st' : Store} {x : Val} (hl : st'.length = st0.length) (hb : below 0 x = true) (hc : Cl st') : retV st0 x st' = (x, st') := by
  have := retV_cl (cs := []) hl hb hc
  rwa [List.append_nil] at this
theorem div_big {i j : Int} {st : Store} (h : okDiv j = true) : fDiv (.int i) (.int j) st = some (.int (i / j), st) := by
  show (bif okDiv j then _ else _) = _
  rw [h] <;> rfl
/-- a draw below any number -/
theorem draw_okB {p : Nat} {st : Store} {xs : List Val} {m : Int} (h : st[p]? = some (.lst xs)) (hx : PenL xs) (hm : 0 < m) (hv : okDiv m = true) : ∃ d ys, F_law_draw [.ref p, .int m] st = .ok (.int d) (st.set p (.lst ys)) ∧ 0 ≤ d ∧ d < m ∧ PenL ys := by
  have hp : p < st.length := (List.getElem?_eq_some_iff.mp h).1
  have key : ∀ (S : Store) (ns : List Int) (a rest : Int), S[p]? = some (.lst [.ro (iL ns), .int a, .int rest]) → 0 ≤ a → 0 ≤ rest → ∃ d ys, r_law_draw_0 [some (.ref p), some (.int m), none] S = .rt (.int d) (S.set p (.lst ys)) ∧ 0 ≤ d ∧ d < m ∧ PenL ys := by
    intro S ns a rest hS a0 r0
    have pa : ∀ (ρ : FL.Env) (x : Int), putAt1 S p (.int 2) (.int x) ρ = some (ρ, S.set p (.lst [.ro (iL ns), .int a, .int x])) := fun ρ x => by rw [putAt_lst hS (by decide) (by simp)]; rfl
    have hdv := fun i S => div_big (i := i) (st := S) hv
    simp (disch := walk_at "dz") only [seval, Int.reduceToNat, Nat.reduceAdd, Nat.reduceSub, Nat.reduceMul, Nat.reduceLT, Nat.reduceLeDiff, Nat.reduceEqDiff, Nat.reduceBEq, Nat.reduceMod, Nat.reduceDiv, Int.reduceAdd, Int.reduceSub, Int.reduceMul, Int.reduceNeg, Int.reduceLT, Int.reduceLE, Int.reduceEq, Int.reduceBEq, Int.reduceBNe, Int.reduceMod, Int.reduceDiv, Int.cast_ofNat_Int, r_law_draw_0, hS, pa, hdv]
    have hmod := mix_low (a := rest) hm
    exact ⟨_, _, rfl, hmod.1, hmod.2, ns, a, rest / m, rfl, a0, Int.ediv_nonneg r0 (by omega)⟩
  obtain ⟨ns, a, rest, rfl, a0, r0⟩ := id hx
  unfold F_law_draw
  simp (disch := walk_at "dz") only [seval, Int.reduceToNat, Nat.reduceAdd, Nat.reduceSub, Nat.reduceMul, Nat.reduceLT, Nat.reduceLeDiff, Nat.reduceEqDiff, Nat.reduceBEq, Nat.reduceMod, Nat.reduceDiv, Int.reduceAdd, Int.reduceSub, Int.reduceMul, Int.reduceNeg, Int.reduceLT, Int.reduceLE, Int.reduceEq, Int.reduceBEq, Int.reduceBNe, Int.reduceMod, Int.reduceDiv, Int.cast_ofNat_Int, t_law_draw, h]
  by_cases e : rest < m
  · rw [decide_eq_true e]
    obtain ⟨n, ys, h1, h2, ns', a', rest', rfl, a0', r0'⟩ := fresh_ok h hx
    have hS : (st.set p (.lst [.ro (iL ns'), .int a', .int rest']))[p]? = some (.lst [.ro (iL ns'), .int a', .int rest']) := store_set hp
    have pa : ∀ (ρ : FL.Env), putAt1 (st.set p (.lst [.ro (iL ns'), .int a', .int rest'])) p (.int 2) (.int n) ρ = some (ρ, st.set p (.lst [.ro (iL ns'), .int a', .int n])) := fun ρ => by rw [putAt_lst hS (by decide) (by simp), List.set_set]; rfl
    obtain ⟨d, ys, h3, h4, h5, h6⟩ := key (st.set p (.lst [.ro (iL ns'), .int a', .int n])) ns' a' n (store_set hp) a0' h2
    simp (disch := walk_at "dz") only [seval, Int.reduceToNat, Nat.reduceAdd, Nat.reduceSub, Nat.reduceMul, Nat.reduceLT, Nat.reduceLeDiff, Nat.reduceEqDiff, Nat.reduceBEq, Nat.reduceMod, Nat.reduceDiv, Int.reduceAdd, Int.reduceSub, Int.reduceMul, Int.reduceNeg, Int.reduceLT, Int.reduceLE, Int.reduceEq, Int.reduceBEq, Int.reduceBNe, Int.reduceMod, Int.reduceDiv, Int.cast_ofNat_Int, h1, pa, h3, List.set_set]
    exact ⟨d, ys, rfl, h4, h5, h6⟩
  · rw [decide_eq_false e]
    obtain ⟨d, ys, h3, h4, h5, h6⟩ := key st ns a rest h a0 r0
    simp (disch := walk_at "dz") only [seval, Int.reduceToNat, Nat.reduceAdd, Nat.reduceSub, Nat.reduceMul, Nat.reduceLT, Nat.reduceLeDiff, Nat.reduceEqDiff, Nat.reduceBEq, Nat.reduceMod, Nat.reduceDiv, Int.reduceAdd, Int.reduceSub, Int.reduceMul, Int.reduceNeg, Int.reduceLT, Int.reduceLE, Int.reduceEq, Int.reduceBEq, Int.reduceBNe, Int.reduceMod, Int.reduceDiv, Int.cast_ofNat_Int, h3]
    exact ⟨d, ys, rfl, h4, h5, h6⟩

theorem draw_big {p : Nat} {st : Store} {m : Int} (h : Pen p st) (hm : 0 < m) (hv : okDiv m = true) : ∃ d st', F_law_draw [.ref p, .int m] st = .ok (.int d) st' ∧ 0 ≤ d ∧ d < m ∧ Pd p st st' := by
  obtain ⟨xs, h1, h2⟩ := h
  obtain ⟨d, ys, e, d0, d1, hy⟩ := draw_okB h1 h2 hm hv
  exact ⟨d, _, e, d0, d1, List.length_set, fun i hi => List.getElem?_set_ne fun z => hi z.symm, ys, store_set (List.getElem?_eq_some_iff.mp h1).1, hy⟩

/-- each class: its place, Python's kinds, its name, its field -/
def clsI : List (Int × List Int × Str × Str) := [(0, [0], "NoTurned", "prime"), (1, [1], "NoCurve", "place"), (2, [1], "NoNumber", "hand"), (4, [2], "NoLetter", "step"), (5, [2], "NoMark", "number"), (6, [2], "NoRow", "number"), (7, [2, 3], "NoCoin", "hand"), (8, [2, 4], "NoGiven", "hand"), (9, [5], "TooMany", "most")]
def txt : Int × List Int × Str × Str := (3, [1], "NoText", "why")
def row (x : Val) (r : Int × List Int × Str × Str) : Val := .tup [.int r.1, .ro (r.2.1.map Val.int), .ex1 r.2.2.1 r.2.2.2 x, .ex1 r.2.2.1 r.2.2.2 x, .ro [x, x]]
theorem kinds_ok {x : Val} {st : Store} : ∀ r ∈ clsI ++ [txt], F_law_kinds [.ex1 r.2.2.1 r.2.2.2 x] st = .ok (.ro [.int r.1]) st ∧ F_law_under [.ex1 r.2.2.1 r.2.2.2 x] st = .ok (.ro (r.2.1.map Val.int)) st := by
  intro r hr
  simp only [clsI, txt, List.cons_append, List.nil_append, List.mem_cons, List.not_mem_nil, or_false] at hr
  rcases hr with rfl | rfl | rfl | rfl | rfl | rfl | rfl | rfl | rfl | rfl <;> constructor <;> kernel_rfl
theorem turn_ok {st : Store} : F_law_kinds [.ex0 "NoTurn"] st = .ok (.ro [.int 10]) st ∧ F_law_under [.ex0 "NoTurn"] st = .ok (.ro [.int 6]) st := by
  constructor <;> kernel_rfl
theorem made_ok {i : Int} {x : Val} {st : Store} (hx : below 0 x = true) : F_law_all_made [.int i, x] st = .ok (.ro (clsI.map (fun r => .tup [row (.int i) r, .int i]) ++ [.tup [row x txt, x]])) st := by
  have k1 := fun y S => kXf_eq (cs := ["NoTurned"]) (n := "NoTurned") (f := "prime") (x := y) (st := S) (by decide)
  have k2 := fun y S => kXf_eq (cs := ["NoCurve"]) (n := "NoCurve") (f := "place") (x := y) (st := S) (by decide)
  have k3 := fun y S => kXf_eq (cs := ["NoNumber", "NoCoin", "NoGiven"]) (n := "NoNumber") (f := "hand") (x := y) (st := S) (by decide)
  have k4 := fun y S => kXf_eq (cs := ["NoLetter"]) (n := "NoLetter") (f := "step") (x := y) (st := S) (by decide)
  have k5 := fun y S => kXf_eq (cs := ["NoMark", "NoRow"]) (n := "NoMark") (f := "number") (x := y) (st := S) (by decide)
  have k6 := fun y S => kXf_eq (cs := ["NoMark", "NoRow"]) (n := "NoRow") (f := "number") (x := y) (st := S) (by decide)
  have k7 := fun y S => kXf_eq (cs := ["NoNumber", "NoCoin", "NoGiven"]) (n := "NoCoin") (f := "hand") (x := y) (st := S) (by decide)
  have k8 := fun y S => kXf_eq (cs := ["NoNumber", "NoCoin", "NoGiven"]) (n := "NoGiven") (f := "hand") (x := y) (st := S) (by decide)
  have k9 := fun y S => kXf_eq (cs := ["TooMany"]) (n := "TooMany") (f := "most") (x := y) (st := S) (by decide)
  have k10 := fun y S => kXf_eq (cs := ["NoText"]) (n := "NoText") (f := "why") (x := y) (st := S) (by decide)
  have e1 := fun (cur : Its) hc => lcl_mp (cur := cur) (g := gN 4) (tt := FL.tYes) (te := eTup (aCons (eV 4) (aCons (eV 0) aNil))) (ρ := [some (.int i), some x, some (.ref st.length), some (.ro [row x txt]), none]) (st := st ++ [.lst (clsI.map (row (.int i)))]) (clsI.map (row (.int i))) id (fun v => .tup [v, .int i])
    hc (by simp [clsI]) (fun a _ => by unfold id; walk_at "ev" <;> rfl)
  have e2 := lcl_mp (cur := fun _ => some [row x txt]) (g := gN 4) (tt := FL.tYes) (te := eTup (aCons (eV 4) (aCons (eV 1) aNil))) (ρ := [some (.int i), some x, some (.ref st.length), some (.ro [row x txt]), none]) (st := st ++ [.lst (clsI.map (row (.int i)))]) [row x txt] id (fun v => .tup [v, x])
    (by rfl) (by simp) (fun a _ => by unfold id; walk_at "ev" <;> rfl)
  rw [List.map_id] at e1
  dsimp only [clsI, txt, row, List.map] at e1 e2
  unfold F_law_all_made
  simp (disch := walk_at "dz") only [seval, Int.reduceToNat, Nat.reduceAdd, Nat.reduceSub, Nat.reduceMul, Nat.reduceLT, Nat.reduceLeDiff, Nat.reduceEqDiff, Nat.reduceBEq, Nat.reduceMod, Nat.reduceDiv, Int.reduceAdd, Int.reduceSub, Int.reduceMul, Int.reduceNeg, Int.reduceLT, Int.reduceLE, Int.reduceEq, Int.reduceBEq, Int.reduceBNe, Int.reduceMod, Int.reduceDiv, Int.cast_ofNat_Int, t_law_all_made, r_law_fresh_0, r_law_fresh_1, r_law_fresh_2, t_law_fresh, r_law_draw_0, t_law_draw, t_law_kinds, t_law_pen, t_law_under, r_law_0, r_law_1, r_law_2, t_law, k1, k2, k3, k4, k5, k6, k7, k8, k9, k10]
  rw [e1 _ (by simp)]
  simp (disch := walk_at "dz") only [seval, Int.reduceToNat, Nat.reduceAdd, Nat.reduceSub, Nat.reduceMul, Nat.reduceLT, Nat.reduceLeDiff, Nat.reduceEqDiff, Nat.reduceBEq, Nat.reduceMod, Nat.reduceDiv, Int.reduceAdd, Int.reduceSub, Int.reduceMul, Int.reduceNeg, Int.reduceLT, Int.reduceLE, Int.reduceEq, Int.reduceBEq, Int.reduceBNe, Int.reduceMod, Int.reduceDiv, Int.cast_ofNat_Int]
  rw [e2]
  simp (disch := walk_at "dz") only [seval, Int.reduceToNat, Nat.reduceAdd, Nat.reduceSub, Nat.reduceMul, Nat.reduceLT, Nat.reduceLeDiff, Nat.reduceEqDiff, Nat.reduceBEq, Nat.reduceMod, Nat.reduceDiv, Int.reduceAdd, Int.reduceSub, Int.reduceMul, Int.reduceNeg, Int.reduceLT, Int.reduceLE, Int.reduceEq, Int.reduceBEq, Int.reduceBNe, Int.reduceMod, Int.reduceDiv, Int.cast_ofNat_Int]
  rw [retV_id (by simp) (by simp [below, belows, hx])]
  rfl
theorem texts {x : Val} {S : Store} (hr : ∃ s, fReprU [.ro [x, x]] S = some (.str s, S)) (pv o5 : Option Val) (r : Int × List Int × Str × Str) (hm : r ∈ clsI ++ [txt]) :
    ∃ ρ1, (gTup 2 (gCons (gTup 5 (gCons (gN 7) (gCons (gN 8) (gCons (gN 9) (gCons (gN 10) (gCons (gN 11) gNil)))))) (gCons (gN 12) gNil))) (.tup [row x r, x]) [none, pv, none, none, none, o5, none, none, none, none, none, none, none, none, none] S = some (ρ1, S) ∧
      b_law_0 ρ1 S = .nx [none, pv, none, none, none, o5, none, none, none, none, none, none, none, none, none] S := by
  obtain ⟨s, hs⟩ := hr
  obtain ⟨k1, k2⟩ := kinds_ok (x := x) (st := S) r hm
  have n1 : fEq true (.ro [.int r.1]) (.ro [.int r.1]) S = some (.bl (!decide ([r.1] = [r.1])), S) := ne_ro (a := [r.1]) (c := [r.1])
  unfold row
  refine ⟨_, by walk_at "ev" <;> rfl, ?_⟩
  unfold b_law_0
  simp (disch := walk_at "dz") only [seval, Int.reduceToNat, Nat.reduceAdd, Nat.reduceSub, Nat.reduceMul, Nat.reduceLT, Nat.reduceLeDiff, Nat.reduceEqDiff, Nat.reduceBEq, Nat.reduceMod, Nat.reduceDiv, Int.reduceAdd, Int.reduceSub, Int.reduceMul, Int.reduceNeg, Int.reduceLT, Int.reduceLE, Int.reduceEq, Int.reduceBEq, Int.reduceBNe, Int.reduceMod, Int.reduceDiv, Int.cast_ofNat_Int, t_law_all_made, r_law_fresh_0, r_law_fresh_1, r_law_fresh_2, t_law_fresh, r_law_draw_0, t_law_draw, t_law_kinds, t_law_pen, t_law_under, r_law_0, r_law_1, r_law_2, t_law, k1, k2, hs, n1, decide_true]

/-- one number: all rows -/
theorem one_ok {i : Int} {x : Val} {S : Store} (hx : below 0 x = true) (h1 : ∃ s, fReprU [.ro [.int i, .int i]] S = some (.str s, S)) (h2 : ∃ s, fReprU [.ro [x, x]] S = some (.str s, S)) (pv : Option Val) :
    b_law_1 [none, pv, none, none, none, some x, some (.int i), none, none, none, none, none, none, none, none] S = .nx [none, pv, none, none, none, some x, none, none, none, none, none, none, none, none, none] S := by
  unfold b_law_1
  simp (disch := walk_at "dz") only [seval, Int.reduceToNat, Nat.reduceAdd, Nat.reduceSub, Nat.reduceMul, Nat.reduceLT, Nat.reduceLeDiff, Nat.reduceEqDiff, Nat.reduceBEq, Nat.reduceMod, Nat.reduceDiv, Int.reduceAdd, Int.reduceSub, Int.reduceMul, Int.reduceNeg, Int.reduceLT, Int.reduceLE, Int.reduceEq, Int.reduceBEq, Int.reduceBNe, Int.reduceMod, Int.reduceDiv, Int.cast_ofNat_Int, made_ok hx]
  have e := fl_fold (α := Val × (Int × List Int × Str × Str)) (σ := Unit) (g := gTup 2 (gCons (gTup 5 (gCons (gN 7) (gCons (gN 8) (gCons (gN 9) (gCons (gN 10) (gCons (gN 11) gNil)))))) (gCons (gN 12) gNil))) (b := b_law_0) (st := S)
    (clsI.map (fun r => (.int i, r)) ++ [(x, txt)]) (fun q => .tup [row q.1 q.2, q.1]) (fun s _ => s) (fun _ => [none, pv, none, none, none, some x, none, none, none, none, none, none, none, none, none]) () (by simp [clsI]) (fun a s ha => by
      rcases List.mem_append.mp ha with ha | ha
      · obtain ⟨r, hr, rfl⟩ := List.mem_map.mp ha
        obtain ⟨ρ1, e1, e2⟩ := texts h1 pv (some x) r (List.mem_append_left _ hr)
        exact ⟨ρ1, S, e1, e2⟩
      · cases List.mem_singleton.mp ha
        obtain ⟨ρ1, e1, e2⟩ := texts h2 pv (some x) txt (List.mem_append_right _ (List.mem_singleton.mpr rfl))
        exact ⟨ρ1, S, e1, e2⟩)
  rw [List.map_append, List.map_map] at e
  have e' : fl (fun _ => some (clsI.map (fun r => Val.tup [row (.int i) r, .int i]) ++ [.tup [row x txt, x]])) (FL.gTup 2 (FL.gCons (FL.gTup 5 (FL.gCons (gN 7) (FL.gCons (gN 8) (FL.gCons (gN 9) (FL.gCons (gN 10) (FL.gCons (gN 11) FL.gNil)))))) (FL.gCons (gN 12) FL.gNil))) b_law_0 bigN 0 [none, pv, none, none, none, some x, none, none, none, none, none, none, none, none, none] S = .nx [none, pv, none, none, none, some x, none, none, none, none, none, none, none, none, none] S := e
  rw [e']
  rfl
/-- so many draws -/
theorem path_ok {p : Nat} {st : Store} {n : Int} {o2 r0 : Option Val} (h : Pen p st) (hn : 0 ≤ n ∧ n < 1000) : ∃ cs st', lcl (fun _ => some (rngs 0 n.toNat)) (gN 14) FL.tYes (eCall F_law_draw [] (aCons (eV 1) (aCons (eC (.int 4)) aNil))) [none, some (.ref p), o2, r0, none, none, none, none, none, none, none, none, none, none, none] bigN 0 [] st = some (iL cs, st') ∧ cs.length = n.toNat ∧ (∀ c ∈ cs, 0 ≤ c ∧ c < 4) ∧ Pd p st st' := by
  rw [rngs_map]
  obtain ⟨acc, st', e, cs, rfl, hl, hb, hp⟩ := lcl_rel (cur := fun _ => some ((List.range n.toNat).map fun i => Val.int (0 + (i : Nat)))) (g := gN 14) (tt := tYes) (te := eCall F_law_draw [] (aCons (eV 1) (aCons (eC (.int 4)) aNil))) (ρ := [none, some (.ref p), o2, r0, none, none, none, none, none, none, none, none, none, none, none]) (st := st)
    (List.range n.toNat) (fun i => Val.int (0 + (i : Nat))) (fun d acc s => ∃ cs : List Int, acc = iL cs ∧ cs.length = d.length ∧ (∀ c ∈ cs, 0 ≤ c ∧ c < 4) ∧ Pd p st s) (by rw [List.length_range]; omega) ⟨[], rfl, rfl, fun _ z => (by cases z), Pd.refl h⟩ (fun _ _ _ _ => rfl) (by
    rintro d i r acc s _ ⟨cs, rfl, hl, hb, hp⟩
    obtain ⟨c, s2, e, c0, c1, hd⟩ := draw_pen (m := 4) hp.pen (by decide)
    refine ⟨some (.int c), s2, ?_, cs ++ [c], by simp, by rw [List.length_append, List.length_append, hl]; rfl, fun x hx => ?_, hp.trans hd⟩
    · simp (disch := walk_at "dz") only [seval, Int.reduceToNat, Nat.reduceAdd, Nat.reduceSub, Nat.reduceMul, Nat.reduceLT, Nat.reduceLeDiff, Nat.reduceEqDiff, Nat.reduceBEq, Nat.reduceMod, Nat.reduceDiv, Int.reduceAdd, Int.reduceSub, Int.reduceMul, Int.reduceNeg, Int.reduceLT, Int.reduceLE, Int.reduceEq, Int.reduceBEq, Int.reduceBNe, Int.reduceMod, Int.reduceDiv, Int.cast_ofNat_Int, e]
    · rcases List.mem_append.mp hx with hx | hx
      · exact hb x hx
      · rw [List.mem_singleton.mp hx]
        exact ⟨c0, c1⟩)
  exact ⟨cs, st', e, by rw [hl, List.length_range], hb, hp⟩
theorem rep_int {i : Int} {S : Store} (h : i.natAbs < 10 ^ 60) : ∃ s, fReprU [.ro [.int i, .int i]] S = some (.str s, S) :=
  repr_any (d := .list [.int i, .int i]) (by simp only [FL.nice, nices, decide_eq_true h] <;> rfl) (Nat.le_of_ble_eq_true rfl) (Nat.le_of_ble_eq_true rfl)
def words : List Str := ["form", "hand", "name", "road", "long"]
theorem pair_ok {cs : List Int} {w : Str} {S : Store} (hl : cs.length < 4) (hb : ∀ c ∈ cs, 0 ≤ c ∧ c < 4) (hw : w ∈ words) : below 0 (.tup [.tup (iL cs), .str w]) = true ∧ ∃ s, fReprU [.ro [.tup [.tup (iL cs), .str w], .tup [.tup (iL cs), .str w]]] S = some (.str s, S) := by
  have wn : FL.nice (.str w) = true := by
    simp only [words, List.mem_cons, List.not_mem_nil, or_false] at hw
    rcases hw with rfl | rfl | rfl | rfl | rfl <;> decide +kernel
  have cn : ∀ c ∈ cs, FL.nice (.int c) = true := fun c hc => by
    have := hb c hc
    simp only [FL.nice]
    exact decide_eq_true (Nat.lt_of_lt_of_le (show c.natAbs < 4 by omega) (by decide))
  have go : ∀ ds : List PyData, ofDs ds = iL cs → nices ds = true → cnts ds ≤ 4 → PyData.depth (.tuple ds) ≤ 5 → below 0 (.tup [.tup (iL cs), .str w]) = true ∧ ∃ s, fReprU [.ro [.tup [.tup (iL cs), .str w], .tup [.tup (iL cs), .str w]]] S = some (.str s, S) := fun ds e n c dd => by
    rw [← e]
    have t1 : FL.nice (.tuple [.tuple ds, .str w]) = true := by
      show (nices ds && (FL.nice (.str w) && true)) = true
      rw [n, wn] <;> rfl
    refine ⟨?_, repr_any (d := .list [.tuple [.tuple ds, .str w], .tuple [.tuple ds, .str w]]) ?_ (by simp only [FL.cnt, cnts]; omega) ?_⟩
    · show (belows 0 (ofDs ds) && true) = true
      rw [e, belows_ints] <;> rfl
    · show (FL.nice (.tuple [.tuple ds, .str w]) && (FL.nice (.tuple [.tuple ds, .str w]) && true)) = true
      rw [t1] <;> rfl
    · simp [PyData.depth, PyData.depthAll] at dd ⊢
      omega
  match cs, hl, cn, go with
  | [], _, _, go => exact go [] rfl rfl (Nat.le_of_ble_eq_true rfl) (Nat.le_of_ble_eq_true rfl)
  | [a], _, cn, go => exact go [.int a] rfl (by simp only [nices, cn a (by simp)] <;> rfl) (Nat.le_of_ble_eq_true rfl) (Nat.le_of_ble_eq_true rfl)
  | [a, b], _, cn, go => exact go [.int a, .int b] rfl (by simp only [nices, cn a (by simp), cn b (by simp)] <;> rfl) (Nat.le_of_ble_eq_true rfl) (Nat.le_of_ble_eq_true rfl)
  | [a, b, c], _, cn, go => exact go [.int a, .int b, .int c] rfl (by simp only [nices, cn a (by simp), cn b (by simp), cn c (by simp)] <;> rfl) (Nat.le_of_ble_eq_true rfl) (Nat.le_of_ble_eq_true rfl)
theorem turn {i : Int} {S : Store} (h : Pen 0 S) (hc : Cl S) : ∃ S', b_law_2 [none, some (.ref 0), some (.int i), none, none, none, none, none, none, none, none, none, none, none, none] S = .nx [none, some (.ref 0), none, none, none, none, none, none, none, none, none, none, none, none, none] S' ∧ Pd 0 S S' := by
  obtain ⟨a, s1, e1, a0, a1, p1⟩ := draw_pen (m := 10) h (by decide)
  obtain ⟨b, s2, e2, b0, b1, p2⟩ := draw_big (m := 100000000000000000000000000000000000000000000000000000000000) p1.pen (by decide) (by decide +kernel)
  obtain ⟨n, s3, e3, n0, n1, p3⟩ := draw_pen (m := 4) p2.pen (by decide)
  obtain ⟨cs, s4, e4, hl, hb, p4⟩ := path_ok (r0 := some (.ro [.int a, .int b, .int (-1)])) (o2 := some (.int i)) (n := n) p3.pen (by omega)
  obtain ⟨c, s5, e5, c0, c1, p5⟩ := draw_pen (m := 5) p4.pen (by decide)
  have hcw : c.toNat < words.length := by show c.toNat < 5; omega
  have ha : atI (words.map Val.str) c = some (.str words[c.toNat]) := at_eq c0 (by rw [List.getElem?_map, List.getElem?_eq_getElem hcw]; rfl)
  have ha' : atI [Val.str "form", .str "hand", .str "name", .str "road", .str "long"] c = some (.str words[c.toNat]) := ha
  have hw : words[c.toNat] ∈ words := List.getElem_mem hcw
  generalize words[c.toNat] = w at ha ha' hw
  obtain ⟨q1, q2⟩ := pair_ok (S := s5) (w := w) (show cs.length < 4 by omega) hb hw
  have ef : ∀ (S : Store), fl (fun _ => some [.int a, .int b, .int (-1)]) (gN 6) b_law_1 bigN 0 [none, some (.ref 0), none, none, none, some (.tup [.tup (iL cs), .str w]), none, none, none, none, none, none, none, none, none] s5 = .nx [none, some (.ref 0), none, none, none, some (.tup [.tup (iL cs), .str w]), none, none, none, none, none, none, none, none, none] s5 := fun _ => by
    have := fl_fold (α := Int) (σ := Unit) (g := gN 6) (b := b_law_1) (st := s5) [a, b, -1] Val.int (fun s _ => s) (fun _ => [none, some (.ref 0), none, none, none, some (.tup [.tup (iL cs), .str w]), none, none, none, none, none, none, none, none, none]) () (by simp) (fun k s hk => by
      refine ⟨_, _, rfl, one_ok q1 (rep_int ?_) q2 _⟩
      simp only [List.mem_cons, List.not_mem_nil, or_false] at hk
      have : (10:Nat) ^ 60 = 1000000000000000000000000000000000000000000000000000000000000 := by decide
      omega)
    exact this
  have kt := turn_ok (st := s5)
  have n1 : fEq true (.ro [.int 10]) (.ro [.int 10]) s5 = some (.bl (!decide (([10] : List Int) = [10])), s5) := ne_ro (a := [10]) (c := [10])
  have n2 : fEq true (.ro [.int 6]) (.ro [.int 6]) s5 = some (.bl (!decide (([6] : List Int) = [6])), s5) := ne_ro (a := [6]) (c := [6])
  refine ⟨s5, ?_, (((p1.trans p2).trans p3).trans p4).trans p5⟩
  unfold b_law_2
  simp (disch := walk_at "dz") only [seval, Int.reduceToNat, Nat.reduceAdd, Nat.reduceSub, Nat.reduceMul, Nat.reduceLT, Nat.reduceLeDiff, Nat.reduceEqDiff, Nat.reduceBEq, Nat.reduceMod, Nat.reduceDiv, Int.reduceAdd, Int.reduceSub, Int.reduceMul, Int.reduceNeg, Int.reduceLT, Int.reduceLE, Int.reduceEq, Int.reduceBEq, Int.reduceBNe, Int.reduceMod, Int.reduceDiv, Int.cast_ofNat_Int, e1, e2, e3, e4, e5, ha']
  rw [ef s5]
  simp (disch := walk_at "dz") only [seval, Int.reduceToNat, Nat.reduceAdd, Nat.reduceSub, Nat.reduceMul, Nat.reduceLT, Nat.reduceLeDiff, Nat.reduceEqDiff, Nat.reduceBEq, Nat.reduceMod, Nat.reduceDiv, Int.reduceAdd, Int.reduceSub, Int.reduceMul, Int.reduceNeg, Int.reduceLT, Int.reduceLE, Int.reduceEq, Int.reduceBEq, Int.reduceBNe, Int.reduceMod, Int.reduceDiv, Int.cast_ofNat_Int, t_law_all_made, r_law_fresh_0, r_law_fresh_1, r_law_fresh_2, t_law_fresh, r_law_draw_0, t_law_draw, t_law_kinds, t_law_pen, t_law_under, r_law_0, r_law_1, r_law_2, t_law, kt.1, kt.2, n1, n2, decide_true]

theorem law_ok : LawOk F_law := fun ns hl _ => by
  unfold F_law
  simp (disch := walk_at "dz") only [seval, Int.reduceToNat, Nat.reduceAdd, Nat.reduceSub, Nat.reduceMul, Nat.reduceLT, Nat.reduceLeDiff, Nat.reduceEqDiff, Nat.reduceBEq, Nat.reduceMod, Nat.reduceDiv, Int.reduceAdd, Int.reduceSub, Int.reduceMul, Int.reduceNeg, Int.reduceLT, Int.reduceLE, Int.reduceEq, Int.reduceBEq, Int.reduceBNe, Int.reduceMod, Int.reduceDiv, Int.cast_ofNat_Int, t_law, pen_ok hl]
  generalize hm : (if 1 < if (ns.length : Int) < 4 then (ns.length : Int) else 4 then if (ns.length : Int) < 4 then (ns.length : Int) else 4 else 1) = m
  have m4 : m ≤ 4 := by
    rw [← hm]
    split <;> split <;> omega
  rw [rngs_map]
  obtain ⟨ρ', s4, e4, p4, rfl⟩ := fl_nx (g := gN 2) (b := b_law_2) (cur := fun _ => some ((List.range m.toNat).map fun i => Val.int (0 + (i : Nat))))
    (ρ := [none, some (.ref 0), none, none, none, none, none, none, none, none, none, none, none, none, none]) (st := [.lst [.ro (iL ns), .int 0, .int 0]]) (List.range m.toNat) (fun i => Val.int (0 + (i : Nat)))
    (fun d ρ s => Pd 0 [.lst [.ro (iL ns), .int 0, .int 0]] s ∧ ρ = [none, some (.ref 0), none, none, none, none, none, none, none, none, none, none, none, none, none]) (by rw [List.length_range]; omega) ⟨Pd.refl (pen_new (st := [])), rfl⟩ (fun _ _ _ _ => rfl) (by
    rintro d i r ρ s _ ⟨hp, rfl⟩
    obtain ⟨s', e, h4⟩ := turn (i := 0 + (i : Nat)) hp.pen (hp.cl cl_pen)
    refine ⟨_, _, rfl, ?_⟩
    show (b_law_2 [none, some (.ref 0), some (.int (0 + (i : Nat))), none, none, none, none, none, none, none, none, none, none, none, none] s).turnP _ _
    rw [e]
    exact ⟨hp.trans h4, rfl⟩)
  simp only [List.nil_append, List.length_nil, Int.reduceToNat] at e4 ⊢
  rw [e4]
  simp (disch := walk_at "dz") only [seval, Int.reduceToNat, Nat.reduceAdd, Nat.reduceSub, Nat.reduceMul, Nat.reduceLT, Nat.reduceLeDiff, Nat.reduceEqDiff, Nat.reduceBEq, Nat.reduceMod, Nat.reduceDiv, Int.reduceAdd, Int.reduceSub, Int.reduceMul, Int.reduceNeg, Int.reduceLT, Int.reduceLE, Int.reduceEq, Int.reduceBEq, Int.reduceBNe, Int.reduceMod, Int.reduceDiv, Int.cast_ofNat_Int, r_law_0]
  rw [retV_id rfl rfl]
  exact ⟨_, rfl⟩
def topS (i : Nat) : Stmt := PySem.Challenge.pw_mutehands_k06_what_is_refused.main.body.getD i (.Pass ⟨0, 0, 0, 0⟩)
abbrev s_law_all_made : Stmt := topS 18
abbrev s_law_fresh : Stmt := topS 14
abbrev s_law_draw : Stmt := topS 15
abbrev s_law_kinds : Stmt := topS 16
abbrev s_law_pen : Stmt := topS 13
abbrev s_law_under : Stmt := topS 17
abbrev s_law : Stmt := topS 19
def inX (s : Stmt) (j : Nat) : Stmt := match s with
  | .ClassDef _ _ _ body _ _ _ _ _ _ _ => body.getD j (.Pass ⟨0, 0, 0, 0⟩)
  | s => s
abbrev si_NoCoin : Stmt := inX (topS 8) 0
theorem scx_NoCoin : FnScope ["self", "hand"] ["self", "hand"] (defScope si_NoCoin) := ⟨rfl, rfl, rfl, by decide +kernel, rfl, by decide +kernel, by decide +kernel⟩
abbrev si_NoCurve : Stmt := inX (topS 2) 0
theorem scx_NoCurve : FnScope ["self", "place"] ["self", "place"] (defScope si_NoCurve) := ⟨rfl, rfl, rfl, by decide +kernel, rfl, by decide +kernel, by decide +kernel⟩
abbrev si_NoGiven : Stmt := inX (topS 9) 0
theorem scx_NoGiven : FnScope ["self", "hand"] ["self", "hand"] (defScope si_NoGiven) := ⟨rfl, rfl, rfl, by decide +kernel, rfl, by decide +kernel, by decide +kernel⟩
abbrev si_NoLetter : Stmt := inX (topS 5) 0
theorem scx_NoLetter : FnScope ["self", "step"] ["self", "step"] (defScope si_NoLetter) := ⟨rfl, rfl, rfl, by decide +kernel, rfl, by decide +kernel, by decide +kernel⟩
abbrev si_NoMark : Stmt := inX (topS 6) 0
theorem scx_NoMark : FnScope ["self", "number"] ["self", "number"] (defScope si_NoMark) := ⟨rfl, rfl, rfl, by decide +kernel, rfl, by decide +kernel, by decide +kernel⟩
abbrev si_NoNumber : Stmt := inX (topS 3) 0
theorem scx_NoNumber : FnScope ["self", "hand"] ["self", "hand"] (defScope si_NoNumber) := ⟨rfl, rfl, rfl, by decide +kernel, rfl, by decide +kernel, by decide +kernel⟩
abbrev si_NoRow : Stmt := inX (topS 7) 0
theorem scx_NoRow : FnScope ["self", "number"] ["self", "number"] (defScope si_NoRow) := ⟨rfl, rfl, rfl, by decide +kernel, rfl, by decide +kernel, by decide +kernel⟩
abbrev si_NoText : Stmt := inX (topS 4) 0
theorem scx_NoText : FnScope ["self", "why"] ["self", "why"] (defScope si_NoText) := ⟨rfl, rfl, rfl, by decide +kernel, rfl, by decide +kernel, by decide +kernel⟩
abbrev si_NoTurned : Stmt := inX (topS 1) 0
theorem scx_NoTurned : FnScope ["self", "prime"] ["self", "prime"] (defScope si_NoTurned) := ⟨rfl, rfl, rfl, by decide +kernel, rfl, by decide +kernel, by decide +kernel⟩
abbrev si_TooMany : Stmt := inX (topS 10) 0
theorem scx_TooMany : FnScope ["self", "most"] ["self", "most"] (defScope si_TooMany) := ⟨rfl, rfl, rfl, by decide +kernel, rfl, by decide +kernel, by decide +kernel⟩
theorem sc_law_all_made : FnScope ["_law_one", "_law_pair", "_law_found", "_law_text", "_law_row"] ["_law_one", "_law_pair"] (defScope s_law_all_made) := ⟨rfl, rfl, rfl, by decide +kernel, rfl, by decide +kernel, by decide +kernel⟩
theorem sc_law_fresh : FnScope ["_law_pen_here", "_law_at", "_law_cell", "_law_p", "_law_one", "_law_found", "_law_turn"] ["_law_pen_here"] (defScope s_law_fresh) := ⟨rfl, rfl, rfl, by decide +kernel, rfl, by decide +kernel, by decide +kernel⟩
theorem sc_law_draw : FnScope ["_law_pen_here", "_law_many", "_law_digit"] ["_law_pen_here", "_law_many"] (defScope s_law_draw) := ⟨rfl, rfl, rfl, by decide +kernel, rfl, by decide +kernel, by decide +kernel⟩
theorem sc_law_kinds : FnScope ["_law_e", "_law_found", "_law_at", "_law_one"] ["_law_e"] (defScope s_law_kinds) := ⟨rfl, rfl, rfl, by decide +kernel, rfl, by decide +kernel, by decide +kernel⟩
theorem sc_law_pen : FnScope ["_law_script"] ["_law_script"] (defScope s_law_pen) := ⟨rfl, rfl, rfl, by decide +kernel, rfl, by decide +kernel, by decide +kernel⟩
theorem sc_law_under : FnScope ["_law_e", "_law_found", "_law_at", "_law_one"] ["_law_e"] (defScope s_law_under) := ⟨rfl, rfl, rfl, by decide +kernel, rfl, by decide +kernel, by decide +kernel⟩
theorem sc_law : FnScope ["_law_script", "_law_pen_here", "_law_turn", "_law_number_row", "_law_path", "_law_pair", "_law_one", "_law_spot", "_law_under_here", "_law_first", "_law_second", "_law_fields", "_law_due", "_law_alone", "_law_k"] ["_law_script"] (defScope s_law) := ⟨rfl, rfl, rfl, by decide +kernel, rfl, by decide +kernel, by decide +kernel⟩
/-- what the top has left -/
structure Txt (K : PySem.W.Frag) (mg : Str → Option Value) where
  g_NoCoin : mg "NoCoin" = some (.ref (cA K "NoCoin"))
  g_NoCurve : mg "NoCurve" = some (.ref (cA K "NoCurve"))
  g_NoGiven : mg "NoGiven" = some (.ref (cA K "NoGiven"))
  g_NoLetter : mg "NoLetter" = some (.ref (cA K "NoLetter"))
  g_NoMark : mg "NoMark" = some (.ref (cA K "NoMark"))
  g_NoNumber : mg "NoNumber" = some (.ref (cA K "NoNumber"))
  g_NoRow : mg "NoRow" = some (.ref (cA K "NoRow"))
  g_NoText : mg "NoText" = some (.ref (cA K "NoText"))
  g_NoTurn : mg "NoTurn" = some (.ref (cA K "NoTurn"))
  g_NoTurned : mg "NoTurned" = some (.ref (cA K "NoTurned"))
  g_TooMany : mg "TooMany" = some (.ref (cA K "TooMany"))
  v_IndexError : PySem.W.findCls K (.type "IndexError") (.type "type") "__init__" = some (.val (.builtin "IndexError.__init__"))
  v_KeyError : PySem.W.findCls K (.type "KeyError") (.type "type") "__init__" = some (.val (.builtin "KeyError.__init__"))
  v_LookupError : PySem.W.findCls K (.type "LookupError") (.type "type") "__init__" = some (.val (.builtin "LookupError.__init__"))
  v_OverflowError : PySem.W.findCls K (.type "OverflowError") (.type "type") "__init__" = some (.val (.builtin "OverflowError.__init__"))
  v_ValueError : PySem.W.findCls K (.type "ValueError") (.type "type") "__init__" = some (.val (.builtin "ValueError.__init__"))
  v_ZeroDivisionError : PySem.W.findCls K (.type "ZeroDivisionError") (.type "type") "__init__" = some (.val (.builtin "ZeroDivisionError.__init__"))
  fx_NoCoin : Addr
  fdx_NoCoin : FuncData
  x_NoCoin : XiOk K mg "NoCoin" "hand" "IndexError.__new__" [.type "IndexError", .type "LookupError", .type "Exception", .type "BaseException", .type "object"] "NoCoin.__init__" si_NoCoin fx_NoCoin fdx_NoCoin
  fx_NoCurve : Addr
  fdx_NoCurve : FuncData
  x_NoCurve : XiOk K mg "NoCurve" "place" "ValueError.__new__" [.type "ValueError", .type "Exception", .type "BaseException", .type "object"] "NoCurve.__init__" si_NoCurve fx_NoCurve fdx_NoCurve
  fx_NoGiven : Addr
  fdx_NoGiven : FuncData
  x_NoGiven : XiOk K mg "NoGiven" "hand" "LookupError.__new__" [.type "KeyError", .type "LookupError", .type "Exception", .type "BaseException", .type "object"] "NoGiven.__init__" si_NoGiven fx_NoGiven fdx_NoGiven
  fx_NoLetter : Addr
  fdx_NoLetter : FuncData
  x_NoLetter : XiOk K mg "NoLetter" "step" "LookupError.__new__" [.type "LookupError", .type "Exception", .type "BaseException", .type "object"] "NoLetter.__init__" si_NoLetter fx_NoLetter fdx_NoLetter
  fx_NoMark : Addr
  fdx_NoMark : FuncData
  x_NoMark : XiOk K mg "NoMark" "number" "LookupError.__new__" [.type "LookupError", .type "Exception", .type "BaseException", .type "object"] "NoMark.__init__" si_NoMark fx_NoMark fdx_NoMark
  fx_NoNumber : Addr
  fdx_NoNumber : FuncData
  x_NoNumber : XiOk K mg "NoNumber" "hand" "ValueError.__new__" [.type "ValueError", .type "Exception", .type "BaseException", .type "object"] "NoNumber.__init__" si_NoNumber fx_NoNumber fdx_NoNumber
  fx_NoRow : Addr
  fdx_NoRow : FuncData
  x_NoRow : XiOk K mg "NoRow" "number" "LookupError.__new__" [.type "LookupError", .type "Exception", .type "BaseException", .type "object"] "NoRow.__init__" si_NoRow fx_NoRow fdx_NoRow
  fx_NoText : Addr
  fdx_NoText : FuncData
  x_NoText : XiOk K mg "NoText" "why" "ValueError.__new__" [.type "ValueError", .type "Exception", .type "BaseException", .type "object"] "NoText.__init__" si_NoText fx_NoText fdx_NoText
  x_NoTurn : Xo0 K mg "NoTurn" "RuntimeError.__new__" [.type "RuntimeError", .type "Exception", .type "BaseException", .type "object"]
  fx_NoTurned : Addr
  fdx_NoTurned : FuncData
  x_NoTurned : XiOk K mg "NoTurned" "prime" "ZeroDivisionError.__new__" [.type "ZeroDivisionError", .type "ArithmeticError", .type "Exception", .type "BaseException", .type "object"] "NoTurned.__init__" si_NoTurned fx_NoTurned fdx_NoTurned
  fx_TooMany : Addr
  fdx_TooMany : FuncData
  x_TooMany : XiOk K mg "TooMany" "most" "OverflowError.__new__" [.type "OverflowError", .type "ArithmeticError", .type "Exception", .type "BaseException", .type "object"] "TooMany.__init__" si_TooMany fx_TooMany fdx_TooMany
  ti : TbI K tbI tbB
  fl_hand : ∀ n ∈ (["NoNumber", "NoCoin", "NoGiven"] : List Str), XcOk K n ∧ PySem.W.findIn K (.ref (cA K n)) "hand" = some none
  fl_most : ∀ n ∈ (["TooMany"] : List Str), XcOk K n ∧ PySem.W.findIn K (.ref (cA K n)) "most" = some none
  fl_number : ∀ n ∈ (["NoMark", "NoRow"] : List Str), XcOk K n ∧ PySem.W.findIn K (.ref (cA K n)) "number" = some none
  fl_place : ∀ n ∈ (["NoCurve"] : List Str), XcOk K n ∧ PySem.W.findIn K (.ref (cA K n)) "place" = some none
  fl_prime : ∀ n ∈ (["NoTurned"] : List Str), XcOk K n ∧ PySem.W.findIn K (.ref (cA K n)) "prime" = some none
  fl_step : ∀ n ∈ (["NoLetter"] : List Str), XcOk K n ∧ PySem.W.findIn K (.ref (cA K n)) "step" = some none
  fl_why : ∀ n ∈ (["NoText"] : List Str), XcOk K n ∧ PySem.W.findIn K (.ref (cA K n)) "why" = some none
  m_IndexError : mg "IndexError" = none
  m_KeyError : mg "KeyError" = none
  m_LookupError : mg "LookupError" = none
  m_NotImplementedError : mg "NotImplementedError" = none
  m_OverflowError : mg "OverflowError" = none
  m_RuntimeError : mg "RuntimeError" = none
  m_ValueError : mg "ValueError" = none
  m_ZeroDivisionError : mg "ZeroDivisionError" = none
  m_enumerate : mg "enumerate" = none
  m_isinstance : mg "isinstance" = none
  m_len : mg "len" = none
  m_list : mg "list" = none
  m_max : mg "max" = none
  m_min : mg "min" = none
  m_range : mg "range" = none
  m_repr : mg "repr" = none
  m_tuple : mg "tuple" = none
  f_law_all_made : Addr
  fd_law_all_made : FuncData
  F_law_all_made : Fun K "_law_all_made" "_law_all_made" s_law_all_made f_law_all_made fd_law_all_made
  m_law_all_made : mg "_law_all_made" = some (.ref f_law_all_made)
  b_law_all_made : Binds K fd_law_all_made ["_law_one", "_law_pair"] []
  f_law_fresh : Addr
  fd_law_fresh : FuncData
  F_law_fresh : Fun K "_law_fresh" "_law_fresh" s_law_fresh f_law_fresh fd_law_fresh
  m_law_fresh : mg "_law_fresh" = some (.ref f_law_fresh)
  b_law_fresh : Binds K fd_law_fresh ["_law_pen_here"] []
  f_law_draw : Addr
  fd_law_draw : FuncData
  F_law_draw : Fun K "_law_draw" "_law_draw" s_law_draw f_law_draw fd_law_draw
  m_law_draw : mg "_law_draw" = some (.ref f_law_draw)
  b_law_draw : Binds K fd_law_draw ["_law_pen_here", "_law_many"] []
  f_law_kinds : Addr
  fd_law_kinds : FuncData
  F_law_kinds : Fun K "_law_kinds" "_law_kinds" s_law_kinds f_law_kinds fd_law_kinds
  m_law_kinds : mg "_law_kinds" = some (.ref f_law_kinds)
  b_law_kinds : Binds K fd_law_kinds ["_law_e"] []
  f_law_pen : Addr
  fd_law_pen : FuncData
  F_law_pen : Fun K "_law_pen" "_law_pen" s_law_pen f_law_pen fd_law_pen
  m_law_pen : mg "_law_pen" = some (.ref f_law_pen)
  b_law_pen : Binds K fd_law_pen ["_law_script"] []
  f_law_under : Addr
  fd_law_under : FuncData
  F_law_under : Fun K "_law_under" "_law_under" s_law_under f_law_under fd_law_under
  m_law_under : mg "_law_under" = some (.ref f_law_under)
  b_law_under : Binds K fd_law_under ["_law_e"] []
section
variable {P : Program} {w : World} {K : PySem.W.Frag} {mg : Str → Option Value} {base : Heap}
theorem ok_x_NoCoin (T : Txt K mg) : FnOk P w K mg base (L2.CX P w) 1 T.fx_NoCoin T.fdx_NoCoin ["self", "hand"] (spXi K (cA K "NoCoin") "IndexError.__new__" [.type "IndexError", .type "LookupError", .type "Exception", .type "BaseException", .type "object"] "hand") :=
  ok_xi (m := "too few coins") T.x_NoCoin.F scx_NoCoin (fun cdv A outer s H E => pss_cons (ps_expr (pe_binit (Bn := "IndexError") bx_IndexError rfl T.m_IndexError (by decide +kernel) T.v_IndexError (pa_cons (pv 0) (pa_cons pe_str pa_nil)) (by decide) (by decide))) (pss_one (ps_ostB bx_IndexError (pv 0) (pv 1))))
theorem ok_x_NoCurve (T : Txt K mg) : FnOk P w K mg base (L2.CX P w) 1 T.fx_NoCurve T.fdx_NoCurve ["self", "place"] (spXi K (cA K "NoCurve") "ValueError.__new__" [.type "ValueError", .type "Exception", .type "BaseException", .type "object"] "place") :=
  ok_xi (m := "a place twice") T.x_NoCurve.F scx_NoCurve (fun cdv A outer s H E => pss_cons (ps_expr (pe_binit (Bn := "ValueError") bx_ValueError rfl T.m_ValueError (by decide +kernel) T.v_ValueError (pa_cons (pv 0) (pa_cons pe_str pa_nil)) (by decide) (by decide))) (pss_one (ps_ostB bx_ValueError (pv 0) (pv 1))))
theorem ok_x_NoGiven (T : Txt K mg) : FnOk P w K mg base (L2.CX P w) 1 T.fx_NoGiven T.fdx_NoGiven ["self", "hand"] (spXi K (cA K "NoGiven") "LookupError.__new__" [.type "KeyError", .type "LookupError", .type "Exception", .type "BaseException", .type "object"] "hand") :=
  ok_xj T.x_NoGiven.F scx_NoGiven (fun cdv A outer s H E => pss_cons (ps_expr (pe_binit (Bn := "KeyError") bx_KeyError rfl T.m_KeyError (by decide +kernel) T.v_KeyError (pa_cons (pv 0) (pa_cons (pv 1) pa_nil)) (by decide) (by decide))) (pss_one (ps_ostB bx_KeyError (pv 0) (pv 1))))
theorem ok_x_NoLetter (T : Txt K mg) : FnOk P w K mg base (L2.CX P w) 1 T.fx_NoLetter T.fdx_NoLetter ["self", "step"] (spXi K (cA K "NoLetter") "LookupError.__new__" [.type "LookupError", .type "Exception", .type "BaseException", .type "object"] "step") :=
  ok_xi (m := "no such letter") T.x_NoLetter.F scx_NoLetter (fun cdv A outer s H E => pss_cons (ps_expr (pe_binit (Bn := "LookupError") bx_LookupError rfl T.m_LookupError (by decide +kernel) T.v_LookupError (pa_cons (pv 0) (pa_cons pe_str pa_nil)) (by decide) (by decide))) (pss_one (ps_ostB bx_LookupError (pv 0) (pv 1))))
theorem ok_x_NoMark (T : Txt K mg) : FnOk P w K mg base (L2.CX P w) 1 T.fx_NoMark T.fdx_NoMark ["self", "number"] (spXi K (cA K "NoMark") "LookupError.__new__" [.type "LookupError", .type "Exception", .type "BaseException", .type "object"] "number") :=
  ok_xi (m := "no mark") T.x_NoMark.F scx_NoMark (fun cdv A outer s H E => pss_cons (ps_expr (pe_binit (Bn := "LookupError") bx_LookupError rfl T.m_LookupError (by decide +kernel) T.v_LookupError (pa_cons (pv 0) (pa_cons pe_str pa_nil)) (by decide) (by decide))) (pss_one (ps_ostB bx_LookupError (pv 0) (pv 1))))
theorem ok_x_NoNumber (T : Txt K mg) : FnOk P w K mg base (L2.CX P w) 1 T.fx_NoNumber T.fdx_NoNumber ["self", "hand"] (spXi K (cA K "NoNumber") "ValueError.__new__" [.type "ValueError", .type "Exception", .type "BaseException", .type "object"] "hand") :=
  ok_xi (m := "pieces of no number") T.x_NoNumber.F scx_NoNumber (fun cdv A outer s H E => pss_cons (ps_expr (pe_binit (Bn := "ValueError") bx_ValueError rfl T.m_ValueError (by decide +kernel) T.v_ValueError (pa_cons (pv 0) (pa_cons pe_str pa_nil)) (by decide) (by decide))) (pss_one (ps_ostB bx_ValueError (pv 0) (pv 1))))
theorem ok_x_NoRow (T : Txt K mg) : FnOk P w K mg base (L2.CX P w) 1 T.fx_NoRow T.fdx_NoRow ["self", "number"] (spXi K (cA K "NoRow") "LookupError.__new__" [.type "LookupError", .type "Exception", .type "BaseException", .type "object"] "number") :=
  ok_xi (m := "no such row") T.x_NoRow.F scx_NoRow (fun cdv A outer s H E => pss_cons (ps_expr (pe_binit (Bn := "LookupError") bx_LookupError rfl T.m_LookupError (by decide +kernel) T.v_LookupError (pa_cons (pv 0) (pa_cons pe_str pa_nil)) (by decide) (by decide))) (pss_one (ps_ostB bx_LookupError (pv 0) (pv 1))))
theorem ok_x_NoText (T : Txt K mg) : FnOk P w K mg base (L2.CX P w) 1 T.fx_NoText T.fdx_NoText ["self", "why"] (spXi K (cA K "NoText") "ValueError.__new__" [.type "ValueError", .type "Exception", .type "BaseException", .type "object"] "why") :=
  ok_xi (m := "no text") T.x_NoText.F scx_NoText (fun cdv A outer s H E => pss_cons (ps_expr (pe_binit (Bn := "ValueError") bx_ValueError rfl T.m_ValueError (by decide +kernel) T.v_ValueError (pa_cons (pv 0) (pa_cons pe_str pa_nil)) (by decide) (by decide))) (pss_one (ps_ostB bx_ValueError (pv 0) (pv 1))))
theorem ok_x_NoTurned (T : Txt K mg) : FnOk P w K mg base (L2.CX P w) 1 T.fx_NoTurned T.fdx_NoTurned ["self", "prime"] (spXi K (cA K "NoTurned") "ZeroDivisionError.__new__" [.type "ZeroDivisionError", .type "ArithmeticError", .type "Exception", .type "BaseException", .type "object"] "prime") :=
  ok_xi (m := "nought has no turned number") T.x_NoTurned.F scx_NoTurned (fun cdv A outer s H E => pss_cons (ps_expr (pe_binit (Bn := "ZeroDivisionError") bx_ZeroDivisionError rfl T.m_ZeroDivisionError (by decide +kernel) T.v_ZeroDivisionError (pa_cons (pv 0) (pa_cons pe_str pa_nil)) (by decide) (by decide))) (pss_one (ps_ostB bx_ZeroDivisionError (pv 0) (pv 1))))
theorem ok_x_TooMany (T : Txt K mg) : FnOk P w K mg base (L2.CX P w) 1 T.fx_TooMany T.fdx_TooMany ["self", "most"] (spXi K (cA K "TooMany") "OverflowError.__new__" [.type "OverflowError", .type "ArithmeticError", .type "Exception", .type "BaseException", .type "object"] "most") :=
  ok_xi (m := "too many") T.x_TooMany.F scx_TooMany (fun cdv A outer s H E => pss_cons (ps_expr (pe_binit (Bn := "OverflowError") bx_OverflowError rfl T.m_OverflowError (by decide +kernel) T.v_OverflowError (pa_cons (pv 0) (pa_cons pe_str pa_nil)) (by decide) (by decide))) (pss_one (ps_ostB bx_OverflowError (pv 0) (pv 1))))
theorem ok_law_all_made (T : Txt K mg) : FnF Z0 P w K mg base 3 T.f_law_all_made T.fd_law_all_made ["_law_one", "_law_pair"] F_law_all_made := by
  refine okN (t := t_law_all_made) (z := true) (FunD.of T.F_law_all_made) sc_law_all_made rfl rfl (fun cdv A outer s H E hr hg W tk zn cn => ?_)
  exact (ss_cons (s_set 2 sc_law_all_made.nd (d_lst true (a_cons (d_tup (a_cons d_int (a_cons (d_lst false (a_cons d_int a_nil)) (a_cons (d_exv (m_mk1 bx_ZeroDivisionError T.x_NoTurned (ok_x_NoTurned T) (hr.mono (by decide)) (a_cons (d_v 0) a_nil)) mk1_x) (a_cons (d_exv (m_mk1K bx_ZeroDivisionError T.x_NoTurned (ok_x_NoTurned T) (hr.mono (by decide)) (k_cons (d_v 0) k_nil)) mk1_x) (a_cons (d_lst false (a_cons (d_xf ["NoTurned"] "prime" T.fl_prime (d_exv (m_mk1 bx_ZeroDivisionError T.x_NoTurned (ok_x_NoTurned T) (hr.mono (by decide)) (a_cons (d_v 0) a_nil)) mk1_x)) (a_cons (d_xf ["NoTurned"] "prime" T.fl_prime (d_exv (m_mk1K bx_ZeroDivisionError T.x_NoTurned (ok_x_NoTurned T) (hr.mono (by decide)) (k_cons (d_v 0) k_nil)) mk1_x)) a_nil))) a_nil)))))) a_nil)))
    (ss_cons (s_drop (d_m PySem.F.slot_list_append PySem.F.type_list_append mt_append rm_app (d_v 2) (a_cons (d_tup (a_cons d_int (a_cons (d_lst false (a_cons d_int a_nil)) (a_cons (d_exv (m_mk1 bx_ValueError T.x_NoCurve (ok_x_NoCurve T) (hr.mono (by decide)) (a_cons (d_v 0) a_nil)) mk1_x) (a_cons (d_exv (m_mk1K bx_ValueError T.x_NoCurve (ok_x_NoCurve T) (hr.mono (by decide)) (k_cons (d_v 0) k_nil)) mk1_x) (a_cons (d_lst false (a_cons (d_xf ["NoCurve"] "place" T.fl_place (d_exv (m_mk1 bx_ValueError T.x_NoCurve (ok_x_NoCurve T) (hr.mono (by decide)) (a_cons (d_v 0) a_nil)) mk1_x)) (a_cons (d_xf ["NoCurve"] "place" T.fl_place (d_exv (m_mk1K bx_ValueError T.x_NoCurve (ok_x_NoCurve T) (hr.mono (by decide)) (k_cons (d_v 0) k_nil)) mk1_x)) a_nil))) a_nil)))))) a_nil)))
    (ss_cons (s_drop (d_m PySem.F.slot_list_append PySem.F.type_list_append mt_append rm_app (d_v 2) (a_cons (d_tup (a_cons d_int (a_cons (d_lst false (a_cons d_int a_nil)) (a_cons (d_exv (m_mk1 bx_ValueError T.x_NoNumber (ok_x_NoNumber T) (hr.mono (by decide)) (a_cons (d_v 0) a_nil)) mk1_x) (a_cons (d_exv (m_mk1K bx_ValueError T.x_NoNumber (ok_x_NoNumber T) (hr.mono (by decide)) (k_cons (d_v 0) k_nil)) mk1_x) (a_cons (d_lst false (a_cons (d_xf ["NoNumber", "NoCoin", "NoGiven"] "hand" T.fl_hand (d_exv (m_mk1 bx_ValueError T.x_NoNumber (ok_x_NoNumber T) (hr.mono (by decide)) (a_cons (d_v 0) a_nil)) mk1_x)) (a_cons (d_xf ["NoNumber", "NoCoin", "NoGiven"] "hand" T.fl_hand (d_exv (m_mk1K bx_ValueError T.x_NoNumber (ok_x_NoNumber T) (hr.mono (by decide)) (k_cons (d_v 0) k_nil)) mk1_x)) a_nil))) a_nil)))))) a_nil)))
    (ss_cons (s_drop (d_m PySem.F.slot_list_append PySem.F.type_list_append mt_append rm_app (d_v 2) (a_cons (d_tup (a_cons d_int (a_cons (d_lst false (a_cons d_int a_nil)) (a_cons (d_exv (m_mk1 bx_LookupError T.x_NoLetter (ok_x_NoLetter T) (hr.mono (by decide)) (a_cons (d_v 0) a_nil)) mk1_x) (a_cons (d_exv (m_mk1K bx_LookupError T.x_NoLetter (ok_x_NoLetter T) (hr.mono (by decide)) (k_cons (d_v 0) k_nil)) mk1_x) (a_cons (d_lst false (a_cons (d_xf ["NoLetter"] "step" T.fl_step (d_exv (m_mk1 bx_LookupError T.x_NoLetter (ok_x_NoLetter T) (hr.mono (by decide)) (a_cons (d_v 0) a_nil)) mk1_x)) (a_cons (d_xf ["NoLetter"] "step" T.fl_step (d_exv (m_mk1K bx_LookupError T.x_NoLetter (ok_x_NoLetter T) (hr.mono (by decide)) (k_cons (d_v 0) k_nil)) mk1_x)) a_nil))) a_nil)))))) a_nil)))
    (ss_cons (s_drop (d_m PySem.F.slot_list_append PySem.F.type_list_append mt_append rm_app (d_v 2) (a_cons (d_tup (a_cons d_int (a_cons (d_lst false (a_cons d_int a_nil)) (a_cons (d_exv (m_mk1 bx_LookupError T.x_NoMark (ok_x_NoMark T) (hr.mono (by decide)) (a_cons (d_v 0) a_nil)) mk1_x) (a_cons (d_exv (m_mk1K bx_LookupError T.x_NoMark (ok_x_NoMark T) (hr.mono (by decide)) (k_cons (d_v 0) k_nil)) mk1_x) (a_cons (d_lst false (a_cons (d_xf ["NoMark", "NoRow"] "number" T.fl_number (d_exv (m_mk1 bx_LookupError T.x_NoMark (ok_x_NoMark T) (hr.mono (by decide)) (a_cons (d_v 0) a_nil)) mk1_x)) (a_cons (d_xf ["NoMark", "NoRow"] "number" T.fl_number (d_exv (m_mk1K bx_LookupError T.x_NoMark (ok_x_NoMark T) (hr.mono (by decide)) (k_cons (d_v 0) k_nil)) mk1_x)) a_nil))) a_nil)))))) a_nil)))
    (ss_cons (s_drop (d_m PySem.F.slot_list_append PySem.F.type_list_append mt_append rm_app (d_v 2) (a_cons (d_tup (a_cons d_int (a_cons (d_lst false (a_cons d_int a_nil)) (a_cons (d_exv (m_mk1 bx_LookupError T.x_NoRow (ok_x_NoRow T) (hr.mono (by decide)) (a_cons (d_v 0) a_nil)) mk1_x) (a_cons (d_exv (m_mk1K bx_LookupError T.x_NoRow (ok_x_NoRow T) (hr.mono (by decide)) (k_cons (d_v 0) k_nil)) mk1_x) (a_cons (d_lst false (a_cons (d_xf ["NoMark", "NoRow"] "number" T.fl_number (d_exv (m_mk1 bx_LookupError T.x_NoRow (ok_x_NoRow T) (hr.mono (by decide)) (a_cons (d_v 0) a_nil)) mk1_x)) (a_cons (d_xf ["NoMark", "NoRow"] "number" T.fl_number (d_exv (m_mk1K bx_LookupError T.x_NoRow (ok_x_NoRow T) (hr.mono (by decide)) (k_cons (d_v 0) k_nil)) mk1_x)) a_nil))) a_nil)))))) a_nil)))
    (ss_cons (s_drop (d_m PySem.F.slot_list_append PySem.F.type_list_append mt_append rm_app (d_v 2) (a_cons (d_tup (a_cons d_int (a_cons (d_lst false (a_cons d_int (a_cons d_int a_nil))) (a_cons (d_exv (m_mk1 bx_IndexError T.x_NoCoin (ok_x_NoCoin T) (hr.mono (by decide)) (a_cons (d_v 0) a_nil)) mk1_x) (a_cons (d_exv (m_mk1K bx_IndexError T.x_NoCoin (ok_x_NoCoin T) (hr.mono (by decide)) (k_cons (d_v 0) k_nil)) mk1_x) (a_cons (d_lst false (a_cons (d_xf ["NoNumber", "NoCoin", "NoGiven"] "hand" T.fl_hand (d_exv (m_mk1 bx_IndexError T.x_NoCoin (ok_x_NoCoin T) (hr.mono (by decide)) (a_cons (d_v 0) a_nil)) mk1_x)) (a_cons (d_xf ["NoNumber", "NoCoin", "NoGiven"] "hand" T.fl_hand (d_exv (m_mk1K bx_IndexError T.x_NoCoin (ok_x_NoCoin T) (hr.mono (by decide)) (k_cons (d_v 0) k_nil)) mk1_x)) a_nil))) a_nil)))))) a_nil)))
    (ss_cons (s_drop (d_m PySem.F.slot_list_append PySem.F.type_list_append mt_append rm_app (d_v 2) (a_cons (d_tup (a_cons d_int (a_cons (d_lst false (a_cons d_int (a_cons d_int a_nil))) (a_cons (d_exv (m_mk1 bx_KeyError T.x_NoGiven (ok_x_NoGiven T) (hr.mono (by decide)) (a_cons (d_v 0) a_nil)) mk1_x) (a_cons (d_exv (m_mk1K bx_KeyError T.x_NoGiven (ok_x_NoGiven T) (hr.mono (by decide)) (k_cons (d_v 0) k_nil)) mk1_x) (a_cons (d_lst false (a_cons (d_xf ["NoNumber", "NoCoin", "NoGiven"] "hand" T.fl_hand (d_exv (m_mk1 bx_KeyError T.x_NoGiven (ok_x_NoGiven T) (hr.mono (by decide)) (a_cons (d_v 0) a_nil)) mk1_x)) (a_cons (d_xf ["NoNumber", "NoCoin", "NoGiven"] "hand" T.fl_hand (d_exv (m_mk1K bx_KeyError T.x_NoGiven (ok_x_NoGiven T) (hr.mono (by decide)) (k_cons (d_v 0) k_nil)) mk1_x)) a_nil))) a_nil)))))) a_nil)))
    (ss_cons (s_drop (d_m PySem.F.slot_list_append PySem.F.type_list_append mt_append rm_app (d_v 2) (a_cons (d_tup (a_cons d_int (a_cons (d_lst false (a_cons d_int a_nil)) (a_cons (d_exv (m_mk1 bx_OverflowError T.x_TooMany (ok_x_TooMany T) (hr.mono (by decide)) (a_cons (d_v 0) a_nil)) mk1_x) (a_cons (d_exv (m_mk1K bx_OverflowError T.x_TooMany (ok_x_TooMany T) (hr.mono (by decide)) (k_cons (d_v 0) k_nil)) mk1_x) (a_cons (d_lst false (a_cons (d_xf ["TooMany"] "most" T.fl_most (d_exv (m_mk1 bx_OverflowError T.x_TooMany (ok_x_TooMany T) (hr.mono (by decide)) (a_cons (d_v 0) a_nil)) mk1_x)) (a_cons (d_xf ["TooMany"] "most" T.fl_most (d_exv (m_mk1K bx_OverflowError T.x_TooMany (ok_x_TooMany T) (hr.mono (by decide)) (k_cons (d_v 0) k_nil)) mk1_x)) a_nil))) a_nil)))))) a_nil)))
    (ss_cons (s_set 3 sc_law_all_made.nd (d_lst false (a_cons (d_tup (a_cons d_int (a_cons (d_lst false (a_cons d_int a_nil)) (a_cons (d_exv (m_mk1 bx_ValueError T.x_NoText (ok_x_NoText T) (hr.mono (by decide)) (a_cons (d_v 1) a_nil)) mk1_x) (a_cons (d_exv (m_mk1K bx_ValueError T.x_NoText (ok_x_NoText T) (hr.mono (by decide)) (k_cons (d_v 1) k_nil)) mk1_x) (a_cons (d_lst false (a_cons (d_xf ["NoText"] "why" T.fl_why (d_exv (m_mk1 bx_ValueError T.x_NoText (ok_x_NoText T) (hr.mono (by decide)) (a_cons (d_v 1) a_nil)) mk1_x)) (a_cons (d_xf ["NoText"] "why" T.fl_why (d_exv (m_mk1K bx_ValueError T.x_NoText (ok_x_NoText T) (hr.mono (by decide)) (k_cons (d_v 1) k_nil)) mk1_x)) a_nil))) a_nil)))))) a_nil)))
    (ss_one (s_ret (d_add false (d_lc false [("_law_row", 4)] rfl sc_law_all_made.nd (i_seq (d_v 2)) (blkOk_by (own := [("_law_row", 4)]) (N := ["_law_one", "_law_pair", "_law_found", "_law_text", "_law_row"]) (sc := defScope s_law_all_made) (by decide +kernel)) (fun _ _ _ _ _ => (g_name 4 sc_law_all_made.nd)) (fun _ _ _ _ _ => ts_nil) (fun _ _ _ _ _ => (d_tup (a_cons (d_v 4) (a_cons (d_v 0) a_nil))))) (d_lc false [("_law_row", 4)] rfl sc_law_all_made.nd (i_seq (d_v 3)) (blkOk_by (own := [("_law_row", 4)]) (N := ["_law_one", "_law_pair", "_law_found", "_law_text", "_law_row"]) (sc := defScope s_law_all_made) (by decide +kernel)) (fun _ _ _ _ _ => (g_name 4 sc_law_all_made.nd)) (fun _ _ _ _ _ => ts_nil) (fun _ _ _ _ _ => (d_tup (a_cons (d_v 4) (a_cons (d_v 1) a_nil))))))))))))))))))
theorem ok_law_fresh (T : Txt K mg) : FnF Z0 P w K mg base 1 T.f_law_fresh T.fd_law_fresh ["_law_pen_here"] F_law_fresh := by
  refine okN (t := t_law_fresh) (z := false) (FunD.of T.F_law_fresh) sc_law_fresh rfl rfl (fun cdv A outer s H E hr hg W tk zn cn => ?_)
  exact (ss_cons (s_set 1 sc_law_fresh.nd (d_ix (hu_of hr) (d_v 0) d_int))
    (ss_cons (s_asg (vs := []) (d_add false (d_v 1) d_int) (g_sub (hu_of hr) (d_v 0) d_int))
    (ss_cons (s_set 2 sc_law_fresh.nd d_int)
    (ss_cons (s_if (t_cmp (op_neU hr.units) r2_ne (d_ix (hu_of hr) (d_v 0) d_int) (d_lst false a_nil) (nomark _)) (ss_one (s_set 2 sc_law_fresh.nd (d_ix (hu_of hr) (d_ix (hu_of hr) (d_v 0) d_int) (d_mod (d_v 1) (d_callB call_lenV rl_len T.m_len (by decide +kernel) (a_cons (d_ix (hu_of hr) (d_v 0) d_int) a_nil)))))) ss_nil)
    (ss_cons (s_if (PW.pt (w_and (t_cmp op_lt r2_lt (d_v 1) (d_callB call_lenV rl_len T.m_len (by decide +kernel) (a_cons (d_ix (hu_of hr) (d_v 0) d_int) a_nil)) (nomark _)) (w_and1 (t_cmp op_ge r2_ge (d_v 2) (d_pow d_int d_int) (nomark _))))) (ss_one (s_ret (d_sub (d_v 2) (d_pow d_int d_int)))) ss_nil)
    (ss_cons (s_set 3 sc_law_fresh.nd d_int)
    (ss_cons (s_set 4 sc_law_fresh.nd (d_mod (d_add false (d_add false (d_mul false (d_v 2) d_int) (d_mul false d_int (d_v 1))) d_int) (d_v 3)))
    (ss_cons (s_set 5 sc_law_fresh.nd (d_v 4))
    (ss_cons (s_for [0, 6] (vs := [6]) (passes_of rfl) rfl (i_rg1 T.m_range (a_cons d_int a_nil)) (g_name 6 sc_law_fresh.nd) (ss_wipe [0, 6] (ss_cons (s_set 4 sc_law_fresh.nd (d_mod (d_add false (d_add false (d_mul false (d_v 4) (d_v 4)) (d_mul false (d_mul false d_int (d_add false (d_v 6) d_int)) (d_add false (d_v 1) d_int))) (d_v 2)) (d_v 3)))
    (ss_one (s_set 5 sc_law_fresh.nd (d_add false (d_mul false (d_v 5) (d_v 3)) (d_v 4)))))))
    (ss_one (s_ret (d_v 5))))))))))))
theorem ok_law_draw (T : Txt K mg) : FnF Z0 P w K mg base 2 T.f_law_draw T.fd_law_draw ["_law_pen_here", "_law_many"] F_law_draw := by
  refine okN (t := t_law_draw) (z := false) (FunD.of T.F_law_draw) sc_law_draw rfl rfl (fun cdv A outer s H E hr hg W tk zn cn => ?_)
  exact (ss_cons (s_if (t_cmp op_lt r2_lt (d_ix (hu_of hr) (d_v 0) d_int) (d_v 1) (nomark _)) (ss_one (s_asg (vs := []) (d_call (ds := []) (ok_law_fresh T) (hr.mono (by decide)) hg tk T.m_law_fresh T.F_law_fresh.kp T.b_law_fresh .nil no_vrs (a_cons (d_v 0) a_nil)) (g_sub (hu_of hr) (d_v 0) d_int))) ss_nil)
    (ss_cons (s_set 2 sc_law_draw.nd (d_mod (d_ix (hu_of hr) (d_v 0) d_int) (d_v 1)))
    (ss_cons (s_asg (vs := []) (d_div (d_ix (hu_of hr) (d_v 0) d_int) (d_v 1)) (g_sub (hu_of hr) (d_v 0) d_int))
    (ss_one (s_ret (d_v 2))))))
theorem ok_law_kinds (T : Txt K mg) : FnF Z0 P w K mg base 1 T.f_law_kinds T.fd_law_kinds ["_law_e"] F_law_kinds := by
  refine okN (t := t_law_kinds) (z := false) (FunD.of T.F_law_kinds) sc_law_kinds rfl rfl (fun cdv A outer s H E hr hg W tk zn cn => ?_)
  exact (ss_cons (s_set 1 sc_law_kinds.nd (d_lst false (a_cons (d_callB call_isX (rl_isX T.ti) T.m_isinstance (by decide +kernel) (a_cons (d_v 0) (a_cons (d_gl T.g_NoTurned) a_nil))) (a_cons (d_callB call_isX (rl_isX T.ti) T.m_isinstance (by decide +kernel) (a_cons (d_v 0) (a_cons (d_gl T.g_NoCurve) a_nil))) (a_cons (d_callB call_isX (rl_isX T.ti) T.m_isinstance (by decide +kernel) (a_cons (d_v 0) (a_cons (d_gl T.g_NoNumber) a_nil))) (a_cons (d_callB call_isX (rl_isX T.ti) T.m_isinstance (by decide +kernel) (a_cons (d_v 0) (a_cons (d_gl T.g_NoText) a_nil))) a_nil))))))
    (ss_cons (s_set 1 sc_law_kinds.nd (d_add false (d_v 1) (d_lst false (a_cons (d_callB call_isX (rl_isX T.ti) T.m_isinstance (by decide +kernel) (a_cons (d_v 0) (a_cons (d_gl T.g_NoLetter) a_nil))) (a_cons (d_callB call_isX (rl_isX T.ti) T.m_isinstance (by decide +kernel) (a_cons (d_v 0) (a_cons (d_gl T.g_NoMark) a_nil))) (a_cons (d_callB call_isX (rl_isX T.ti) T.m_isinstance (by decide +kernel) (a_cons (d_v 0) (a_cons (d_gl T.g_NoRow) a_nil))) (a_cons (d_callB call_isX (rl_isX T.ti) T.m_isinstance (by decide +kernel) (a_cons (d_v 0) (a_cons (d_gl T.g_NoCoin) a_nil))) a_nil)))))))
    (ss_cons (s_set 1 sc_law_kinds.nd (d_add false (d_v 1) (d_lst false (a_cons (d_callB call_isX (rl_isX T.ti) T.m_isinstance (by decide +kernel) (a_cons (d_v 0) (a_cons (d_gl T.g_NoGiven) a_nil))) (a_cons (d_callB call_isX (rl_isX T.ti) T.m_isinstance (by decide +kernel) (a_cons (d_v 0) (a_cons (d_gl T.g_TooMany) a_nil))) (a_cons (d_callB call_isX (rl_isX T.ti) T.m_isinstance (by decide +kernel) (a_cons (d_v 0) (a_cons (d_gl T.g_NoTurn) a_nil))) a_nil))))))
    (ss_one (s_ret (d_lc false [("_law_at", 2), ("_law_one", 3)] rfl sc_law_kinds.nd (i_enum T.m_enumerate (a_cons (d_v 1) a_nil)) (blkOk_by (own := [("_law_at", 2), ("_law_one", 3)]) (N := ["_law_e", "_law_found", "_law_at", "_law_one"]) (sc := defScope s_law_kinds) (by decide +kernel)) (fun _ _ _ _ _ => (g_tup rfl (g_cons (g_name 2 sc_law_kinds.nd) (g_cons (g_name 3 sc_law_kinds.nd) g_nil)))) (fun _ _ _ _ _ => (ts_one (t_tru (d_v 3)))) (fun _ _ _ _ _ => (d_v 2))))))))
theorem ok_law_pen (T : Txt K mg) : FnF Z0 P w K mg base 1 T.f_law_pen T.fd_law_pen ["_law_script"] F_law_pen := by
  refine okN (t := t_law_pen) (z := false) (FunD.of T.F_law_pen) sc_law_pen rfl rfl (fun cdv A outer s H E hr hg W tk zn cn => ?_)
  exact (ss_one (s_ret (d_lst true (a_cons (d_callT call_list_of (rl_list false) T.m_list (by decide +kernel) (a_cons (d_sl false (d_v 0) o_none (o_some d_int)) a_nil)) (a_cons d_int (a_cons d_int a_nil))))))
theorem ok_law_under (T : Txt K mg) : FnF Z0 P w K mg base 1 T.f_law_under T.fd_law_under ["_law_e"] F_law_under := by
  refine okN (t := t_law_under) (z := false) (FunD.of T.F_law_under) sc_law_under rfl rfl (fun cdv A outer s H E hr hg W tk zn cn => ?_)
  exact (ss_cons (s_set 1 sc_law_under.nd (d_lst false (a_cons (d_callB call_isX (rl_isX T.ti) T.m_isinstance (by decide +kernel) (a_cons (d_v 0) (a_cons (d_ty T.m_ZeroDivisionError (by decide +kernel)) a_nil))) (a_cons (d_callB call_isX (rl_isX T.ti) T.m_isinstance (by decide +kernel) (a_cons (d_v 0) (a_cons (d_ty T.m_ValueError (by decide +kernel)) a_nil))) (a_cons (d_callB call_isX (rl_isX T.ti) T.m_isinstance (by decide +kernel) (a_cons (d_v 0) (a_cons (d_ty T.m_LookupError (by decide +kernel)) a_nil))) a_nil)))))
    (ss_cons (s_set 1 sc_law_under.nd (d_add false (d_v 1) (d_lst false (a_cons (d_callB call_isX (rl_isX T.ti) T.m_isinstance (by decide +kernel) (a_cons (d_v 0) (a_cons (d_ty T.m_IndexError (by decide +kernel)) a_nil))) (a_cons (d_callB call_isX (rl_isX T.ti) T.m_isinstance (by decide +kernel) (a_cons (d_v 0) (a_cons (d_ty T.m_KeyError (by decide +kernel)) a_nil))) (a_cons (d_callB call_isX (rl_isX T.ti) T.m_isinstance (by decide +kernel) (a_cons (d_v 0) (a_cons (d_ty T.m_OverflowError (by decide +kernel)) a_nil))) a_nil))))))
    (ss_cons (s_set 1 sc_law_under.nd (d_add false (d_v 1) (d_lst false (a_cons (d_callB call_isX (rl_isX T.ti) T.m_isinstance (by decide +kernel) (a_cons (d_v 0) (a_cons (d_ty T.m_RuntimeError (by decide +kernel)) a_nil))) (a_cons (d_callB call_isX (rl_isX T.ti) T.m_isinstance (by decide +kernel) (a_cons (d_v 0) (a_cons (d_ty T.m_NotImplementedError (by decide +kernel)) a_nil))) a_nil)))))
    (ss_one (s_ret (d_lc false [("_law_at", 2), ("_law_one", 3)] rfl sc_law_under.nd (i_enum T.m_enumerate (a_cons (d_v 1) a_nil)) (blkOk_by (own := [("_law_at", 2), ("_law_one", 3)]) (N := ["_law_e", "_law_found", "_law_at", "_law_one"]) (sc := defScope s_law_under) (by decide +kernel)) (fun _ _ _ _ _ => (g_tup rfl (g_cons (g_name 2 sc_law_under.nd) (g_cons (g_name 3 sc_law_under.nd) g_nil)))) (fun _ _ _ _ _ => (ts_one (t_tru (d_v 3)))) (fun _ _ _ _ _ => (d_v 2))))))))
theorem ok_law (T : Txt K mg) {f : Addr} {fd : FuncData} (F : Fun K "law" "law" s_law f fd) : FnF Z0 P w K mg base 4 f fd ["_law_script"] F_law := by
  refine okN (t := t_law) (z := true) (FunD.of F) sc_law rfl rfl (fun cdv A outer s H E hr hg W tk zn cn => ?_)
  exact (ss_cons (s_set 1 sc_law.nd (d_call (ds := []) (ok_law_pen T) (hr.mono (by decide)) hg tk T.m_law_pen T.F_law_pen.kp T.b_law_pen .nil no_vrs (a_cons (d_v 0) a_nil)))
    (ss_cons (s_for [0, 2, 3, 4, 5, 6, 7, 8, 9, 10, 11, 12, 13, 14] (vs := [2]) (passes_of rfl) rfl (i_rg1 T.m_range (a_cons (d_callB (call_max2 rfl) rl_max2 T.m_max (by decide +kernel) (a_cons d_int (a_cons (d_callB (call_min2 rfl) rl_min2 T.m_min (by decide +kernel) (a_cons d_int (a_cons (d_callB call_lenV rl_len T.m_len (by decide +kernel) (a_cons (d_v 0) a_nil)) a_nil))) a_nil))) a_nil)) (g_name 2 sc_law.nd) (ss_wipe [0, 2, 3, 4, 5, 6, 7, 8, 9, 10, 11, 12, 13, 14] (ss_cons (s_set 3 sc_law.nd (d_lst false (a_cons (d_call (ds := []) (ok_law_draw T) (hr.mono (by decide)) hg tk T.m_law_draw T.F_law_draw.kp T.b_law_draw .nil no_vrs (a_cons (d_v 1) (a_cons d_int a_nil))) (a_cons (d_call (ds := []) (ok_law_draw T) (hr.mono (by decide)) hg tk T.m_law_draw T.F_law_draw.kp T.b_law_draw .nil no_vrs (a_cons (d_v 1) (a_cons (d_pow d_int d_int) a_nil))) (a_cons (d_neg d_int) a_nil)))))
    (ss_cons (s_set 4 sc_law.nd (d_callT call_tuple_of rl_tuple T.m_tuple (by decide +kernel) (a_cons (d_lc false [("_law_k", 14)] rfl sc_law.nd (i_rg1 T.m_range (a_cons (d_call (ds := []) (ok_law_draw T) (hr.mono (by decide)) hg tk T.m_law_draw T.F_law_draw.kp T.b_law_draw .nil no_vrs (a_cons (d_v 1) (a_cons d_int a_nil))) a_nil)) (blkOk_by (own := [("_law_k", 14)]) (N := ["_law_script", "_law_pen_here", "_law_turn", "_law_number_row", "_law_path", "_law_pair", "_law_one", "_law_spot", "_law_under_here", "_law_first", "_law_second", "_law_fields", "_law_due", "_law_alone", "_law_k"]) (sc := defScope s_law) (by decide +kernel)) (fun _ _ _ _ _ => (g_name 14 sc_law.nd)) (fun _ _ _ _ _ => ts_nil) (fun _ _ _ _ _ => (d_call (ds := []) (ok_law_draw T) (hr.mono (by decide)) hg takes_none T.m_law_draw T.F_law_draw.kp T.b_law_draw .nil no_vrs (a_cons (d_v 1) (a_cons d_int a_nil))))) a_nil)))
    (ss_cons (s_set 5 sc_law.nd (d_tup (a_cons (d_v 4) (a_cons (d_ix (hu_of hr) (d_lst false (a_cons d_str (a_cons d_str (a_cons d_str (a_cons d_str (a_cons d_str a_nil)))))) (d_call (ds := []) (ok_law_draw T) (hr.mono (by decide)) hg tk T.m_law_draw T.F_law_draw.kp T.b_law_draw .nil no_vrs (a_cons (d_v 1) (a_cons d_int a_nil)))) a_nil))))
    (ss_cons (s_for [0, 2, 3, 4, 6, 7, 8, 9, 10, 11, 12, 13, 14] (vs := [6]) (passes_of rfl) rfl (i_seq (d_v 3)) (g_name 6 sc_law.nd) (ss_wipe [0, 2, 3, 4, 6, 7, 8, 9, 10, 11, 12, 13, 14] (ss_one (s_for [0, 2, 3, 4, 6, 7, 8, 9, 10, 11, 12, 13, 14] (vs := [7, 8, 9, 10, 11, 12]) (passes_of rfl) rfl (i_seq (d_call (ds := []) (ok_law_all_made T) (hr.mono (by decide)) hg tk T.m_law_all_made T.F_law_all_made.kp T.b_law_all_made .nil no_vrs (a_cons (d_v 6) (a_cons (d_v 5) a_nil)))) (g_tup rfl (g_cons (g_tup rfl (g_cons (g_name 7 sc_law.nd) (g_cons (g_name 8 sc_law.nd) (g_cons (g_name 9 sc_law.nd) (g_cons (g_name 10 sc_law.nd) (g_cons (g_name 11 sc_law.nd) g_nil)))))) (g_cons (g_name 12 sc_law.nd) g_nil))) (ss_wipe [0, 2, 3, 4, 6, 7, 8, 9, 10, 11, 12, 13, 14] (ss_cons (s_if (PW.pt (w_or (t_cmp (op_neU hr.units) r2_ne (d_call (ds := []) (ok_law_kinds T) (hr.mono (by decide)) hg tk T.m_law_kinds T.F_law_kinds.kp T.b_law_kinds .nil no_vrs (a_cons (d_v 9) a_nil)) (d_lst false (a_cons (d_v 7) a_nil)) (nomark _)) (w_or1 (t_cmp (op_neU hr.units) r2_ne (d_call (ds := []) (ok_law_kinds T) (hr.mono (by decide)) hg tk T.m_law_kinds T.F_law_kinds.kp T.b_law_kinds .nil no_vrs (a_cons (d_v 10) a_nil)) (d_lst false (a_cons (d_v 7) a_nil)) (nomark _))))) (ss_one (s_ret d_bl)) ss_nil)
    (ss_one (s_if (PW.pt (w_or (t_cmp (op_neU hr.units) r2_ne (d_call (ds := []) (ok_law_under T) (hr.mono (by decide)) hg tk T.m_law_under T.F_law_under.kp T.b_law_under .nil no_vrs (a_cons (d_v 9) a_nil)) (d_v 8) (nomark _)) (w_or (t_cmp (op_neU hr.units) r2_ne (d_call (ds := []) (ok_law_under T) (hr.mono (by decide)) hg tk T.m_law_under T.F_law_under.kp T.b_law_under .nil no_vrs (a_cons (d_v 10) a_nil)) (d_v 8) (nomark _)) (w_or1 (t_cmp (op_neU hr.units) r2_ne (d_callB (call_reprV hg (rm180 hr)) rl_reprU T.m_repr (by decide +kernel) (a_cons (d_v 11) a_nil)) (d_callB (call_reprV hg (rm180 hr)) rl_reprU T.m_repr (by decide +kernel) (a_cons (d_lst false (a_cons (d_v 12) (a_cons (d_v 12) a_nil))) a_nil)) (nomark _)))))) (ss_one (s_ret d_bl)) ss_nil))))))))
    (ss_cons (s_set 13 sc_law.nd (d_exv (m_mk0 bz_RuntimeError T.x_NoTurn) mk0_x))
    (ss_one (s_if (PW.pt (w_or (t_cmp (op_neU hr.units) r2_ne (d_call (ds := []) (ok_law_kinds T) (hr.mono (by decide)) hg tk T.m_law_kinds T.F_law_kinds.kp T.b_law_kinds .nil no_vrs (a_cons (d_v 13) a_nil)) (d_lst false (a_cons d_int a_nil)) (nomark _)) (w_or1 (t_cmp (op_neU hr.units) r2_ne (d_call (ds := []) (ok_law_under T) (hr.mono (by decide)) hg tk T.m_law_under T.F_law_under.kp T.b_law_under .nil no_vrs (a_cons (d_v 13) a_nil)) (d_lst false (a_cons d_int a_nil)) (nomark _))))) (ss_one (s_ret d_bl)) ss_nil)))))))))
    (ss_one (s_ret d_bl))))
end
theorem all_mk {l : PySem.W.OpenLaw} {w : World} {K : PySem.W.Frag} {h : Heap} {mg : Str → Option Value} {fa f0 f1 f2 f3 f4 f5 f6 : Addr} (X : K.In h) (G : h.Ns mainGlobals mg) (hfa : mg "law" = some (.ref fa))
    {C_NoCoin C_NoCurve C_NoGiven C_NoLetter C_NoMark C_NoNumber C_NoRow C_NoText C_NoTurn C_NoTurned C_TooMany : Addr}
    {N_NoCoin fI_NoCoin N_NoCurve fI_NoCurve N_NoGiven fI_NoGiven N_NoLetter fI_NoLetter N_NoMark fI_NoMark N_NoNumber fI_NoNumber N_NoRow fI_NoRow N_NoText fI_NoText N_NoTurned fI_NoTurned N_TooMany fI_TooMany : Addr} {nm_NoCoin q_NoCoin nm_NoCurve q_NoCurve nm_NoGiven q_NoGiven nm_NoLetter q_NoLetter nm_NoMark q_NoMark nm_NoNumber q_NoNumber nm_NoRow q_NoRow nm_NoText q_NoText nm_NoTurned q_NoTurned nm_TooMany q_TooMany : Str} {bs_NoCoin sub_NoCoin bs_NoCurve sub_NoCurve bs_NoGiven sub_NoGiven bs_NoLetter sub_NoLetter bs_NoMark sub_NoMark bs_NoNumber sub_NoNumber bs_NoRow sub_NoRow bs_NoText sub_NoText bs_NoTurned sub_NoTurned bs_TooMany sub_TooMany : List Value} {sn_NoCoin sn_NoCurve sn_NoGiven sn_NoLetter sn_NoMark sn_NoNumber sn_NoRow sn_NoText sn_NoTurned sn_TooMany : List Str} {ab_NoCoin ab_NoCurve ab_NoGiven ab_NoLetter ab_NoMark ab_NoNumber ab_NoRow ab_NoText ab_NoTurned ab_TooMany : Bool} {col_NoCoin col_NoCurve col_NoGiven col_NoLetter col_NoMark col_NoNumber col_NoRow col_NoText col_NoTurned col_TooMany : Option Bool} {dd_NoCoin dd_NoCurve dd_NoGiven dd_NoLetter dd_NoMark dd_NoNumber dd_NoRow dd_NoText dd_NoTurned dd_TooMany : Option Addr} {k0_NoCoin k1_NoCoin k2_NoCoin k3_NoCoin k5_NoCoin k0_NoCurve k1_NoCurve k2_NoCurve k3_NoCurve k5_NoCurve k0_NoGiven k1_NoGiven k2_NoGiven k3_NoGiven k5_NoGiven k0_NoLetter k1_NoLetter k2_NoLetter k3_NoLetter k5_NoLetter k0_NoMark k1_NoMark k2_NoMark k3_NoMark k5_NoMark k0_NoNumber k1_NoNumber k2_NoNumber k3_NoNumber k5_NoNumber k0_NoRow k1_NoRow k2_NoRow k3_NoRow k5_NoRow k0_NoText k1_NoText k2_NoText k3_NoText k5_NoText k0_NoTurned k1_NoTurned k2_NoTurned k3_NoTurned k5_NoTurned k0_TooMany k1_TooMany k2_TooMany k3_TooMany k5_TooMany : Option Value}
    {xod_NoCoin xan_NoCoin xod_NoCurve xan_NoCurve xod_NoGiven xan_NoGiven xod_NoLetter xan_NoLetter xod_NoMark xan_NoMark xod_NoNumber xan_NoNumber xod_NoRow xan_NoRow xod_NoText xan_NoText xod_NoTurned xan_NoTurned xod_TooMany xan_TooMany : Option Addr} {xsl_NoCoin xsl_NoCurve xsl_NoGiven xsl_NoLetter xsl_NoMark xsl_NoNumber xsl_NoRow xsl_NoText xsl_NoTurned xsl_TooMany : Array (Option Value)} {xoc_NoCoin xkV_NoCoin xdc_NoCoin xpm_NoCoin xcd_NoCoin xct_NoCoin xoc_NoCurve xkV_NoCurve xdc_NoCurve xpm_NoCurve xcd_NoCurve xct_NoCurve xoc_NoGiven xkV_NoGiven xdc_NoGiven xpm_NoGiven xcd_NoGiven xct_NoGiven xoc_NoLetter xkV_NoLetter xdc_NoLetter xpm_NoLetter xcd_NoLetter xct_NoLetter xoc_NoMark xkV_NoMark xdc_NoMark xpm_NoMark xcd_NoMark xct_NoMark xoc_NoNumber xkV_NoNumber xdc_NoNumber xpm_NoNumber xcd_NoNumber xct_NoNumber xoc_NoRow xkV_NoRow xdc_NoRow xpm_NoRow xcd_NoRow xct_NoRow xoc_NoText xkV_NoText xdc_NoText xpm_NoText xcd_NoText xct_NoText xoc_NoTurned xkV_NoTurned xdc_NoTurned xpm_NoTurned xcd_NoTurned xct_NoTurned xoc_TooMany xkV_TooMany xdc_TooMany xpm_TooMany xcd_TooMany xct_TooMany : Value}
    {od0 an0 od1 an1 od2 an2 od3 an3 od4 an4 od5 an5 od6 an6 : Option Addr} {sl0 sl1 sl2 sl3 sl4 sl5 sl6 : Array (Option Value)} {oc0 kV0 dc0 pm0 cd0 ct0 oc1 kV1 dc1 pm1 cd1 ct1 oc2 kV2 dc2 pm2 cd2 ct2 oc3 kV3 dc3 pm3 cd3 ct3 oc4 kV4 dc4 pm4 cd4 ct4 oc5 kV5 dc5 pm5 cd5 ct5 oc6 kV6 dc6 pm6 cd6 ct6 : Value}
    (a0 : PySem.W.nsIn K mainGlobals "_law_all_made" = some (some (.ref f0))) (l0 : K.lookup f0 = some ⟨oc0, od0, .func (PySem.W.fnOf "_law_all_made" "_law_all_made" (defArgs s_law_all_made) (defBody s_law_all_made) (defScope s_law_all_made) .none kV0 dc0 pm0 an0 cd0 ct0), sl0⟩) (c0 : PySem.W.codeIn K cd0 "_law_all_made" = true) (k0 : PySem.W.keepIn K (.ref f0) = true)
    (a1 : PySem.W.nsIn K mainGlobals "_law_fresh" = some (some (.ref f1))) (l1 : K.lookup f1 = some ⟨oc1, od1, .func (PySem.W.fnOf "_law_fresh" "_law_fresh" (defArgs s_law_fresh) (defBody s_law_fresh) (defScope s_law_fresh) .none kV1 dc1 pm1 an1 cd1 ct1), sl1⟩) (c1 : PySem.W.codeIn K cd1 "_law_fresh" = true) (k1 : PySem.W.keepIn K (.ref f1) = true)
    (a2 : PySem.W.nsIn K mainGlobals "_law_draw" = some (some (.ref f2))) (l2 : K.lookup f2 = some ⟨oc2, od2, .func (PySem.W.fnOf "_law_draw" "_law_draw" (defArgs s_law_draw) (defBody s_law_draw) (defScope s_law_draw) .none kV2 dc2 pm2 an2 cd2 ct2), sl2⟩) (c2 : PySem.W.codeIn K cd2 "_law_draw" = true) (k2 : PySem.W.keepIn K (.ref f2) = true)
    (a3 : PySem.W.nsIn K mainGlobals "_law_kinds" = some (some (.ref f3))) (l3 : K.lookup f3 = some ⟨oc3, od3, .func (PySem.W.fnOf "_law_kinds" "_law_kinds" (defArgs s_law_kinds) (defBody s_law_kinds) (defScope s_law_kinds) .none kV3 dc3 pm3 an3 cd3 ct3), sl3⟩) (c3 : PySem.W.codeIn K cd3 "_law_kinds" = true) (k3 : PySem.W.keepIn K (.ref f3) = true)
    (a4 : PySem.W.nsIn K mainGlobals "_law_pen" = some (some (.ref f4))) (l4 : K.lookup f4 = some ⟨oc4, od4, .func (PySem.W.fnOf "_law_pen" "_law_pen" (defArgs s_law_pen) (defBody s_law_pen) (defScope s_law_pen) .none kV4 dc4 pm4 an4 cd4 ct4), sl4⟩) (c4 : PySem.W.codeIn K cd4 "_law_pen" = true) (k4 : PySem.W.keepIn K (.ref f4) = true)
    (a5 : PySem.W.nsIn K mainGlobals "_law_under" = some (some (.ref f5))) (l5 : K.lookup f5 = some ⟨oc5, od5, .func (PySem.W.fnOf "_law_under" "_law_under" (defArgs s_law_under) (defBody s_law_under) (defScope s_law_under) .none kV5 dc5 pm5 an5 cd5 ct5), sl5⟩) (c5 : PySem.W.codeIn K cd5 "_law_under" = true) (k5 : PySem.W.keepIn K (.ref f5) = true)
    (a6 : PySem.W.nsIn K mainGlobals "law" = some (some (.ref f6))) (l6 : K.lookup f6 = some ⟨oc6, od6, .func (PySem.W.fnOf "law" "law" (defArgs s_law) (defBody s_law) (defScope s_law) .none kV6 dc6 pm6 an6 cd6 ct6), sl6⟩) (c6 : PySem.W.codeIn K cd6 "law" = true) (k6 : PySem.W.keepIn K (.ref f6) = true)
    (z_IndexError : PySem.W.nsIn K mainGlobals "IndexError" = some none)
    (z_KeyError : PySem.W.nsIn K mainGlobals "KeyError" = some none)
    (z_LookupError : PySem.W.nsIn K mainGlobals "LookupError" = some none)
    (z_NotImplementedError : PySem.W.nsIn K mainGlobals "NotImplementedError" = some none)
    (z_OverflowError : PySem.W.nsIn K mainGlobals "OverflowError" = some none)
    (z_RuntimeError : PySem.W.nsIn K mainGlobals "RuntimeError" = some none)
    (z_ValueError : PySem.W.nsIn K mainGlobals "ValueError" = some none)
    (z_ZeroDivisionError : PySem.W.nsIn K mainGlobals "ZeroDivisionError" = some none)
    (z_enumerate : PySem.W.nsIn K mainGlobals "enumerate" = some none)
    (z_isinstance : PySem.W.nsIn K mainGlobals "isinstance" = some none)
    (z_len : PySem.W.nsIn K mainGlobals "len" = some none)
    (z_list : PySem.W.nsIn K mainGlobals "list" = some none)
    (z_max : PySem.W.nsIn K mainGlobals "max" = some none)
    (z_min : PySem.W.nsIn K mainGlobals "min" = some none)
    (z_range : PySem.W.nsIn K mainGlobals "range" = some none)
    (z_repr : PySem.W.nsIn K mainGlobals "repr" = some none)
    (z_tuple : PySem.W.nsIn K mainGlobals "tuple" = some none)
    (xa_NoCoin : PySem.W.nsIn K mainGlobals "NoCoin" = some (some (.ref C_NoCoin)))
    (xe_NoCoin : PySem.W.subIn K (.ref C_NoCoin) (.type "BaseException") = some true)
    (xt_NoCoin : PySem.W.typeIn K (.ref C_NoCoin) = some (.type "type"))
    (xi_NoCoin : PySem.W.isClsIn K C_NoCoin = true)
    (xs_NoCoin : PySem.W.subIn K (.ref C_NoCoin) (.ref C_NoCoin) = some true)
    (xa_NoCurve : PySem.W.nsIn K mainGlobals "NoCurve" = some (some (.ref C_NoCurve)))
    (xe_NoCurve : PySem.W.subIn K (.ref C_NoCurve) (.type "BaseException") = some true)
    (xt_NoCurve : PySem.W.typeIn K (.ref C_NoCurve) = some (.type "type"))
    (xi_NoCurve : PySem.W.isClsIn K C_NoCurve = true)
    (xs_NoCurve : PySem.W.subIn K (.ref C_NoCurve) (.ref C_NoCurve) = some true)
    (xa_NoGiven : PySem.W.nsIn K mainGlobals "NoGiven" = some (some (.ref C_NoGiven)))
    (xe_NoGiven : PySem.W.subIn K (.ref C_NoGiven) (.type "BaseException") = some true)
    (xt_NoGiven : PySem.W.typeIn K (.ref C_NoGiven) = some (.type "type"))
    (xi_NoGiven : PySem.W.isClsIn K C_NoGiven = true)
    (xs_NoGiven : PySem.W.subIn K (.ref C_NoGiven) (.ref C_NoGiven) = some true)
    (xa_NoLetter : PySem.W.nsIn K mainGlobals "NoLetter" = some (some (.ref C_NoLetter)))
    (xe_NoLetter : PySem.W.subIn K (.ref C_NoLetter) (.type "BaseException") = some true)
    (xt_NoLetter : PySem.W.typeIn K (.ref C_NoLetter) = some (.type "type"))
    (xi_NoLetter : PySem.W.isClsIn K C_NoLetter = true)
    (xs_NoLetter : PySem.W.subIn K (.ref C_NoLetter) (.ref C_NoLetter) = some true)
    (xa_NoMark : PySem.W.nsIn K mainGlobals "NoMark" = some (some (.ref C_NoMark)))
    (xe_NoMark : PySem.W.subIn K (.ref C_NoMark) (.type "BaseException") = some true)
    (xt_NoMark : PySem.W.typeIn K (.ref C_NoMark) = some (.type "type"))
    (xi_NoMark : PySem.W.isClsIn K C_NoMark = true)
    (xs_NoMark : PySem.W.subIn K (.ref C_NoMark) (.ref C_NoMark) = some true)
    (xa_NoNumber : PySem.W.nsIn K mainGlobals "NoNumber" = some (some (.ref C_NoNumber)))
    (xe_NoNumber : PySem.W.subIn K (.ref C_NoNumber) (.type "BaseException") = some true)
    (xt_NoNumber : PySem.W.typeIn K (.ref C_NoNumber) = some (.type "type"))
    (xi_NoNumber : PySem.W.isClsIn K C_NoNumber = true)
    (xs_NoNumber : PySem.W.subIn K (.ref C_NoNumber) (.ref C_NoNumber) = some true)
    (xa_NoRow : PySem.W.nsIn K mainGlobals "NoRow" = some (some (.ref C_NoRow)))
    (xe_NoRow : PySem.W.subIn K (.ref C_NoRow) (.type "BaseException") = some true)
    (xt_NoRow : PySem.W.typeIn K (.ref C_NoRow) = some (.type "type"))
    (xi_NoRow : PySem.W.isClsIn K C_NoRow = true)
    (xs_NoRow : PySem.W.subIn K (.ref C_NoRow) (.ref C_NoRow) = some true)
    (xa_NoText : PySem.W.nsIn K mainGlobals "NoText" = some (some (.ref C_NoText)))
    (xe_NoText : PySem.W.subIn K (.ref C_NoText) (.type "BaseException") = some true)
    (xt_NoText : PySem.W.typeIn K (.ref C_NoText) = some (.type "type"))
    (xi_NoText : PySem.W.isClsIn K C_NoText = true)
    (xs_NoText : PySem.W.subIn K (.ref C_NoText) (.ref C_NoText) = some true)
    (xa_NoTurn : PySem.W.nsIn K mainGlobals "NoTurn" = some (some (.ref C_NoTurn)))
    (xe_NoTurn : PySem.W.subIn K (.ref C_NoTurn) (.type "BaseException") = some true)
    (xt_NoTurn : PySem.W.typeIn K (.ref C_NoTurn) = some (.type "type"))
    (xi_NoTurn : PySem.W.isClsIn K C_NoTurn = true)
    (xs_NoTurn : PySem.W.subIn K (.ref C_NoTurn) (.ref C_NoTurn) = some true)
    (xa_NoTurned : PySem.W.nsIn K mainGlobals "NoTurned" = some (some (.ref C_NoTurned)))
    (xe_NoTurned : PySem.W.subIn K (.ref C_NoTurned) (.type "BaseException") = some true)
    (xt_NoTurned : PySem.W.typeIn K (.ref C_NoTurned) = some (.type "type"))
    (xi_NoTurned : PySem.W.isClsIn K C_NoTurned = true)
    (xs_NoTurned : PySem.W.subIn K (.ref C_NoTurned) (.ref C_NoTurned) = some true)
    (xa_TooMany : PySem.W.nsIn K mainGlobals "TooMany" = some (some (.ref C_TooMany)))
    (xe_TooMany : PySem.W.subIn K (.ref C_TooMany) (.type "BaseException") = some true)
    (xt_TooMany : PySem.W.typeIn K (.ref C_TooMany) = some (.type "type"))
    (xi_TooMany : PySem.W.isClsIn K C_TooMany = true)
    (xs_TooMany : PySem.W.subIn K (.ref C_TooMany) (.ref C_TooMany) = some true)
    (xL_NoCoin : K.lookup C_NoCoin = some (excClassObj nm_NoCoin q_NoCoin C_NoCoin N_NoCoin bs_NoCoin [.type "IndexError", .type "LookupError", .type "Exception", .type "BaseException", .type "object"] true sn_NoCoin sub_NoCoin ab_NoCoin col_NoCoin dd_NoCoin k0_NoCoin k1_NoCoin k2_NoCoin k3_NoCoin k5_NoCoin "IndexError.__new__"))
    (xsa_NoCoin : PySem.W.findIn K (.ref C_NoCoin) "__setattr__" = some (some (.builtin "object.__setattr__")))
    (xk_NoCoin : PySem.W.keepIn K (.ref C_NoCoin) = true)
    (xn_NoCoin : PySem.W.findIn K (.ref C_NoCoin) "hand" = some none)
    (xI_NoCoin : PySem.W.findIn K (.ref C_NoCoin) "__init__" = some (some (.ref fI_NoCoin)))
    (xT_NoCoin : PySem.W.typeIn K (.ref fI_NoCoin) = some (.type "function"))
    (xl_NoCoin : K.lookup fI_NoCoin = some ⟨xoc_NoCoin, xod_NoCoin, .func (PySem.W.fnOf "__init__" "NoCoin.__init__" (defArgs si_NoCoin) (defBody si_NoCoin) (defScope si_NoCoin) .none xkV_NoCoin xdc_NoCoin xpm_NoCoin xan_NoCoin xcd_NoCoin xct_NoCoin), xsl_NoCoin⟩)
    (xc_NoCoin : PySem.W.codeIn K xcd_NoCoin "NoCoin.__init__" = true)
    (xK_NoCoin : PySem.W.keepIn K (.ref fI_NoCoin) = true)
    (xL_NoCurve : K.lookup C_NoCurve = some (excClassObj nm_NoCurve q_NoCurve C_NoCurve N_NoCurve bs_NoCurve [.type "ValueError", .type "Exception", .type "BaseException", .type "object"] true sn_NoCurve sub_NoCurve ab_NoCurve col_NoCurve dd_NoCurve k0_NoCurve k1_NoCurve k2_NoCurve k3_NoCurve k5_NoCurve "ValueError.__new__"))
    (xsa_NoCurve : PySem.W.findIn K (.ref C_NoCurve) "__setattr__" = some (some (.builtin "object.__setattr__")))
    (xk_NoCurve : PySem.W.keepIn K (.ref C_NoCurve) = true)
    (xn_NoCurve : PySem.W.findIn K (.ref C_NoCurve) "place" = some none)
    (xI_NoCurve : PySem.W.findIn K (.ref C_NoCurve) "__init__" = some (some (.ref fI_NoCurve)))
    (xT_NoCurve : PySem.W.typeIn K (.ref fI_NoCurve) = some (.type "function"))
    (xl_NoCurve : K.lookup fI_NoCurve = some ⟨xoc_NoCurve, xod_NoCurve, .func (PySem.W.fnOf "__init__" "NoCurve.__init__" (defArgs si_NoCurve) (defBody si_NoCurve) (defScope si_NoCurve) .none xkV_NoCurve xdc_NoCurve xpm_NoCurve xan_NoCurve xcd_NoCurve xct_NoCurve), xsl_NoCurve⟩)
    (xc_NoCurve : PySem.W.codeIn K xcd_NoCurve "NoCurve.__init__" = true)
    (xK_NoCurve : PySem.W.keepIn K (.ref fI_NoCurve) = true)
    (xL_NoGiven : K.lookup C_NoGiven = some (excClassObj nm_NoGiven q_NoGiven C_NoGiven N_NoGiven bs_NoGiven [.type "KeyError", .type "LookupError", .type "Exception", .type "BaseException", .type "object"] true sn_NoGiven sub_NoGiven ab_NoGiven col_NoGiven dd_NoGiven k0_NoGiven k1_NoGiven k2_NoGiven k3_NoGiven k5_NoGiven "LookupError.__new__"))
    (xsa_NoGiven : PySem.W.findIn K (.ref C_NoGiven) "__setattr__" = some (some (.builtin "object.__setattr__")))
    (xk_NoGiven : PySem.W.keepIn K (.ref C_NoGiven) = true)
    (xn_NoGiven : PySem.W.findIn K (.ref C_NoGiven) "hand" = some none)
    (xI_NoGiven : PySem.W.findIn K (.ref C_NoGiven) "__init__" = some (some (.ref fI_NoGiven)))
    (xT_NoGiven : PySem.W.typeIn K (.ref fI_NoGiven) = some (.type "function"))
    (xl_NoGiven : K.lookup fI_NoGiven = some ⟨xoc_NoGiven, xod_NoGiven, .func (PySem.W.fnOf "__init__" "NoGiven.__init__" (defArgs si_NoGiven) (defBody si_NoGiven) (defScope si_NoGiven) .none xkV_NoGiven xdc_NoGiven xpm_NoGiven xan_NoGiven xcd_NoGiven xct_NoGiven), xsl_NoGiven⟩)
    (xc_NoGiven : PySem.W.codeIn K xcd_NoGiven "NoGiven.__init__" = true)
    (xK_NoGiven : PySem.W.keepIn K (.ref fI_NoGiven) = true)
    (xL_NoLetter : K.lookup C_NoLetter = some (excClassObj nm_NoLetter q_NoLetter C_NoLetter N_NoLetter bs_NoLetter [.type "LookupError", .type "Exception", .type "BaseException", .type "object"] true sn_NoLetter sub_NoLetter ab_NoLetter col_NoLetter dd_NoLetter k0_NoLetter k1_NoLetter k2_NoLetter k3_NoLetter k5_NoLetter "LookupError.__new__"))
    (xsa_NoLetter : PySem.W.findIn K (.ref C_NoLetter) "__setattr__" = some (some (.builtin "object.__setattr__")))
    (xk_NoLetter : PySem.W.keepIn K (.ref C_NoLetter) = true)
    (xn_NoLetter : PySem.W.findIn K (.ref C_NoLetter) "step" = some none)
    (xI_NoLetter : PySem.W.findIn K (.ref C_NoLetter) "__init__" = some (some (.ref fI_NoLetter)))
    (xT_NoLetter : PySem.W.typeIn K (.ref fI_NoLetter) = some (.type "function"))
    (xl_NoLetter : K.lookup fI_NoLetter = some ⟨xoc_NoLetter, xod_NoLetter, .func (PySem.W.fnOf "__init__" "NoLetter.__init__" (defArgs si_NoLetter) (defBody si_NoLetter) (defScope si_NoLetter) .none xkV_NoLetter xdc_NoLetter xpm_NoLetter xan_NoLetter xcd_NoLetter xct_NoLetter), xsl_NoLetter⟩)
    (xc_NoLetter : PySem.W.codeIn K xcd_NoLetter "NoLetter.__init__" = true)
    (xK_NoLetter : PySem.W.keepIn K (.ref fI_NoLetter) = true)
    (xL_NoMark : K.lookup C_NoMark = some (excClassObj nm_NoMark q_NoMark C_NoMark N_NoMark bs_NoMark [.type "LookupError", .type "Exception", .type "BaseException", .type "object"] true sn_NoMark sub_NoMark ab_NoMark col_NoMark dd_NoMark k0_NoMark k1_NoMark k2_NoMark k3_NoMark k5_NoMark "LookupError.__new__"))
    (xsa_NoMark : PySem.W.findIn K (.ref C_NoMark) "__setattr__" = some (some (.builtin "object.__setattr__")))
    (xk_NoMark : PySem.W.keepIn K (.ref C_NoMark) = true)
    (xn_NoMark : PySem.W.findIn K (.ref C_NoMark) "number" = some none)
    (xI_NoMark : PySem.W.findIn K (.ref C_NoMark) "__init__" = some (some (.ref fI_NoMark)))
    (xT_NoMark : PySem.W.typeIn K (.ref fI_NoMark) = some (.type "function"))
    (xl_NoMark : K.lookup fI_NoMark = some ⟨xoc_NoMark, xod_NoMark, .func (PySem.W.fnOf "__init__" "NoMark.__init__" (defArgs si_NoMark) (defBody si_NoMark) (defScope si_NoMark) .none xkV_NoMark xdc_NoMark xpm_NoMark xan_NoMark xcd_NoMark xct_NoMark), xsl_NoMark⟩)
    (xc_NoMark : PySem.W.codeIn K xcd_NoMark "NoMark.__init__" = true)
    (xK_NoMark : PySem.W.keepIn K (.ref fI_NoMark) = true)
    (xL_NoNumber : K.lookup C_NoNumber = some (excClassObj nm_NoNumber q_NoNumber C_NoNumber N_NoNumber bs_NoNumber [.type "ValueError", .type "Exception", .type "BaseException", .type "object"] true sn_NoNumber sub_NoNumber ab_NoNumber col_NoNumber dd_NoNumber k0_NoNumber k1_NoNumber k2_NoNumber k3_NoNumber k5_NoNumber "ValueError.__new__"))
    (xsa_NoNumber : PySem.W.findIn K (.ref C_NoNumber) "__setattr__" = some (some (.builtin "object.__setattr__")))
    (xk_NoNumber : PySem.W.keepIn K (.ref C_NoNumber) = true)
    (xn_NoNumber : PySem.W.findIn K (.ref C_NoNumber) "hand" = some none)
    (xI_NoNumber : PySem.W.findIn K (.ref C_NoNumber) "__init__" = some (some (.ref fI_NoNumber)))
    (xT_NoNumber : PySem.W.typeIn K (.ref fI_NoNumber) = some (.type "function"))
    (xl_NoNumber : K.lookup fI_NoNumber = some ⟨xoc_NoNumber, xod_NoNumber, .func (PySem.W.fnOf "__init__" "NoNumber.__init__" (defArgs si_NoNumber) (defBody si_NoNumber) (defScope si_NoNumber) .none xkV_NoNumber xdc_NoNumber xpm_NoNumber xan_NoNumber xcd_NoNumber xct_NoNumber), xsl_NoNumber⟩)
    (xc_NoNumber : PySem.W.codeIn K xcd_NoNumber "NoNumber.__init__" = true)
    (xK_NoNumber : PySem.W.keepIn K (.ref fI_NoNumber) = true)
    (xL_NoRow : K.lookup C_NoRow = some (excClassObj nm_NoRow q_NoRow C_NoRow N_NoRow bs_NoRow [.type "LookupError", .type "Exception", .type "BaseException", .type "object"] true sn_NoRow sub_NoRow ab_NoRow col_NoRow dd_NoRow k0_NoRow k1_NoRow k2_NoRow k3_NoRow k5_NoRow "LookupError.__new__"))
    (xsa_NoRow : PySem.W.findIn K (.ref C_NoRow) "__setattr__" = some (some (.builtin "object.__setattr__")))
    (xk_NoRow : PySem.W.keepIn K (.ref C_NoRow) = true)
    (xn_NoRow : PySem.W.findIn K (.ref C_NoRow) "number" = some none)
    (xI_NoRow : PySem.W.findIn K (.ref C_NoRow) "__init__" = some (some (.ref fI_NoRow)))
    (xT_NoRow : PySem.W.typeIn K (.ref fI_NoRow) = some (.type "function"))
    (xl_NoRow : K.lookup fI_NoRow = some ⟨xoc_NoRow, xod_NoRow, .func (PySem.W.fnOf "__init__" "NoRow.__init__" (defArgs si_NoRow) (defBody si_NoRow) (defScope si_NoRow) .none xkV_NoRow xdc_NoRow xpm_NoRow xan_NoRow xcd_NoRow xct_NoRow), xsl_NoRow⟩)
    (xc_NoRow : PySem.W.codeIn K xcd_NoRow "NoRow.__init__" = true)
    (xK_NoRow : PySem.W.keepIn K (.ref fI_NoRow) = true)
    (xL_NoText : K.lookup C_NoText = some (excClassObj nm_NoText q_NoText C_NoText N_NoText bs_NoText [.type "ValueError", .type "Exception", .type "BaseException", .type "object"] true sn_NoText sub_NoText ab_NoText col_NoText dd_NoText k0_NoText k1_NoText k2_NoText k3_NoText k5_NoText "ValueError.__new__"))
    (xsa_NoText : PySem.W.findIn K (.ref C_NoText) "__setattr__" = some (some (.builtin "object.__setattr__")))
    (xk_NoText : PySem.W.keepIn K (.ref C_NoText) = true)
    (xn_NoText : PySem.W.findIn K (.ref C_NoText) "why" = some none)
    (xI_NoText : PySem.W.findIn K (.ref C_NoText) "__init__" = some (some (.ref fI_NoText)))
    (xT_NoText : PySem.W.typeIn K (.ref fI_NoText) = some (.type "function"))
    (xl_NoText : K.lookup fI_NoText = some ⟨xoc_NoText, xod_NoText, .func (PySem.W.fnOf "__init__" "NoText.__init__" (defArgs si_NoText) (defBody si_NoText) (defScope si_NoText) .none xkV_NoText xdc_NoText xpm_NoText xan_NoText xcd_NoText xct_NoText), xsl_NoText⟩)
    (xc_NoText : PySem.W.codeIn K xcd_NoText "NoText.__init__" = true)
    (xK_NoText : PySem.W.keepIn K (.ref fI_NoText) = true)
    (xq_NoTurn : PySem.W.excIn K C_NoTurn [.type "RuntimeError", .type "Exception", .type "BaseException", .type "object"] "RuntimeError.__new__" = true)
    (xk_NoTurn : PySem.W.keepIn K (.ref C_NoTurn) = true)
    (xL_NoTurned : K.lookup C_NoTurned = some (excClassObj nm_NoTurned q_NoTurned C_NoTurned N_NoTurned bs_NoTurned [.type "ZeroDivisionError", .type "ArithmeticError", .type "Exception", .type "BaseException", .type "object"] true sn_NoTurned sub_NoTurned ab_NoTurned col_NoTurned dd_NoTurned k0_NoTurned k1_NoTurned k2_NoTurned k3_NoTurned k5_NoTurned "ZeroDivisionError.__new__"))
    (xsa_NoTurned : PySem.W.findIn K (.ref C_NoTurned) "__setattr__" = some (some (.builtin "object.__setattr__")))
    (xk_NoTurned : PySem.W.keepIn K (.ref C_NoTurned) = true)
    (xn_NoTurned : PySem.W.findIn K (.ref C_NoTurned) "prime" = some none)
    (xI_NoTurned : PySem.W.findIn K (.ref C_NoTurned) "__init__" = some (some (.ref fI_NoTurned)))
    (xT_NoTurned : PySem.W.typeIn K (.ref fI_NoTurned) = some (.type "function"))
    (xl_NoTurned : K.lookup fI_NoTurned = some ⟨xoc_NoTurned, xod_NoTurned, .func (PySem.W.fnOf "__init__" "NoTurned.__init__" (defArgs si_NoTurned) (defBody si_NoTurned) (defScope si_NoTurned) .none xkV_NoTurned xdc_NoTurned xpm_NoTurned xan_NoTurned xcd_NoTurned xct_NoTurned), xsl_NoTurned⟩)
    (xc_NoTurned : PySem.W.codeIn K xcd_NoTurned "NoTurned.__init__" = true)
    (xK_NoTurned : PySem.W.keepIn K (.ref fI_NoTurned) = true)
    (xL_TooMany : K.lookup C_TooMany = some (excClassObj nm_TooMany q_TooMany C_TooMany N_TooMany bs_TooMany [.type "OverflowError", .type "ArithmeticError", .type "Exception", .type "BaseException", .type "object"] true sn_TooMany sub_TooMany ab_TooMany col_TooMany dd_TooMany k0_TooMany k1_TooMany k2_TooMany k3_TooMany k5_TooMany "OverflowError.__new__"))
    (xsa_TooMany : PySem.W.findIn K (.ref C_TooMany) "__setattr__" = some (some (.builtin "object.__setattr__")))
    (xk_TooMany : PySem.W.keepIn K (.ref C_TooMany) = true)
    (xn_TooMany : PySem.W.findIn K (.ref C_TooMany) "most" = some none)
    (xI_TooMany : PySem.W.findIn K (.ref C_TooMany) "__init__" = some (some (.ref fI_TooMany)))
    (xT_TooMany : PySem.W.typeIn K (.ref fI_TooMany) = some (.type "function"))
    (xl_TooMany : K.lookup fI_TooMany = some ⟨xoc_TooMany, xod_TooMany, .func (PySem.W.fnOf "__init__" "TooMany.__init__" (defArgs si_TooMany) (defBody si_TooMany) (defScope si_TooMany) .none xkV_TooMany xdc_TooMany xpm_TooMany xan_TooMany xcd_TooMany xct_TooMany), xsl_TooMany⟩)
    (xc_TooMany : PySem.W.codeIn K xcd_TooMany "TooMany.__init__" = true)
    (xK_TooMany : PySem.W.keepIn K (.ref fI_TooMany) = true)
    (yg_NoCoin : PySem.W.findIn K (.ref C_NoCoin) "__getattribute__" = some (some (.builtin "BaseException.__getattribute__")))
    (yh_NoCoin : PySem.W.findIn K (.ref C_NoCoin) "__getattr__" = some none)
    (yd_NoCoin : PySem.W.hasDictIn K C_NoCoin = true)
    (yc_NoCoin : PySem.W.findIn K (.ref C_NoCoin) "__class__" = some (some (.builtin "object.__class__")))
    (ym_NoCoin : PySem.W.mroIn K C_NoCoin (.type "object") = some true)
    (yg_NoCurve : PySem.W.findIn K (.ref C_NoCurve) "__getattribute__" = some (some (.builtin "BaseException.__getattribute__")))
    (yh_NoCurve : PySem.W.findIn K (.ref C_NoCurve) "__getattr__" = some none)
    (yd_NoCurve : PySem.W.hasDictIn K C_NoCurve = true)
    (yc_NoCurve : PySem.W.findIn K (.ref C_NoCurve) "__class__" = some (some (.builtin "object.__class__")))
    (ym_NoCurve : PySem.W.mroIn K C_NoCurve (.type "object") = some true)
    (yg_NoGiven : PySem.W.findIn K (.ref C_NoGiven) "__getattribute__" = some (some (.builtin "BaseException.__getattribute__")))
    (yh_NoGiven : PySem.W.findIn K (.ref C_NoGiven) "__getattr__" = some none)
    (yd_NoGiven : PySem.W.hasDictIn K C_NoGiven = true)
    (yc_NoGiven : PySem.W.findIn K (.ref C_NoGiven) "__class__" = some (some (.builtin "object.__class__")))
    (ym_NoGiven : PySem.W.mroIn K C_NoGiven (.type "object") = some true)
    (yg_NoLetter : PySem.W.findIn K (.ref C_NoLetter) "__getattribute__" = some (some (.builtin "BaseException.__getattribute__")))
    (yh_NoLetter : PySem.W.findIn K (.ref C_NoLetter) "__getattr__" = some none)
    (yd_NoLetter : PySem.W.hasDictIn K C_NoLetter = true)
    (yc_NoLetter : PySem.W.findIn K (.ref C_NoLetter) "__class__" = some (some (.builtin "object.__class__")))
    (ym_NoLetter : PySem.W.mroIn K C_NoLetter (.type "object") = some true)
    (yg_NoMark : PySem.W.findIn K (.ref C_NoMark) "__getattribute__" = some (some (.builtin "BaseException.__getattribute__")))
    (yh_NoMark : PySem.W.findIn K (.ref C_NoMark) "__getattr__" = some none)
    (yd_NoMark : PySem.W.hasDictIn K C_NoMark = true)
    (yc_NoMark : PySem.W.findIn K (.ref C_NoMark) "__class__" = some (some (.builtin "object.__class__")))
    (ym_NoMark : PySem.W.mroIn K C_NoMark (.type "object") = some true)
    (yg_NoNumber : PySem.W.findIn K (.ref C_NoNumber) "__getattribute__" = some (some (.builtin "BaseException.__getattribute__")))
    (yh_NoNumber : PySem.W.findIn K (.ref C_NoNumber) "__getattr__" = some none)
    (yd_NoNumber : PySem.W.hasDictIn K C_NoNumber = true)
    (yc_NoNumber : PySem.W.findIn K (.ref C_NoNumber) "__class__" = some (some (.builtin "object.__class__")))
    (ym_NoNumber : PySem.W.mroIn K C_NoNumber (.type "object") = some true)
    (yg_NoRow : PySem.W.findIn K (.ref C_NoRow) "__getattribute__" = some (some (.builtin "BaseException.__getattribute__")))
    (yh_NoRow : PySem.W.findIn K (.ref C_NoRow) "__getattr__" = some none)
    (yd_NoRow : PySem.W.hasDictIn K C_NoRow = true)
    (yc_NoRow : PySem.W.findIn K (.ref C_NoRow) "__class__" = some (some (.builtin "object.__class__")))
    (ym_NoRow : PySem.W.mroIn K C_NoRow (.type "object") = some true)
    (yg_NoText : PySem.W.findIn K (.ref C_NoText) "__getattribute__" = some (some (.builtin "BaseException.__getattribute__")))
    (yh_NoText : PySem.W.findIn K (.ref C_NoText) "__getattr__" = some none)
    (yd_NoText : PySem.W.hasDictIn K C_NoText = true)
    (yc_NoText : PySem.W.findIn K (.ref C_NoText) "__class__" = some (some (.builtin "object.__class__")))
    (ym_NoText : PySem.W.mroIn K C_NoText (.type "object") = some true)
    (yg_NoTurn : PySem.W.findIn K (.ref C_NoTurn) "__getattribute__" = some (some (.builtin "BaseException.__getattribute__")))
    (yh_NoTurn : PySem.W.findIn K (.ref C_NoTurn) "__getattr__" = some none)
    (yd_NoTurn : PySem.W.hasDictIn K C_NoTurn = true)
    (yc_NoTurn : PySem.W.findIn K (.ref C_NoTurn) "__class__" = some (some (.builtin "object.__class__")))
    (ym_NoTurn : PySem.W.mroIn K C_NoTurn (.type "object") = some true)
    (yg_NoTurned : PySem.W.findIn K (.ref C_NoTurned) "__getattribute__" = some (some (.builtin "BaseException.__getattribute__")))
    (yh_NoTurned : PySem.W.findIn K (.ref C_NoTurned) "__getattr__" = some none)
    (yd_NoTurned : PySem.W.hasDictIn K C_NoTurned = true)
    (yc_NoTurned : PySem.W.findIn K (.ref C_NoTurned) "__class__" = some (some (.builtin "object.__class__")))
    (ym_NoTurned : PySem.W.mroIn K C_NoTurned (.type "object") = some true)
    (yg_TooMany : PySem.W.findIn K (.ref C_TooMany) "__getattribute__" = some (some (.builtin "BaseException.__getattribute__")))
    (yh_TooMany : PySem.W.findIn K (.ref C_TooMany) "__getattr__" = some none)
    (yd_TooMany : PySem.W.hasDictIn K C_TooMany = true)
    (yc_TooMany : PySem.W.findIn K (.ref C_TooMany) "__class__" = some (some (.builtin "object.__class__")))
    (ym_TooMany : PySem.W.mroIn K C_TooMany (.type "object") = some true)
    (yn : PySem.W.specialIn K (.builtin "object.__class__") "__get__" = some (some (.builtin "getset_descriptor.__get__")))
    (yt : PySem.W.takesIn K (.builtin "object.__class__") = some true)
    (xx_NoCoin_NoCurve : PySem.W.subIn K (.ref C_NoCoin) (.ref C_NoCurve) = some false)
    (xx_NoCoin_NoGiven : PySem.W.subIn K (.ref C_NoCoin) (.ref C_NoGiven) = some false)
    (xx_NoCoin_NoLetter : PySem.W.subIn K (.ref C_NoCoin) (.ref C_NoLetter) = some false)
    (xx_NoCoin_NoMark : PySem.W.subIn K (.ref C_NoCoin) (.ref C_NoMark) = some false)
    (xx_NoCoin_NoNumber : PySem.W.subIn K (.ref C_NoCoin) (.ref C_NoNumber) = some false)
    (xx_NoCoin_NoRow : PySem.W.subIn K (.ref C_NoCoin) (.ref C_NoRow) = some false)
    (xx_NoCoin_NoText : PySem.W.subIn K (.ref C_NoCoin) (.ref C_NoText) = some false)
    (xx_NoCoin_NoTurn : PySem.W.subIn K (.ref C_NoCoin) (.ref C_NoTurn) = some false)
    (xx_NoCoin_NoTurned : PySem.W.subIn K (.ref C_NoCoin) (.ref C_NoTurned) = some false)
    (xx_NoCoin_TooMany : PySem.W.subIn K (.ref C_NoCoin) (.ref C_TooMany) = some false)
    (xb_NoCoin_IndexError : PySem.W.subIn K (.ref C_NoCoin) (.type "IndexError") = some true)
    (xb_NoCoin_KeyError : PySem.W.subIn K (.ref C_NoCoin) (.type "KeyError") = some false)
    (xb_NoCoin_LookupError : PySem.W.subIn K (.ref C_NoCoin) (.type "LookupError") = some true)
    (xb_NoCoin_NotImplementedError : PySem.W.subIn K (.ref C_NoCoin) (.type "NotImplementedError") = some false)
    (xb_NoCoin_OverflowError : PySem.W.subIn K (.ref C_NoCoin) (.type "OverflowError") = some false)
    (xb_NoCoin_RuntimeError : PySem.W.subIn K (.ref C_NoCoin) (.type "RuntimeError") = some false)
    (xb_NoCoin_ValueError : PySem.W.subIn K (.ref C_NoCoin) (.type "ValueError") = some false)
    (xb_NoCoin_ZeroDivisionError : PySem.W.subIn K (.ref C_NoCoin) (.type "ZeroDivisionError") = some false)
    (xx_NoCurve_NoCoin : PySem.W.subIn K (.ref C_NoCurve) (.ref C_NoCoin) = some false)
    (xx_NoCurve_NoGiven : PySem.W.subIn K (.ref C_NoCurve) (.ref C_NoGiven) = some false)
    (xx_NoCurve_NoLetter : PySem.W.subIn K (.ref C_NoCurve) (.ref C_NoLetter) = some false)
    (xx_NoCurve_NoMark : PySem.W.subIn K (.ref C_NoCurve) (.ref C_NoMark) = some false)
    (xx_NoCurve_NoNumber : PySem.W.subIn K (.ref C_NoCurve) (.ref C_NoNumber) = some false)
    (xx_NoCurve_NoRow : PySem.W.subIn K (.ref C_NoCurve) (.ref C_NoRow) = some false)
    (xx_NoCurve_NoText : PySem.W.subIn K (.ref C_NoCurve) (.ref C_NoText) = some false)
    (xx_NoCurve_NoTurn : PySem.W.subIn K (.ref C_NoCurve) (.ref C_NoTurn) = some false)
    (xx_NoCurve_NoTurned : PySem.W.subIn K (.ref C_NoCurve) (.ref C_NoTurned) = some false)
    (xx_NoCurve_TooMany : PySem.W.subIn K (.ref C_NoCurve) (.ref C_TooMany) = some false)
    (xb_NoCurve_IndexError : PySem.W.subIn K (.ref C_NoCurve) (.type "IndexError") = some false)
    (xb_NoCurve_KeyError : PySem.W.subIn K (.ref C_NoCurve) (.type "KeyError") = some false)
    (xb_NoCurve_LookupError : PySem.W.subIn K (.ref C_NoCurve) (.type "LookupError") = some false)
    (xb_NoCurve_NotImplementedError : PySem.W.subIn K (.ref C_NoCurve) (.type "NotImplementedError") = some false)
    (xb_NoCurve_OverflowError : PySem.W.subIn K (.ref C_NoCurve) (.type "OverflowError") = some false)
    (xb_NoCurve_RuntimeError : PySem.W.subIn K (.ref C_NoCurve) (.type "RuntimeError") = some false)
    (xb_NoCurve_ValueError : PySem.W.subIn K (.ref C_NoCurve) (.type "ValueError") = some true)
    (xb_NoCurve_ZeroDivisionError : PySem.W.subIn K (.ref C_NoCurve) (.type "ZeroDivisionError") = some false)
    (xx_NoGiven_NoCoin : PySem.W.subIn K (.ref C_NoGiven) (.ref C_NoCoin) = some false)
    (xx_NoGiven_NoCurve : PySem.W.subIn K (.ref C_NoGiven) (.ref C_NoCurve) = some false)
    (xx_NoGiven_NoLetter : PySem.W.subIn K (.ref C_NoGiven) (.ref C_NoLetter) = some false)
    (xx_NoGiven_NoMark : PySem.W.subIn K (.ref C_NoGiven) (.ref C_NoMark) = some false)
    (xx_NoGiven_NoNumber : PySem.W.subIn K (.ref C_NoGiven) (.ref C_NoNumber) = some false)
    (xx_NoGiven_NoRow : PySem.W.subIn K (.ref C_NoGiven) (.ref C_NoRow) = some false)
    (xx_NoGiven_NoText : PySem.W.subIn K (.ref C_NoGiven) (.ref C_NoText) = some false)
    (xx_NoGiven_NoTurn : PySem.W.subIn K (.ref C_NoGiven) (.ref C_NoTurn) = some false)
    (xx_NoGiven_NoTurned : PySem.W.subIn K (.ref C_NoGiven) (.ref C_NoTurned) = some false)
    (xx_NoGiven_TooMany : PySem.W.subIn K (.ref C_NoGiven) (.ref C_TooMany) = some false)
    (xb_NoGiven_IndexError : PySem.W.subIn K (.ref C_NoGiven) (.type "IndexError") = some false)
    (xb_NoGiven_KeyError : PySem.W.subIn K (.ref C_NoGiven) (.type "KeyError") = some true)
    (xb_NoGiven_LookupError : PySem.W.subIn K (.ref C_NoGiven) (.type "LookupError") = some true)
    (xb_NoGiven_NotImplementedError : PySem.W.subIn K (.ref C_NoGiven) (.type "NotImplementedError") = some false)
    (xb_NoGiven_OverflowError : PySem.W.subIn K (.ref C_NoGiven) (.type "OverflowError") = some false)
    (xb_NoGiven_RuntimeError : PySem.W.subIn K (.ref C_NoGiven) (.type "RuntimeError") = some false)
    (xb_NoGiven_ValueError : PySem.W.subIn K (.ref C_NoGiven) (.type "ValueError") = some false)
    (xb_NoGiven_ZeroDivisionError : PySem.W.subIn K (.ref C_NoGiven) (.type "ZeroDivisionError") = some false)
    (xx_NoLetter_NoCoin : PySem.W.subIn K (.ref C_NoLetter) (.ref C_NoCoin) = some false)
    (xx_NoLetter_NoCurve : PySem.W.subIn K (.ref C_NoLetter) (.ref C_NoCurve) = some false)
    (xx_NoLetter_NoGiven : PySem.W.subIn K (.ref C_NoLetter) (.ref C_NoGiven) = some false)
    (xx_NoLetter_NoMark : PySem.W.subIn K (.ref C_NoLetter) (.ref C_NoMark) = some false)
    (xx_NoLetter_NoNumber : PySem.W.subIn K (.ref C_NoLetter) (.ref C_NoNumber) = some false)
    (xx_NoLetter_NoRow : PySem.W.subIn K (.ref C_NoLetter) (.ref C_NoRow) = some false)
    (xx_NoLetter_NoText : PySem.W.subIn K (.ref C_NoLetter) (.ref C_NoText) = some false)
    (xx_NoLetter_NoTurn : PySem.W.subIn K (.ref C_NoLetter) (.ref C_NoTurn) = some false)
    (xx_NoLetter_NoTurned : PySem.W.subIn K (.ref C_NoLetter) (.ref C_NoTurned) = some false)
    (xx_NoLetter_TooMany : PySem.W.subIn K (.ref C_NoLetter) (.ref C_TooMany) = some false)
    (xb_NoLetter_IndexError : PySem.W.subIn K (.ref C_NoLetter) (.type "IndexError") = some false)
    (xb_NoLetter_KeyError : PySem.W.subIn K (.ref C_NoLetter) (.type "KeyError") = some false)
    (xb_NoLetter_LookupError : PySem.W.subIn K (.ref C_NoLetter) (.type "LookupError") = some true)
    (xb_NoLetter_NotImplementedError : PySem.W.subIn K (.ref C_NoLetter) (.type "NotImplementedError") = some false)
    (xb_NoLetter_OverflowError : PySem.W.subIn K (.ref C_NoLetter) (.type "OverflowError") = some false)
    (xb_NoLetter_RuntimeError : PySem.W.subIn K (.ref C_NoLetter) (.type "RuntimeError") = some false)
    (xb_NoLetter_ValueError : PySem.W.subIn K (.ref C_NoLetter) (.type "ValueError") = some false)
    (xb_NoLetter_ZeroDivisionError : PySem.W.subIn K (.ref C_NoLetter) (.type "ZeroDivisionError") = some false)
    (xx_NoMark_NoCoin : PySem.W.subIn K (.ref C_NoMark) (.ref C_NoCoin) = some false)
    (xx_NoMark_NoCurve : PySem.W.subIn K (.ref C_NoMark) (.ref C_NoCurve) = some false)
    (xx_NoMark_NoGiven : PySem.W.subIn K (.ref C_NoMark) (.ref C_NoGiven) = some false)
    (xx_NoMark_NoLetter : PySem.W.subIn K (.ref C_NoMark) (.ref C_NoLetter) = some false)
    (xx_NoMark_NoNumber : PySem.W.subIn K (.ref C_NoMark) (.ref C_NoNumber) = some false)
    (xx_NoMark_NoRow : PySem.W.subIn K (.ref C_NoMark) (.ref C_NoRow) = some false)
    (xx_NoMark_NoText : PySem.W.subIn K (.ref C_NoMark) (.ref C_NoText) = some false)
    (xx_NoMark_NoTurn : PySem.W.subIn K (.ref C_NoMark) (.ref C_NoTurn) = some false)
    (xx_NoMark_NoTurned : PySem.W.subIn K (.ref C_NoMark) (.ref C_NoTurned) = some false)
    (xx_NoMark_TooMany : PySem.W.subIn K (.ref C_NoMark) (.ref C_TooMany) = some false)
    (xb_NoMark_IndexError : PySem.W.subIn K (.ref C_NoMark) (.type "IndexError") = some false)
    (xb_NoMark_KeyError : PySem.W.subIn K (.ref C_NoMark) (.type "KeyError") = some false)
    (xb_NoMark_LookupError : PySem.W.subIn K (.ref C_NoMark) (.type "LookupError") = some true)
    (xb_NoMark_NotImplementedError : PySem.W.subIn K (.ref C_NoMark) (.type "NotImplementedError") = some false)
    (xb_NoMark_OverflowError : PySem.W.subIn K (.ref C_NoMark) (.type "OverflowError") = some false)
    (xb_NoMark_RuntimeError : PySem.W.subIn K (.ref C_NoMark) (.type "RuntimeError") = some false)
    (xb_NoMark_ValueError : PySem.W.subIn K (.ref C_NoMark) (.type "ValueError") = some false)
    (xb_NoMark_ZeroDivisionError : PySem.W.subIn K (.ref C_NoMark) (.type "ZeroDivisionError") = some false)
    (xx_NoNumber_NoCoin : PySem.W.subIn K (.ref C_NoNumber) (.ref C_NoCoin) = some false)
    (xx_NoNumber_NoCurve : PySem.W.subIn K (.ref C_NoNumber) (.ref C_NoCurve) = some false)
    (xx_NoNumber_NoGiven : PySem.W.subIn K (.ref C_NoNumber) (.ref C_NoGiven) = some false)
    (xx_NoNumber_NoLetter : PySem.W.subIn K (.ref C_NoNumber) (.ref C_NoLetter) = some false)
    (xx_NoNumber_NoMark : PySem.W.subIn K (.ref C_NoNumber) (.ref C_NoMark) = some false)
    (xx_NoNumber_NoRow : PySem.W.subIn K (.ref C_NoNumber) (.ref C_NoRow) = some false)
    (xx_NoNumber_NoText : PySem.W.subIn K (.ref C_NoNumber) (.ref C_NoText) = some false)
    (xx_NoNumber_NoTurn : PySem.W.subIn K (.ref C_NoNumber) (.ref C_NoTurn) = some false)
    (xx_NoNumber_NoTurned : PySem.W.subIn K (.ref C_NoNumber) (.ref C_NoTurned) = some false)
    (xx_NoNumber_TooMany : PySem.W.subIn K (.ref C_NoNumber) (.ref C_TooMany) = some false)
    (xb_NoNumber_IndexError : PySem.W.subIn K (.ref C_NoNumber) (.type "IndexError") = some false)
    (xb_NoNumber_KeyError : PySem.W.subIn K (.ref C_NoNumber) (.type "KeyError") = some false)
    (xb_NoNumber_LookupError : PySem.W.subIn K (.ref C_NoNumber) (.type "LookupError") = some false)
    (xb_NoNumber_NotImplementedError : PySem.W.subIn K (.ref C_NoNumber) (.type "NotImplementedError") = some false)
    (xb_NoNumber_OverflowError : PySem.W.subIn K (.ref C_NoNumber) (.type "OverflowError") = some false)
    (xb_NoNumber_RuntimeError : PySem.W.subIn K (.ref C_NoNumber) (.type "RuntimeError") = some false)
    (xb_NoNumber_ValueError : PySem.W.subIn K (.ref C_NoNumber) (.type "ValueError") = some true)
    (xb_NoNumber_ZeroDivisionError : PySem.W.subIn K (.ref C_NoNumber) (.type "ZeroDivisionError") = some false)
    (xx_NoRow_NoCoin : PySem.W.subIn K (.ref C_NoRow) (.ref C_NoCoin) = some false)
    (xx_NoRow_NoCurve : PySem.W.subIn K (.ref C_NoRow) (.ref C_NoCurve) = some false)
    (xx_NoRow_NoGiven : PySem.W.subIn K (.ref C_NoRow) (.ref C_NoGiven) = some false)
    (xx_NoRow_NoLetter : PySem.W.subIn K (.ref C_NoRow) (.ref C_NoLetter) = some false)
    (xx_NoRow_NoMark : PySem.W.subIn K (.ref C_NoRow) (.ref C_NoMark) = some false)
    (xx_NoRow_NoNumber : PySem.W.subIn K (.ref C_NoRow) (.ref C_NoNumber) = some false)
    (xx_NoRow_NoText : PySem.W.subIn K (.ref C_NoRow) (.ref C_NoText) = some false)
    (xx_NoRow_NoTurn : PySem.W.subIn K (.ref C_NoRow) (.ref C_NoTurn) = some false)
    (xx_NoRow_NoTurned : PySem.W.subIn K (.ref C_NoRow) (.ref C_NoTurned) = some false)
    (xx_NoRow_TooMany : PySem.W.subIn K (.ref C_NoRow) (.ref C_TooMany) = some false)
    (xb_NoRow_IndexError : PySem.W.subIn K (.ref C_NoRow) (.type "IndexError") = some false)
    (xb_NoRow_KeyError : PySem.W.subIn K (.ref C_NoRow) (.type "KeyError") = some false)
    (xb_NoRow_LookupError : PySem.W.subIn K (.ref C_NoRow) (.type "LookupError") = some true)
    (xb_NoRow_NotImplementedError : PySem.W.subIn K (.ref C_NoRow) (.type "NotImplementedError") = some false)
    (xb_NoRow_OverflowError : PySem.W.subIn K (.ref C_NoRow) (.type "OverflowError") = some false)
    (xb_NoRow_RuntimeError : PySem.W.subIn K (.ref C_NoRow) (.type "RuntimeError") = some false)
    (xb_NoRow_ValueError : PySem.W.subIn K (.ref C_NoRow) (.type "ValueError") = some false)
    (xb_NoRow_ZeroDivisionError : PySem.W.subIn K (.ref C_NoRow) (.type "ZeroDivisionError") = some false)
    (xx_NoText_NoCoin : PySem.W.subIn K (.ref C_NoText) (.ref C_NoCoin) = some false)
    (xx_NoText_NoCurve : PySem.W.subIn K (.ref C_NoText) (.ref C_NoCurve) = some false)
    (xx_NoText_NoGiven : PySem.W.subIn K (.ref C_NoText) (.ref C_NoGiven) = some false)
    (xx_NoText_NoLetter : PySem.W.subIn K (.ref C_NoText) (.ref C_NoLetter) = some false)
    (xx_NoText_NoMark : PySem.W.subIn K (.ref C_NoText) (.ref C_NoMark) = some false)
    (xx_NoText_NoNumber : PySem.W.subIn K (.ref C_NoText) (.ref C_NoNumber) = some false)
    (xx_NoText_NoRow : PySem.W.subIn K (.ref C_NoText) (.ref C_NoRow) = some false)
    (xx_NoText_NoTurn : PySem.W.subIn K (.ref C_NoText) (.ref C_NoTurn) = some false)
    (xx_NoText_NoTurned : PySem.W.subIn K (.ref C_NoText) (.ref C_NoTurned) = some false)
    (xx_NoText_TooMany : PySem.W.subIn K (.ref C_NoText) (.ref C_TooMany) = some false)
    (xb_NoText_IndexError : PySem.W.subIn K (.ref C_NoText) (.type "IndexError") = some false)
    (xb_NoText_KeyError : PySem.W.subIn K (.ref C_NoText) (.type "KeyError") = some false)
    (xb_NoText_LookupError : PySem.W.subIn K (.ref C_NoText) (.type "LookupError") = some false)
    (xb_NoText_NotImplementedError : PySem.W.subIn K (.ref C_NoText) (.type "NotImplementedError") = some false)
    (xb_NoText_OverflowError : PySem.W.subIn K (.ref C_NoText) (.type "OverflowError") = some false)
    (xb_NoText_RuntimeError : PySem.W.subIn K (.ref C_NoText) (.type "RuntimeError") = some false)
    (xb_NoText_ValueError : PySem.W.subIn K (.ref C_NoText) (.type "ValueError") = some true)
    (xb_NoText_ZeroDivisionError : PySem.W.subIn K (.ref C_NoText) (.type "ZeroDivisionError") = some false)
    (xx_NoTurn_NoCoin : PySem.W.subIn K (.ref C_NoTurn) (.ref C_NoCoin) = some false)
    (xx_NoTurn_NoCurve : PySem.W.subIn K (.ref C_NoTurn) (.ref C_NoCurve) = some false)
    (xx_NoTurn_NoGiven : PySem.W.subIn K (.ref C_NoTurn) (.ref C_NoGiven) = some false)
    (xx_NoTurn_NoLetter : PySem.W.subIn K (.ref C_NoTurn) (.ref C_NoLetter) = some false)
    (xx_NoTurn_NoMark : PySem.W.subIn K (.ref C_NoTurn) (.ref C_NoMark) = some false)
    (xx_NoTurn_NoNumber : PySem.W.subIn K (.ref C_NoTurn) (.ref C_NoNumber) = some false)
    (xx_NoTurn_NoRow : PySem.W.subIn K (.ref C_NoTurn) (.ref C_NoRow) = some false)
    (xx_NoTurn_NoText : PySem.W.subIn K (.ref C_NoTurn) (.ref C_NoText) = some false)
    (xx_NoTurn_NoTurned : PySem.W.subIn K (.ref C_NoTurn) (.ref C_NoTurned) = some false)
    (xx_NoTurn_TooMany : PySem.W.subIn K (.ref C_NoTurn) (.ref C_TooMany) = some false)
    (xb_NoTurn_IndexError : PySem.W.subIn K (.ref C_NoTurn) (.type "IndexError") = some false)
    (xb_NoTurn_KeyError : PySem.W.subIn K (.ref C_NoTurn) (.type "KeyError") = some false)
    (xb_NoTurn_LookupError : PySem.W.subIn K (.ref C_NoTurn) (.type "LookupError") = some false)
    (xb_NoTurn_NotImplementedError : PySem.W.subIn K (.ref C_NoTurn) (.type "NotImplementedError") = some false)
    (xb_NoTurn_OverflowError : PySem.W.subIn K (.ref C_NoTurn) (.type "OverflowError") = some false)
    (xb_NoTurn_RuntimeError : PySem.W.subIn K (.ref C_NoTurn) (.type "RuntimeError") = some true)
    (xb_NoTurn_ValueError : PySem.W.subIn K (.ref C_NoTurn) (.type "ValueError") = some false)
    (xb_NoTurn_ZeroDivisionError : PySem.W.subIn K (.ref C_NoTurn) (.type "ZeroDivisionError") = some false)
    (xx_NoTurned_NoCoin : PySem.W.subIn K (.ref C_NoTurned) (.ref C_NoCoin) = some false)
    (xx_NoTurned_NoCurve : PySem.W.subIn K (.ref C_NoTurned) (.ref C_NoCurve) = some false)
    (xx_NoTurned_NoGiven : PySem.W.subIn K (.ref C_NoTurned) (.ref C_NoGiven) = some false)
    (xx_NoTurned_NoLetter : PySem.W.subIn K (.ref C_NoTurned) (.ref C_NoLetter) = some false)
    (xx_NoTurned_NoMark : PySem.W.subIn K (.ref C_NoTurned) (.ref C_NoMark) = some false)
    (xx_NoTurned_NoNumber : PySem.W.subIn K (.ref C_NoTurned) (.ref C_NoNumber) = some false)
    (xx_NoTurned_NoRow : PySem.W.subIn K (.ref C_NoTurned) (.ref C_NoRow) = some false)
    (xx_NoTurned_NoText : PySem.W.subIn K (.ref C_NoTurned) (.ref C_NoText) = some false)
    (xx_NoTurned_NoTurn : PySem.W.subIn K (.ref C_NoTurned) (.ref C_NoTurn) = some false)
    (xx_NoTurned_TooMany : PySem.W.subIn K (.ref C_NoTurned) (.ref C_TooMany) = some false)
    (xb_NoTurned_IndexError : PySem.W.subIn K (.ref C_NoTurned) (.type "IndexError") = some false)
    (xb_NoTurned_KeyError : PySem.W.subIn K (.ref C_NoTurned) (.type "KeyError") = some false)
    (xb_NoTurned_LookupError : PySem.W.subIn K (.ref C_NoTurned) (.type "LookupError") = some false)
    (xb_NoTurned_NotImplementedError : PySem.W.subIn K (.ref C_NoTurned) (.type "NotImplementedError") = some false)
    (xb_NoTurned_OverflowError : PySem.W.subIn K (.ref C_NoTurned) (.type "OverflowError") = some false)
    (xb_NoTurned_RuntimeError : PySem.W.subIn K (.ref C_NoTurned) (.type "RuntimeError") = some false)
    (xb_NoTurned_ValueError : PySem.W.subIn K (.ref C_NoTurned) (.type "ValueError") = some false)
    (xb_NoTurned_ZeroDivisionError : PySem.W.subIn K (.ref C_NoTurned) (.type "ZeroDivisionError") = some true)
    (xx_TooMany_NoCoin : PySem.W.subIn K (.ref C_TooMany) (.ref C_NoCoin) = some false)
    (xx_TooMany_NoCurve : PySem.W.subIn K (.ref C_TooMany) (.ref C_NoCurve) = some false)
    (xx_TooMany_NoGiven : PySem.W.subIn K (.ref C_TooMany) (.ref C_NoGiven) = some false)
    (xx_TooMany_NoLetter : PySem.W.subIn K (.ref C_TooMany) (.ref C_NoLetter) = some false)
    (xx_TooMany_NoMark : PySem.W.subIn K (.ref C_TooMany) (.ref C_NoMark) = some false)
    (xx_TooMany_NoNumber : PySem.W.subIn K (.ref C_TooMany) (.ref C_NoNumber) = some false)
    (xx_TooMany_NoRow : PySem.W.subIn K (.ref C_TooMany) (.ref C_NoRow) = some false)
    (xx_TooMany_NoText : PySem.W.subIn K (.ref C_TooMany) (.ref C_NoText) = some false)
    (xx_TooMany_NoTurn : PySem.W.subIn K (.ref C_TooMany) (.ref C_NoTurn) = some false)
    (xx_TooMany_NoTurned : PySem.W.subIn K (.ref C_TooMany) (.ref C_NoTurned) = some false)
    (xb_TooMany_IndexError : PySem.W.subIn K (.ref C_TooMany) (.type "IndexError") = some false)
    (xb_TooMany_KeyError : PySem.W.subIn K (.ref C_TooMany) (.type "KeyError") = some false)
    (xb_TooMany_LookupError : PySem.W.subIn K (.ref C_TooMany) (.type "LookupError") = some false)
    (xb_TooMany_NotImplementedError : PySem.W.subIn K (.ref C_TooMany) (.type "NotImplementedError") = some false)
    (xb_TooMany_OverflowError : PySem.W.subIn K (.ref C_TooMany) (.type "OverflowError") = some true)
    (xb_TooMany_RuntimeError : PySem.W.subIn K (.ref C_TooMany) (.type "RuntimeError") = some false)
    (xb_TooMany_ValueError : PySem.W.subIn K (.ref C_TooMany) (.type "ValueError") = some false)
    (xb_TooMany_ZeroDivisionError : PySem.W.subIn K (.ref C_TooMany) (.type "ZeroDivisionError") = some false)
    (xv_IndexError : PySem.W.findCls K (.type "IndexError") (.type "type") "__init__" = some (.val (.builtin "IndexError.__init__")))
    (xv_KeyError : PySem.W.findCls K (.type "KeyError") (.type "type") "__init__" = some (.val (.builtin "KeyError.__init__")))
    (xv_LookupError : PySem.W.findCls K (.type "LookupError") (.type "type") "__init__" = some (.val (.builtin "LookupError.__init__")))
    (xv_OverflowError : PySem.W.findCls K (.type "OverflowError") (.type "type") "__init__" = some (.val (.builtin "OverflowError.__init__")))
    (xv_ValueError : PySem.W.findCls K (.type "ValueError") (.type "type") "__init__" = some (.val (.builtin "ValueError.__init__")))
    (xv_ZeroDivisionError : PySem.W.findCls K (.type "ZeroDivisionError") (.type "type") "__init__" = some (.val (.builtin "ZeroDivisionError.__init__")))
    : ∃ fd : FuncData, (∀ (s : Shared) (v : Value), BindsTo s fd ⟨[v], []⟩ [("_law_script", v)]) ∧ ∀ base : Heap, K.In base → base.Ns mainGlobals mg → FnF Z0 l.prog w K mg base 4 fa fd ["_law_script"] F_law := by
  have e := hfa.symm.trans (PySem.W.mg_of X G a6)
  cases e
  have F0 := fun_mk (st := s_law_all_made) l0 c0 k0
  have F1 := fun_mk (st := s_law_fresh) l1 c1 k1
  have F2 := fun_mk (st := s_law_draw) l2 c2 k2
  have F3 := fun_mk (st := s_law_kinds) l3 c3 k3
  have F4 := fun_mk (st := s_law_pen) l4 c4 k4
  have F5 := fun_mk (st := s_law_under) l5 c5 k5
  have F6 := fun_mk (st := s_law) l6 c6 k6
  have hC_NoCoin := cA_of xa_NoCoin
  have hC_NoCurve := cA_of xa_NoCurve
  have hC_NoGiven := cA_of xa_NoGiven
  have hC_NoLetter := cA_of xa_NoLetter
  have hC_NoMark := cA_of xa_NoMark
  have hC_NoNumber := cA_of xa_NoNumber
  have hC_NoRow := cA_of xa_NoRow
  have hC_NoText := cA_of xa_NoText
  have hC_NoTurn := cA_of xa_NoTurn
  have hC_NoTurned := cA_of xa_NoTurned
  have hC_TooMany := cA_of xa_TooMany
  have Y_NoCoin : XcOk K "NoCoin" := ⟨by rw [hC_NoCoin]; exact yg_NoCoin, by rw [hC_NoCoin]; exact yh_NoCoin, by rw [hC_NoCoin]; exact xe_NoCoin, by rw [hC_NoCoin]; exact yd_NoCoin, by rw [hC_NoCoin]; exact yc_NoCoin, by rw [hC_NoCoin]; exact ym_NoCoin, by rw [hC_NoCoin]; exact xi_NoCoin, by rw [hC_NoCoin]; exact xt_NoCoin, yn, yt⟩
  have Y_NoCurve : XcOk K "NoCurve" := ⟨by rw [hC_NoCurve]; exact yg_NoCurve, by rw [hC_NoCurve]; exact yh_NoCurve, by rw [hC_NoCurve]; exact xe_NoCurve, by rw [hC_NoCurve]; exact yd_NoCurve, by rw [hC_NoCurve]; exact yc_NoCurve, by rw [hC_NoCurve]; exact ym_NoCurve, by rw [hC_NoCurve]; exact xi_NoCurve, by rw [hC_NoCurve]; exact xt_NoCurve, yn, yt⟩
  have Y_NoGiven : XcOk K "NoGiven" := ⟨by rw [hC_NoGiven]; exact yg_NoGiven, by rw [hC_NoGiven]; exact yh_NoGiven, by rw [hC_NoGiven]; exact xe_NoGiven, by rw [hC_NoGiven]; exact yd_NoGiven, by rw [hC_NoGiven]; exact yc_NoGiven, by rw [hC_NoGiven]; exact ym_NoGiven, by rw [hC_NoGiven]; exact xi_NoGiven, by rw [hC_NoGiven]; exact xt_NoGiven, yn, yt⟩
  have Y_NoLetter : XcOk K "NoLetter" := ⟨by rw [hC_NoLetter]; exact yg_NoLetter, by rw [hC_NoLetter]; exact yh_NoLetter, by rw [hC_NoLetter]; exact xe_NoLetter, by rw [hC_NoLetter]; exact yd_NoLetter, by rw [hC_NoLetter]; exact yc_NoLetter, by rw [hC_NoLetter]; exact ym_NoLetter, by rw [hC_NoLetter]; exact xi_NoLetter, by rw [hC_NoLetter]; exact xt_NoLetter, yn, yt⟩
  have Y_NoMark : XcOk K "NoMark" := ⟨by rw [hC_NoMark]; exact yg_NoMark, by rw [hC_NoMark]; exact yh_NoMark, by rw [hC_NoMark]; exact xe_NoMark, by rw [hC_NoMark]; exact yd_NoMark, by rw [hC_NoMark]; exact yc_NoMark, by rw [hC_NoMark]; exact ym_NoMark, by rw [hC_NoMark]; exact xi_NoMark, by rw [hC_NoMark]; exact xt_NoMark, yn, yt⟩
  have Y_NoNumber : XcOk K "NoNumber" := ⟨by rw [hC_NoNumber]; exact yg_NoNumber, by rw [hC_NoNumber]; exact yh_NoNumber, by rw [hC_NoNumber]; exact xe_NoNumber, by rw [hC_NoNumber]; exact yd_NoNumber, by rw [hC_NoNumber]; exact yc_NoNumber, by rw [hC_NoNumber]; exact ym_NoNumber, by rw [hC_NoNumber]; exact xi_NoNumber, by rw [hC_NoNumber]; exact xt_NoNumber, yn, yt⟩
  have Y_NoRow : XcOk K "NoRow" := ⟨by rw [hC_NoRow]; exact yg_NoRow, by rw [hC_NoRow]; exact yh_NoRow, by rw [hC_NoRow]; exact xe_NoRow, by rw [hC_NoRow]; exact yd_NoRow, by rw [hC_NoRow]; exact yc_NoRow, by rw [hC_NoRow]; exact ym_NoRow, by rw [hC_NoRow]; exact xi_NoRow, by rw [hC_NoRow]; exact xt_NoRow, yn, yt⟩
  have Y_NoText : XcOk K "NoText" := ⟨by rw [hC_NoText]; exact yg_NoText, by rw [hC_NoText]; exact yh_NoText, by rw [hC_NoText]; exact xe_NoText, by rw [hC_NoText]; exact yd_NoText, by rw [hC_NoText]; exact yc_NoText, by rw [hC_NoText]; exact ym_NoText, by rw [hC_NoText]; exact xi_NoText, by rw [hC_NoText]; exact xt_NoText, yn, yt⟩
  have Y_NoTurn : XcOk K "NoTurn" := ⟨by rw [hC_NoTurn]; exact yg_NoTurn, by rw [hC_NoTurn]; exact yh_NoTurn, by rw [hC_NoTurn]; exact xe_NoTurn, by rw [hC_NoTurn]; exact yd_NoTurn, by rw [hC_NoTurn]; exact yc_NoTurn, by rw [hC_NoTurn]; exact ym_NoTurn, by rw [hC_NoTurn]; exact xi_NoTurn, by rw [hC_NoTurn]; exact xt_NoTurn, yn, yt⟩
  have Y_NoTurned : XcOk K "NoTurned" := ⟨by rw [hC_NoTurned]; exact yg_NoTurned, by rw [hC_NoTurned]; exact yh_NoTurned, by rw [hC_NoTurned]; exact xe_NoTurned, by rw [hC_NoTurned]; exact yd_NoTurned, by rw [hC_NoTurned]; exact yc_NoTurned, by rw [hC_NoTurned]; exact ym_NoTurned, by rw [hC_NoTurned]; exact xi_NoTurned, by rw [hC_NoTurned]; exact xt_NoTurned, yn, yt⟩
  have Y_TooMany : XcOk K "TooMany" := ⟨by rw [hC_TooMany]; exact yg_TooMany, by rw [hC_TooMany]; exact yh_TooMany, by rw [hC_TooMany]; exact xe_TooMany, by rw [hC_TooMany]; exact yd_TooMany, by rw [hC_TooMany]; exact yc_TooMany, by rw [hC_TooMany]; exact ym_TooMany, by rw [hC_TooMany]; exact xi_TooMany, by rw [hC_TooMany]; exact xt_TooMany, yn, yt⟩
  have FX_NoCoin := fun_mk (st := si_NoCoin) xl_NoCoin xc_NoCoin xK_NoCoin
  have FX_NoCurve := fun_mk (st := si_NoCurve) xl_NoCurve xc_NoCurve xK_NoCurve
  have FX_NoGiven := fun_mk (st := si_NoGiven) xl_NoGiven xc_NoGiven xK_NoGiven
  have FX_NoLetter := fun_mk (st := si_NoLetter) xl_NoLetter xc_NoLetter xK_NoLetter
  have FX_NoMark := fun_mk (st := si_NoMark) xl_NoMark xc_NoMark xK_NoMark
  have FX_NoNumber := fun_mk (st := si_NoNumber) xl_NoNumber xc_NoNumber xK_NoNumber
  have FX_NoRow := fun_mk (st := si_NoRow) xl_NoRow xc_NoRow xK_NoRow
  have FX_NoText := fun_mk (st := si_NoText) xl_NoText xc_NoText xK_NoText
  have FX_NoTurned := fun_mk (st := si_NoTurned) xl_NoTurned xc_NoTurned xK_NoTurned
  have FX_TooMany := fun_mk (st := si_TooMany) xl_TooMany xc_TooMany xK_TooMany
  have hto : ∀ e ∈ (("NoCoin", "NoCoin", true) :: ("NoCoin", "NoCurve", false) :: ("NoCoin", "NoGiven", false) :: ("NoCoin", "NoLetter", false) :: ("NoCoin", "NoMark", false) :: ("NoCoin", "NoNumber", false) :: ("NoCoin", "NoRow", false) :: ("NoCoin", "NoText", false) :: ("NoCoin", "NoTurn", false) :: ("NoCoin", "NoTurned", false) :: ("NoCoin", "TooMany", false) :: ("NoCurve", "NoCoin", false) :: ("NoCurve", "NoCurve", true) :: ("NoCurve", "NoGiven", false) :: ("NoCurve", "NoLetter", false) :: ("NoCurve", "NoMark", false) :: ("NoCurve", "NoNumber", false) :: ("NoCurve", "NoRow", false) :: ("NoCurve", "NoText", false) :: ("NoCurve", "NoTurn", false) :: ("NoCurve", "NoTurned", false) :: ("NoCurve", "TooMany", false) :: ("NoGiven", "NoCoin", false) :: ("NoGiven", "NoCurve", false) :: ("NoGiven", "NoGiven", true) :: ("NoGiven", "NoLetter", false) :: ("NoGiven", "NoMark", false) :: ("NoGiven", "NoNumber", false) :: ("NoGiven", "NoRow", false) :: ("NoGiven", "NoText", false) :: ("NoGiven", "NoTurn", false) :: ("NoGiven", "NoTurned", false) :: ("NoGiven", "TooMany", false) :: ("NoLetter", "NoCoin", false) :: ("NoLetter", "NoCurve", false) :: ("NoLetter", "NoGiven", false) :: ("NoLetter", "NoLetter", true) :: ("NoLetter", "NoMark", false) :: ("NoLetter", "NoNumber", false) :: ("NoLetter", "NoRow", false) :: ("NoLetter", "NoText", false) :: ("NoLetter", "NoTurn", false) :: ("NoLetter", "NoTurned", false) :: ("NoLetter", "TooMany", false) :: ("NoMark", "NoCoin", false) :: ("NoMark", "NoCurve", false) :: ("NoMark", "NoGiven", false) :: ("NoMark", "NoLetter", false) :: ("NoMark", "NoMark", true) :: ("NoMark", "NoNumber", false) :: ("NoMark", "NoRow", false) :: ("NoMark", "NoText", false) :: ("NoMark", "NoTurn", false) :: ("NoMark", "NoTurned", false) :: ("NoMark", "TooMany", false) :: ("NoNumber", "NoCoin", false) :: ("NoNumber", "NoCurve", false) :: ("NoNumber", "NoGiven", false) :: ("NoNumber", "NoLetter", false) :: ("NoNumber", "NoMark", false) :: ("NoNumber", "NoNumber", true) :: ("NoNumber", "NoRow", false) :: ("NoNumber", "NoText", false) :: ("NoNumber", "NoTurn", false) :: ("NoNumber", "NoTurned", false) :: ("NoNumber", "TooMany", false) :: ("NoRow", "NoCoin", false) :: ("NoRow", "NoCurve", false) :: ("NoRow", "NoGiven", false) :: ("NoRow", "NoLetter", false) :: ("NoRow", "NoMark", false) :: ("NoRow", "NoNumber", false) :: ("NoRow", "NoRow", true) :: ("NoRow", "NoText", false) :: ("NoRow", "NoTurn", false) :: ("NoRow", "NoTurned", false) :: ("NoRow", "TooMany", false) :: ("NoText", "NoCoin", false) :: ("NoText", "NoCurve", false) :: ("NoText", "NoGiven", false) :: ("NoText", "NoLetter", false) :: ("NoText", "NoMark", false) :: ("NoText", "NoNumber", false) :: ("NoText", "NoRow", false) :: ("NoText", "NoText", true) :: ("NoText", "NoTurn", false) :: ("NoText", "NoTurned", false) :: ("NoText", "TooMany", false) :: ("NoTurn", "NoCoin", false) :: ("NoTurn", "NoCurve", false) :: ("NoTurn", "NoGiven", false) :: ("NoTurn", "NoLetter", false) :: ("NoTurn", "NoMark", false) :: ("NoTurn", "NoNumber", false) :: ("NoTurn", "NoRow", false) :: ("NoTurn", "NoText", false) :: ("NoTurn", "NoTurn", true) :: ("NoTurn", "NoTurned", false) :: ("NoTurn", "TooMany", false) :: ("NoTurned", "NoCoin", false) :: ("NoTurned", "NoCurve", false) :: ("NoTurned", "NoGiven", false) :: ("NoTurned", "NoLetter", false) :: ("NoTurned", "NoMark", false) :: ("NoTurned", "NoNumber", false) :: ("NoTurned", "NoRow", false) :: ("NoTurned", "NoText", false) :: ("NoTurned", "NoTurn", false) :: ("NoTurned", "NoTurned", true) :: ("NoTurned", "TooMany", false) :: ("TooMany", "NoCoin", false) :: ("TooMany", "NoCurve", false) :: ("TooMany", "NoGiven", false) :: ("TooMany", "NoLetter", false) :: ("TooMany", "NoMark", false) :: ("TooMany", "NoNumber", false) :: ("TooMany", "NoRow", false) :: ("TooMany", "NoText", false) :: ("TooMany", "NoTurn", false) :: ("TooMany", "NoTurned", false) :: ("TooMany", "TooMany", true) :: [] : List (Str × Str × Bool)), XcOk K e.1 ∧ PySem.W.kitOne K (.ref (cA K e.1)) (.ref (cA K e.2.1)) = some e.2.2 := (List.forall_mem_cons.mpr ⟨(by (try dsimp only); exact ⟨Y_NoCoin, by rw [hC_NoCoin]; exact kit_own xs_NoCoin xi_NoCoin xt_NoCoin xs_NoCoin⟩), (List.forall_mem_cons.mpr ⟨(by (try dsimp only); exact ⟨Y_NoCoin, by rw [hC_NoCoin, hC_NoCurve]; exact kit_own xs_NoCurve xi_NoCurve xt_NoCurve xx_NoCoin_NoCurve⟩), (List.forall_mem_cons.mpr ⟨(by (try dsimp only); exact ⟨Y_NoCoin, by rw [hC_NoCoin, hC_NoGiven]; exact kit_own xs_NoGiven xi_NoGiven xt_NoGiven xx_NoCoin_NoGiven⟩), (List.forall_mem_cons.mpr ⟨(by (try dsimp only); exact ⟨Y_NoCoin, by rw [hC_NoCoin, hC_NoLetter]; exact kit_own xs_NoLetter xi_NoLetter xt_NoLetter xx_NoCoin_NoLetter⟩), (List.forall_mem_cons.mpr ⟨(by (try dsimp only); exact ⟨Y_NoCoin, by rw [hC_NoCoin, hC_NoMark]; exact kit_own xs_NoMark xi_NoMark xt_NoMark xx_NoCoin_NoMark⟩), (List.forall_mem_cons.mpr ⟨(by (try dsimp only); exact ⟨Y_NoCoin, by rw [hC_NoCoin, hC_NoNumber]; exact kit_own xs_NoNumber xi_NoNumber xt_NoNumber xx_NoCoin_NoNumber⟩), (List.forall_mem_cons.mpr ⟨(by (try dsimp only); exact ⟨Y_NoCoin, by rw [hC_NoCoin, hC_NoRow]; exact kit_own xs_NoRow xi_NoRow xt_NoRow xx_NoCoin_NoRow⟩), (List.forall_mem_cons.mpr ⟨(by (try dsimp only); exact ⟨Y_NoCoin, by rw [hC_NoCoin, hC_NoText]; exact kit_own xs_NoText xi_NoText xt_NoText xx_NoCoin_NoText⟩), (List.forall_mem_cons.mpr ⟨(by (try dsimp only); exact ⟨Y_NoCoin, by rw [hC_NoCoin, hC_NoTurn]; exact kit_own xs_NoTurn xi_NoTurn xt_NoTurn xx_NoCoin_NoTurn⟩), (List.forall_mem_cons.mpr ⟨(by (try dsimp only); exact ⟨Y_NoCoin, by rw [hC_NoCoin, hC_NoTurned]; exact kit_own xs_NoTurned xi_NoTurned xt_NoTurned xx_NoCoin_NoTurned⟩), (List.forall_mem_cons.mpr ⟨(by (try dsimp only); exact ⟨Y_NoCoin, by rw [hC_NoCoin, hC_TooMany]; exact kit_own xs_TooMany xi_TooMany xt_TooMany xx_NoCoin_TooMany⟩), (List.forall_mem_cons.mpr ⟨(by (try dsimp only); exact ⟨Y_NoCurve, by rw [hC_NoCurve, hC_NoCoin]; exact kit_own xs_NoCoin xi_NoCoin xt_NoCoin xx_NoCurve_NoCoin⟩), (List.forall_mem_cons.mpr ⟨(by (try dsimp only); exact ⟨Y_NoCurve, by rw [hC_NoCurve]; exact kit_own xs_NoCurve xi_NoCurve xt_NoCurve xs_NoCurve⟩), (List.forall_mem_cons.mpr ⟨(by (try dsimp only); exact ⟨Y_NoCurve, by rw [hC_NoCurve, hC_NoGiven]; exact kit_own xs_NoGiven xi_NoGiven xt_NoGiven xx_NoCurve_NoGiven⟩), (List.forall_mem_cons.mpr ⟨(by (try dsimp only); exact ⟨Y_NoCurve, by rw [hC_NoCurve, hC_NoLetter]; exact kit_own xs_NoLetter xi_NoLetter xt_NoLetter xx_NoCurve_NoLetter⟩), (List.forall_mem_cons.mpr ⟨(by (try dsimp only); exact ⟨Y_NoCurve, by rw [hC_NoCurve, hC_NoMark]; exact kit_own xs_NoMark xi_NoMark xt_NoMark xx_NoCurve_NoMark⟩), (List.forall_mem_cons.mpr ⟨(by (try dsimp only); exact ⟨Y_NoCurve, by rw [hC_NoCurve, hC_NoNumber]; exact kit_own xs_NoNumber xi_NoNumber xt_NoNumber xx_NoCurve_NoNumber⟩), (List.forall_mem_cons.mpr ⟨(by (try dsimp only); exact ⟨Y_NoCurve, by rw [hC_NoCurve, hC_NoRow]; exact kit_own xs_NoRow xi_NoRow xt_NoRow xx_NoCurve_NoRow⟩), (List.forall_mem_cons.mpr ⟨(by (try dsimp only); exact ⟨Y_NoCurve, by rw [hC_NoCurve, hC_NoText]; exact kit_own xs_NoText xi_NoText xt_NoText xx_NoCurve_NoText⟩), (List.forall_mem_cons.mpr ⟨(by (try dsimp only); exact ⟨Y_NoCurve, by rw [hC_NoCurve, hC_NoTurn]; exact kit_own xs_NoTurn xi_NoTurn xt_NoTurn xx_NoCurve_NoTurn⟩), (List.forall_mem_cons.mpr ⟨(by (try dsimp only); exact ⟨Y_NoCurve, by rw [hC_NoCurve, hC_NoTurned]; exact kit_own xs_NoTurned xi_NoTurned xt_NoTurned xx_NoCurve_NoTurned⟩), (List.forall_mem_cons.mpr ⟨(by (try dsimp only); exact ⟨Y_NoCurve, by rw [hC_NoCurve, hC_TooMany]; exact kit_own xs_TooMany xi_TooMany xt_TooMany xx_NoCurve_TooMany⟩), (List.forall_mem_cons.mpr ⟨(by (try dsimp only); exact ⟨Y_NoGiven, by rw [hC_NoGiven, hC_NoCoin]; exact kit_own xs_NoCoin xi_NoCoin xt_NoCoin xx_NoGiven_NoCoin⟩), (List.forall_mem_cons.mpr ⟨(by (try dsimp only); exact ⟨Y_NoGiven, by rw [hC_NoGiven, hC_NoCurve]; exact kit_own xs_NoCurve xi_NoCurve xt_NoCurve xx_NoGiven_NoCurve⟩), (List.forall_mem_cons.mpr ⟨(by (try dsimp only); exact ⟨Y_NoGiven, by rw [hC_NoGiven]; exact kit_own xs_NoGiven xi_NoGiven xt_NoGiven xs_NoGiven⟩), (List.forall_mem_cons.mpr ⟨(by (try dsimp only); exact ⟨Y_NoGiven, by rw [hC_NoGiven, hC_NoLetter]; exact kit_own xs_NoLetter xi_NoLetter xt_NoLetter xx_NoGiven_NoLetter⟩), (List.forall_mem_cons.mpr ⟨(by (try dsimp only); exact ⟨Y_NoGiven, by rw [hC_NoGiven, hC_NoMark]; exact kit_own xs_NoMark xi_NoMark xt_NoMark xx_NoGiven_NoMark⟩), (List.forall_mem_cons.mpr ⟨(by (try dsimp only); exact ⟨Y_NoGiven, by rw [hC_NoGiven, hC_NoNumber]; exact kit_own xs_NoNumber xi_NoNumber xt_NoNumber xx_NoGiven_NoNumber⟩), (List.forall_mem_cons.mpr ⟨(by (try dsimp only); exact ⟨Y_NoGiven, by rw [hC_NoGiven, hC_NoRow]; exact kit_own xs_NoRow xi_NoRow xt_NoRow xx_NoGiven_NoRow⟩), (List.forall_mem_cons.mpr ⟨(by (try dsimp only); exact ⟨Y_NoGiven, by rw [hC_NoGiven, hC_NoText]; exact kit_own xs_NoText xi_NoText xt_NoText xx_NoGiven_NoText⟩), (List.forall_mem_cons.mpr ⟨(by (try dsimp only); exact ⟨Y_NoGiven, by rw [hC_NoGiven, hC_NoTurn]; exact kit_own xs_NoTurn xi_NoTurn xt_NoTurn xx_NoGiven_NoTurn⟩), (List.forall_mem_cons.mpr ⟨(by (try dsimp only); exact ⟨Y_NoGiven, by rw [hC_NoGiven, hC_NoTurned]; exact kit_own xs_NoTurned xi_NoTurned xt_NoTurned xx_NoGiven_NoTurned⟩), (List.forall_mem_cons.mpr ⟨(by (try dsimp only); exact ⟨Y_NoGiven, by rw [hC_NoGiven, hC_TooMany]; exact kit_own xs_TooMany xi_TooMany xt_TooMany xx_NoGiven_TooMany⟩), (List.forall_mem_cons.mpr ⟨(by (try dsimp only); exact ⟨Y_NoLetter, by rw [hC_NoLetter, hC_NoCoin]; exact kit_own xs_NoCoin xi_NoCoin xt_NoCoin xx_NoLetter_NoCoin⟩), (List.forall_mem_cons.mpr ⟨(by (try dsimp only); exact ⟨Y_NoLetter, by rw [hC_NoLetter, hC_NoCurve]; exact kit_own xs_NoCurve xi_NoCurve xt_NoCurve xx_NoLetter_NoCurve⟩), (List.forall_mem_cons.mpr ⟨(by (try dsimp only); exact ⟨Y_NoLetter, by rw [hC_NoLetter, hC_NoGiven]; exact kit_own xs_NoGiven xi_NoGiven xt_NoGiven xx_NoLetter_NoGiven⟩), (List.forall_mem_cons.mpr ⟨(by (try dsimp only); exact ⟨Y_NoLetter, by rw [hC_NoLetter]; exact kit_own xs_NoLetter xi_NoLetter xt_NoLetter xs_NoLetter⟩), (List.forall_mem_cons.mpr ⟨(by (try dsimp only); exact ⟨Y_NoLetter, by rw [hC_NoLetter, hC_NoMark]; exact kit_own xs_NoMark xi_NoMark xt_NoMark xx_NoLetter_NoMark⟩), (List.forall_mem_cons.mpr ⟨(by (try dsimp only); exact ⟨Y_NoLetter, by rw [hC_NoLetter, hC_NoNumber]; exact kit_own xs_NoNumber xi_NoNumber xt_NoNumber xx_NoLetter_NoNumber⟩), (List.forall_mem_cons.mpr ⟨(by (try dsimp only); exact ⟨Y_NoLetter, by rw [hC_NoLetter, hC_NoRow]; exact kit_own xs_NoRow xi_NoRow xt_NoRow xx_NoLetter_NoRow⟩), (List.forall_mem_cons.mpr ⟨(by (try dsimp only); exact ⟨Y_NoLetter, by rw [hC_NoLetter, hC_NoText]; exact kit_own xs_NoText xi_NoText xt_NoText xx_NoLetter_NoText⟩), (List.forall_mem_cons.mpr ⟨(by (try dsimp only); exact ⟨Y_NoLetter, by rw [hC_NoLetter, hC_NoTurn]; exact kit_own xs_NoTurn xi_NoTurn xt_NoTurn xx_NoLetter_NoTurn⟩), (List.forall_mem_cons.mpr ⟨(by (try dsimp only); exact ⟨Y_NoLetter, by rw [hC_NoLetter, hC_NoTurned]; exact kit_own xs_NoTurned xi_NoTurned xt_NoTurned xx_NoLetter_NoTurned⟩), (List.forall_mem_cons.mpr ⟨(by (try dsimp only); exact ⟨Y_NoLetter, by rw [hC_NoLetter, hC_TooMany]; exact kit_own xs_TooMany xi_TooMany xt_TooMany xx_NoLetter_TooMany⟩), (List.forall_mem_cons.mpr ⟨(by (try dsimp only); exact ⟨Y_NoMark, by rw [hC_NoMark, hC_NoCoin]; exact kit_own xs_NoCoin xi_NoCoin xt_NoCoin xx_NoMark_NoCoin⟩), (List.forall_mem_cons.mpr ⟨(by (try dsimp only); exact ⟨Y_NoMark, by rw [hC_NoMark, hC_NoCurve]; exact kit_own xs_NoCurve xi_NoCurve xt_NoCurve xx_NoMark_NoCurve⟩), (List.forall_mem_cons.mpr ⟨(by (try dsimp only); exact ⟨Y_NoMark, by rw [hC_NoMark, hC_NoGiven]; exact kit_own xs_NoGiven xi_NoGiven xt_NoGiven xx_NoMark_NoGiven⟩), (List.forall_mem_cons.mpr ⟨(by (try dsimp only); exact ⟨Y_NoMark, by rw [hC_NoMark, hC_NoLetter]; exact kit_own xs_NoLetter xi_NoLetter xt_NoLetter xx_NoMark_NoLetter⟩), (List.forall_mem_cons.mpr ⟨(by (try dsimp only); exact ⟨Y_NoMark, by rw [hC_NoMark]; exact kit_own xs_NoMark xi_NoMark xt_NoMark xs_NoMark⟩), (List.forall_mem_cons.mpr ⟨(by (try dsimp only); exact ⟨Y_NoMark, by rw [hC_NoMark, hC_NoNumber]; exact kit_own xs_NoNumber xi_NoNumber xt_NoNumber xx_NoMark_NoNumber⟩), (List.forall_mem_cons.mpr ⟨(by (try dsimp only); exact ⟨Y_NoMark, by rw [hC_NoMark, hC_NoRow]; exact kit_own xs_NoRow xi_NoRow xt_NoRow xx_NoMark_NoRow⟩), (List.forall_mem_cons.mpr ⟨(by (try dsimp only); exact ⟨Y_NoMark, by rw [hC_NoMark, hC_NoText]; exact kit_own xs_NoText xi_NoText xt_NoText xx_NoMark_NoText⟩), (List.forall_mem_cons.mpr ⟨(by (try dsimp only); exact ⟨Y_NoMark, by rw [hC_NoMark, hC_NoTurn]; exact kit_own xs_NoTurn xi_NoTurn xt_NoTurn xx_NoMark_NoTurn⟩), (List.forall_mem_cons.mpr ⟨(by (try dsimp only); exact ⟨Y_NoMark, by rw [hC_NoMark, hC_NoTurned]; exact kit_own xs_NoTurned xi_NoTurned xt_NoTurned xx_NoMark_NoTurned⟩), (List.forall_mem_cons.mpr ⟨(by (try dsimp only); exact ⟨Y_NoMark, by rw [hC_NoMark, hC_TooMany]; exact kit_own xs_TooMany xi_TooMany xt_TooMany xx_NoMark_TooMany⟩), (List.forall_mem_cons.mpr ⟨(by (try dsimp only); exact ⟨Y_NoNumber, by rw [hC_NoNumber, hC_NoCoin]; exact kit_own xs_NoCoin xi_NoCoin xt_NoCoin xx_NoNumber_NoCoin⟩), (List.forall_mem_cons.mpr ⟨(by (try dsimp only); exact ⟨Y_NoNumber, by rw [hC_NoNumber, hC_NoCurve]; exact kit_own xs_NoCurve xi_NoCurve xt_NoCurve xx_NoNumber_NoCurve⟩), (List.forall_mem_cons.mpr ⟨(by (try dsimp only); exact ⟨Y_NoNumber, by rw [hC_NoNumber, hC_NoGiven]; exact kit_own xs_NoGiven xi_NoGiven xt_NoGiven xx_NoNumber_NoGiven⟩), (List.forall_mem_cons.mpr ⟨(by (try dsimp only); exact ⟨Y_NoNumber, by rw [hC_NoNumber, hC_NoLetter]; exact kit_own xs_NoLetter xi_NoLetter xt_NoLetter xx_NoNumber_NoLetter⟩), (List.forall_mem_cons.mpr ⟨(by (try dsimp only); exact ⟨Y_NoNumber, by rw [hC_NoNumber, hC_NoMark]; exact kit_own xs_NoMark xi_NoMark xt_NoMark xx_NoNumber_NoMark⟩), (List.forall_mem_cons.mpr ⟨(by (try dsimp only); exact ⟨Y_NoNumber, by rw [hC_NoNumber]; exact kit_own xs_NoNumber xi_NoNumber xt_NoNumber xs_NoNumber⟩), (List.forall_mem_cons.mpr ⟨(by (try dsimp only); exact ⟨Y_NoNumber, by rw [hC_NoNumber, hC_NoRow]; exact kit_own xs_NoRow xi_NoRow xt_NoRow xx_NoNumber_NoRow⟩), (List.forall_mem_cons.mpr ⟨(by (try dsimp only); exact ⟨Y_NoNumber, by rw [hC_NoNumber, hC_NoText]; exact kit_own xs_NoText xi_NoText xt_NoText xx_NoNumber_NoText⟩), (List.forall_mem_cons.mpr ⟨(by (try dsimp only); exact ⟨Y_NoNumber, by rw [hC_NoNumber, hC_NoTurn]; exact kit_own xs_NoTurn xi_NoTurn xt_NoTurn xx_NoNumber_NoTurn⟩), (List.forall_mem_cons.mpr ⟨(by (try dsimp only); exact ⟨Y_NoNumber, by rw [hC_NoNumber, hC_NoTurned]; exact kit_own xs_NoTurned xi_NoTurned xt_NoTurned xx_NoNumber_NoTurned⟩), (List.forall_mem_cons.mpr ⟨(by (try dsimp only); exact ⟨Y_NoNumber, by rw [hC_NoNumber, hC_TooMany]; exact kit_own xs_TooMany xi_TooMany xt_TooMany xx_NoNumber_TooMany⟩), (List.forall_mem_cons.mpr ⟨(by (try dsimp only); exact ⟨Y_NoRow, by rw [hC_NoRow, hC_NoCoin]; exact kit_own xs_NoCoin xi_NoCoin xt_NoCoin xx_NoRow_NoCoin⟩), (List.forall_mem_cons.mpr ⟨(by (try dsimp only); exact ⟨Y_NoRow, by rw [hC_NoRow, hC_NoCurve]; exact kit_own xs_NoCurve xi_NoCurve xt_NoCurve xx_NoRow_NoCurve⟩), (List.forall_mem_cons.mpr ⟨(by (try dsimp only); exact ⟨Y_NoRow, by rw [hC_NoRow, hC_NoGiven]; exact kit_own xs_NoGiven xi_NoGiven xt_NoGiven xx_NoRow_NoGiven⟩), (List.forall_mem_cons.mpr ⟨(by (try dsimp only); exact ⟨Y_NoRow, by rw [hC_NoRow, hC_NoLetter]; exact kit_own xs_NoLetter xi_NoLetter xt_NoLetter xx_NoRow_NoLetter⟩), (List.forall_mem_cons.mpr ⟨(by (try dsimp only); exact ⟨Y_NoRow, by rw [hC_NoRow, hC_NoMark]; exact kit_own xs_NoMark xi_NoMark xt_NoMark xx_NoRow_NoMark⟩), (List.forall_mem_cons.mpr ⟨(by (try dsimp only); exact ⟨Y_NoRow, by rw [hC_NoRow, hC_NoNumber]; exact kit_own xs_NoNumber xi_NoNumber xt_NoNumber xx_NoRow_NoNumber⟩), (List.forall_mem_cons.mpr ⟨(by (try dsimp only); exact ⟨Y_NoRow, by rw [hC_NoRow]; exact kit_own xs_NoRow xi_NoRow xt_NoRow xs_NoRow⟩), (List.forall_mem_cons.mpr ⟨(by (try dsimp only); exact ⟨Y_NoRow, by rw [hC_NoRow, hC_NoText]; exact kit_own xs_NoText xi_NoText xt_NoText xx_NoRow_NoText⟩), (List.forall_mem_cons.mpr ⟨(by (try dsimp only); exact ⟨Y_NoRow, by rw [hC_NoRow, hC_NoTurn]; exact kit_own xs_NoTurn xi_NoTurn xt_NoTurn xx_NoRow_NoTurn⟩), (List.forall_mem_cons.mpr ⟨(by (try dsimp only); exact ⟨Y_NoRow, by rw [hC_NoRow, hC_NoTurned]; exact kit_own xs_NoTurned xi_NoTurned xt_NoTurned xx_NoRow_NoTurned⟩), (List.forall_mem_cons.mpr ⟨(by (try dsimp only); exact ⟨Y_NoRow, by rw [hC_NoRow, hC_TooMany]; exact kit_own xs_TooMany xi_TooMany xt_TooMany xx_NoRow_TooMany⟩), (List.forall_mem_cons.mpr ⟨(by (try dsimp only); exact ⟨Y_NoText, by rw [hC_NoText, hC_NoCoin]; exact kit_own xs_NoCoin xi_NoCoin xt_NoCoin xx_NoText_NoCoin⟩), (List.forall_mem_cons.mpr ⟨(by (try dsimp only); exact ⟨Y_NoText, by rw [hC_NoText, hC_NoCurve]; exact kit_own xs_NoCurve xi_NoCurve xt_NoCurve xx_NoText_NoCurve⟩), (List.forall_mem_cons.mpr ⟨(by (try dsimp only); exact ⟨Y_NoText, by rw [hC_NoText, hC_NoGiven]; exact kit_own xs_NoGiven xi_NoGiven xt_NoGiven xx_NoText_NoGiven⟩), (List.forall_mem_cons.mpr ⟨(by (try dsimp only); exact ⟨Y_NoText, by rw [hC_NoText, hC_NoLetter]; exact kit_own xs_NoLetter xi_NoLetter xt_NoLetter xx_NoText_NoLetter⟩), (List.forall_mem_cons.mpr ⟨(by (try dsimp only); exact ⟨Y_NoText, by rw [hC_NoText, hC_NoMark]; exact kit_own xs_NoMark xi_NoMark xt_NoMark xx_NoText_NoMark⟩), (List.forall_mem_cons.mpr ⟨(by (try dsimp only); exact ⟨Y_NoText, by rw [hC_NoText, hC_NoNumber]; exact kit_own xs_NoNumber xi_NoNumber xt_NoNumber xx_NoText_NoNumber⟩), (List.forall_mem_cons.mpr ⟨(by (try dsimp only); exact ⟨Y_NoText, by rw [hC_NoText, hC_NoRow]; exact kit_own xs_NoRow xi_NoRow xt_NoRow xx_NoText_NoRow⟩), (List.forall_mem_cons.mpr ⟨(by (try dsimp only); exact ⟨Y_NoText, by rw [hC_NoText]; exact kit_own xs_NoText xi_NoText xt_NoText xs_NoText⟩), (List.forall_mem_cons.mpr ⟨(by (try dsimp only); exact ⟨Y_NoText, by rw [hC_NoText, hC_NoTurn]; exact kit_own xs_NoTurn xi_NoTurn xt_NoTurn xx_NoText_NoTurn⟩), (List.forall_mem_cons.mpr ⟨(by (try dsimp only); exact ⟨Y_NoText, by rw [hC_NoText, hC_NoTurned]; exact kit_own xs_NoTurned xi_NoTurned xt_NoTurned xx_NoText_NoTurned⟩), (List.forall_mem_cons.mpr ⟨(by (try dsimp only); exact ⟨Y_NoText, by rw [hC_NoText, hC_TooMany]; exact kit_own xs_TooMany xi_TooMany xt_TooMany xx_NoText_TooMany⟩), (List.forall_mem_cons.mpr ⟨(by (try dsimp only); exact ⟨Y_NoTurn, by rw [hC_NoTurn, hC_NoCoin]; exact kit_own xs_NoCoin xi_NoCoin xt_NoCoin xx_NoTurn_NoCoin⟩), (List.forall_mem_cons.mpr ⟨(by (try dsimp only); exact ⟨Y_NoTurn, by rw [hC_NoTurn, hC_NoCurve]; exact kit_own xs_NoCurve xi_NoCurve xt_NoCurve xx_NoTurn_NoCurve⟩), (List.forall_mem_cons.mpr ⟨(by (try dsimp only); exact ⟨Y_NoTurn, by rw [hC_NoTurn, hC_NoGiven]; exact kit_own xs_NoGiven xi_NoGiven xt_NoGiven xx_NoTurn_NoGiven⟩), (List.forall_mem_cons.mpr ⟨(by (try dsimp only); exact ⟨Y_NoTurn, by rw [hC_NoTurn, hC_NoLetter]; exact kit_own xs_NoLetter xi_NoLetter xt_NoLetter xx_NoTurn_NoLetter⟩), (List.forall_mem_cons.mpr ⟨(by (try dsimp only); exact ⟨Y_NoTurn, by rw [hC_NoTurn, hC_NoMark]; exact kit_own xs_NoMark xi_NoMark xt_NoMark xx_NoTurn_NoMark⟩), (List.forall_mem_cons.mpr ⟨(by (try dsimp only); exact ⟨Y_NoTurn, by rw [hC_NoTurn, hC_NoNumber]; exact kit_own xs_NoNumber xi_NoNumber xt_NoNumber xx_NoTurn_NoNumber⟩), (List.forall_mem_cons.mpr ⟨(by (try dsimp only); exact ⟨Y_NoTurn, by rw [hC_NoTurn, hC_NoRow]; exact kit_own xs_NoRow xi_NoRow xt_NoRow xx_NoTurn_NoRow⟩), (List.forall_mem_cons.mpr ⟨(by (try dsimp only); exact ⟨Y_NoTurn, by rw [hC_NoTurn, hC_NoText]; exact kit_own xs_NoText xi_NoText xt_NoText xx_NoTurn_NoText⟩), (List.forall_mem_cons.mpr ⟨(by (try dsimp only); exact ⟨Y_NoTurn, by rw [hC_NoTurn]; exact kit_own xs_NoTurn xi_NoTurn xt_NoTurn xs_NoTurn⟩), (List.forall_mem_cons.mpr ⟨(by (try dsimp only); exact ⟨Y_NoTurn, by rw [hC_NoTurn, hC_NoTurned]; exact kit_own xs_NoTurned xi_NoTurned xt_NoTurned xx_NoTurn_NoTurned⟩), (List.forall_mem_cons.mpr ⟨(by (try dsimp only); exact ⟨Y_NoTurn, by rw [hC_NoTurn, hC_TooMany]; exact kit_own xs_TooMany xi_TooMany xt_TooMany xx_NoTurn_TooMany⟩), (List.forall_mem_cons.mpr ⟨(by (try dsimp only); exact ⟨Y_NoTurned, by rw [hC_NoTurned, hC_NoCoin]; exact kit_own xs_NoCoin xi_NoCoin xt_NoCoin xx_NoTurned_NoCoin⟩), (List.forall_mem_cons.mpr ⟨(by (try dsimp only); exact ⟨Y_NoTurned, by rw [hC_NoTurned, hC_NoCurve]; exact kit_own xs_NoCurve xi_NoCurve xt_NoCurve xx_NoTurned_NoCurve⟩), (List.forall_mem_cons.mpr ⟨(by (try dsimp only); exact ⟨Y_NoTurned, by rw [hC_NoTurned, hC_NoGiven]; exact kit_own xs_NoGiven xi_NoGiven xt_NoGiven xx_NoTurned_NoGiven⟩), (List.forall_mem_cons.mpr ⟨(by (try dsimp only); exact ⟨Y_NoTurned, by rw [hC_NoTurned, hC_NoLetter]; exact kit_own xs_NoLetter xi_NoLetter xt_NoLetter xx_NoTurned_NoLetter⟩), (List.forall_mem_cons.mpr ⟨(by (try dsimp only); exact ⟨Y_NoTurned, by rw [hC_NoTurned, hC_NoMark]; exact kit_own xs_NoMark xi_NoMark xt_NoMark xx_NoTurned_NoMark⟩), (List.forall_mem_cons.mpr ⟨(by (try dsimp only); exact ⟨Y_NoTurned, by rw [hC_NoTurned, hC_NoNumber]; exact kit_own xs_NoNumber xi_NoNumber xt_NoNumber xx_NoTurned_NoNumber⟩), (List.forall_mem_cons.mpr ⟨(by (try dsimp only); exact ⟨Y_NoTurned, by rw [hC_NoTurned, hC_NoRow]; exact kit_own xs_NoRow xi_NoRow xt_NoRow xx_NoTurned_NoRow⟩), (List.forall_mem_cons.mpr ⟨(by (try dsimp only); exact ⟨Y_NoTurned, by rw [hC_NoTurned, hC_NoText]; exact kit_own xs_NoText xi_NoText xt_NoText xx_NoTurned_NoText⟩), (List.forall_mem_cons.mpr ⟨(by (try dsimp only); exact ⟨Y_NoTurned, by rw [hC_NoTurned, hC_NoTurn]; exact kit_own xs_NoTurn xi_NoTurn xt_NoTurn xx_NoTurned_NoTurn⟩), (List.forall_mem_cons.mpr ⟨(by (try dsimp only); exact ⟨Y_NoTurned, by rw [hC_NoTurned]; exact kit_own xs_NoTurned xi_NoTurned xt_NoTurned xs_NoTurned⟩), (List.forall_mem_cons.mpr ⟨(by (try dsimp only); exact ⟨Y_NoTurned, by rw [hC_NoTurned, hC_TooMany]; exact kit_own xs_TooMany xi_TooMany xt_TooMany xx_NoTurned_TooMany⟩), (List.forall_mem_cons.mpr ⟨(by (try dsimp only); exact ⟨Y_TooMany, by rw [hC_TooMany, hC_NoCoin]; exact kit_own xs_NoCoin xi_NoCoin xt_NoCoin xx_TooMany_NoCoin⟩), (List.forall_mem_cons.mpr ⟨(by (try dsimp only); exact ⟨Y_TooMany, by rw [hC_TooMany, hC_NoCurve]; exact kit_own xs_NoCurve xi_NoCurve xt_NoCurve xx_TooMany_NoCurve⟩), (List.forall_mem_cons.mpr ⟨(by (try dsimp only); exact ⟨Y_TooMany, by rw [hC_TooMany, hC_NoGiven]; exact kit_own xs_NoGiven xi_NoGiven xt_NoGiven xx_TooMany_NoGiven⟩), (List.forall_mem_cons.mpr ⟨(by (try dsimp only); exact ⟨Y_TooMany, by rw [hC_TooMany, hC_NoLetter]; exact kit_own xs_NoLetter xi_NoLetter xt_NoLetter xx_TooMany_NoLetter⟩), (List.forall_mem_cons.mpr ⟨(by (try dsimp only); exact ⟨Y_TooMany, by rw [hC_TooMany, hC_NoMark]; exact kit_own xs_NoMark xi_NoMark xt_NoMark xx_TooMany_NoMark⟩), (List.forall_mem_cons.mpr ⟨(by (try dsimp only); exact ⟨Y_TooMany, by rw [hC_TooMany, hC_NoNumber]; exact kit_own xs_NoNumber xi_NoNumber xt_NoNumber xx_TooMany_NoNumber⟩), (List.forall_mem_cons.mpr ⟨(by (try dsimp only); exact ⟨Y_TooMany, by rw [hC_TooMany, hC_NoRow]; exact kit_own xs_NoRow xi_NoRow xt_NoRow xx_TooMany_NoRow⟩), (List.forall_mem_cons.mpr ⟨(by (try dsimp only); exact ⟨Y_TooMany, by rw [hC_TooMany, hC_NoText]; exact kit_own xs_NoText xi_NoText xt_NoText xx_TooMany_NoText⟩), (List.forall_mem_cons.mpr ⟨(by (try dsimp only); exact ⟨Y_TooMany, by rw [hC_TooMany, hC_NoTurn]; exact kit_own xs_NoTurn xi_NoTurn xt_NoTurn xx_TooMany_NoTurn⟩), (List.forall_mem_cons.mpr ⟨(by (try dsimp only); exact ⟨Y_TooMany, by rw [hC_TooMany, hC_NoTurned]; exact kit_own xs_NoTurned xi_NoTurned xt_NoTurned xx_TooMany_NoTurned⟩), (List.forall_mem_cons.mpr ⟨(by (try dsimp only); exact ⟨Y_TooMany, by rw [hC_TooMany]; exact kit_own xs_TooMany xi_TooMany xt_TooMany xs_TooMany⟩), (fun e z => by cases z)⟩)⟩)⟩)⟩)⟩)⟩)⟩)⟩)⟩)⟩)⟩)⟩)⟩)⟩)⟩)⟩)⟩)⟩)⟩)⟩)⟩)⟩)⟩)⟩)⟩)⟩)⟩)⟩)⟩)⟩)⟩)⟩)⟩)⟩)⟩)⟩)⟩)⟩)⟩)⟩)⟩)⟩)⟩)⟩)⟩)⟩)⟩)⟩)⟩)⟩)⟩)⟩)⟩)⟩)⟩)⟩)⟩)⟩)⟩)⟩)⟩)⟩)⟩)⟩)⟩)⟩)⟩)⟩)⟩)⟩)⟩)⟩)⟩)⟩)⟩)⟩)⟩)⟩)⟩)⟩)⟩)⟩)⟩)⟩)⟩)⟩)⟩)⟩)⟩)⟩)⟩)⟩)⟩)⟩)⟩)⟩)⟩)⟩)⟩)⟩)⟩)⟩)⟩)⟩)⟩)⟩)⟩)⟩)⟩)⟩)⟩)⟩)⟩)⟩)⟩)⟩)⟩)⟩)⟩)⟩)⟩)
  have htb : ∀ e ∈ (("NoCoin", "IndexError", true) :: ("NoCoin", "KeyError", false) :: ("NoCoin", "LookupError", true) :: ("NoCoin", "NotImplementedError", false) :: ("NoCoin", "OverflowError", false) :: ("NoCoin", "RuntimeError", false) :: ("NoCoin", "ValueError", false) :: ("NoCoin", "ZeroDivisionError", false) :: ("NoCurve", "IndexError", false) :: ("NoCurve", "KeyError", false) :: ("NoCurve", "LookupError", false) :: ("NoCurve", "NotImplementedError", false) :: ("NoCurve", "OverflowError", false) :: ("NoCurve", "RuntimeError", false) :: ("NoCurve", "ValueError", true) :: ("NoCurve", "ZeroDivisionError", false) :: ("NoGiven", "IndexError", false) :: ("NoGiven", "KeyError", true) :: ("NoGiven", "LookupError", true) :: ("NoGiven", "NotImplementedError", false) :: ("NoGiven", "OverflowError", false) :: ("NoGiven", "RuntimeError", false) :: ("NoGiven", "ValueError", false) :: ("NoGiven", "ZeroDivisionError", false) :: ("NoLetter", "IndexError", false) :: ("NoLetter", "KeyError", false) :: ("NoLetter", "LookupError", true) :: ("NoLetter", "NotImplementedError", false) :: ("NoLetter", "OverflowError", false) :: ("NoLetter", "RuntimeError", false) :: ("NoLetter", "ValueError", false) :: ("NoLetter", "ZeroDivisionError", false) :: ("NoMark", "IndexError", false) :: ("NoMark", "KeyError", false) :: ("NoMark", "LookupError", true) :: ("NoMark", "NotImplementedError", false) :: ("NoMark", "OverflowError", false) :: ("NoMark", "RuntimeError", false) :: ("NoMark", "ValueError", false) :: ("NoMark", "ZeroDivisionError", false) :: ("NoNumber", "IndexError", false) :: ("NoNumber", "KeyError", false) :: ("NoNumber", "LookupError", false) :: ("NoNumber", "NotImplementedError", false) :: ("NoNumber", "OverflowError", false) :: ("NoNumber", "RuntimeError", false) :: ("NoNumber", "ValueError", true) :: ("NoNumber", "ZeroDivisionError", false) :: ("NoRow", "IndexError", false) :: ("NoRow", "KeyError", false) :: ("NoRow", "LookupError", true) :: ("NoRow", "NotImplementedError", false) :: ("NoRow", "OverflowError", false) :: ("NoRow", "RuntimeError", false) :: ("NoRow", "ValueError", false) :: ("NoRow", "ZeroDivisionError", false) :: ("NoText", "IndexError", false) :: ("NoText", "KeyError", false) :: ("NoText", "LookupError", false) :: ("NoText", "NotImplementedError", false) :: ("NoText", "OverflowError", false) :: ("NoText", "RuntimeError", false) :: ("NoText", "ValueError", true) :: ("NoText", "ZeroDivisionError", false) :: ("NoTurn", "IndexError", false) :: ("NoTurn", "KeyError", false) :: ("NoTurn", "LookupError", false) :: ("NoTurn", "NotImplementedError", false) :: ("NoTurn", "OverflowError", false) :: ("NoTurn", "RuntimeError", true) :: ("NoTurn", "ValueError", false) :: ("NoTurn", "ZeroDivisionError", false) :: ("NoTurned", "IndexError", false) :: ("NoTurned", "KeyError", false) :: ("NoTurned", "LookupError", false) :: ("NoTurned", "NotImplementedError", false) :: ("NoTurned", "OverflowError", false) :: ("NoTurned", "RuntimeError", false) :: ("NoTurned", "ValueError", false) :: ("NoTurned", "ZeroDivisionError", true) :: ("TooMany", "IndexError", false) :: ("TooMany", "KeyError", false) :: ("TooMany", "LookupError", false) :: ("TooMany", "NotImplementedError", false) :: ("TooMany", "OverflowError", true) :: ("TooMany", "RuntimeError", false) :: ("TooMany", "ValueError", false) :: ("TooMany", "ZeroDivisionError", false) :: [] : List (Str × String × Bool)), XcOk K e.1 ∧ PySem.W.kitOne K (.ref (cA K e.1)) (.type e.2.1) = some e.2.2 := (List.forall_mem_cons.mpr ⟨(by (try dsimp only); exact ⟨Y_NoCoin, by rw [hC_NoCoin]; exact kit_blt (by decide +kernel) xb_NoCoin_IndexError⟩), (List.forall_mem_cons.mpr ⟨(by (try dsimp only); exact ⟨Y_NoCoin, by rw [hC_NoCoin]; exact kit_blt (by decide +kernel) xb_NoCoin_KeyError⟩), (List.forall_mem_cons.mpr ⟨(by (try dsimp only); exact ⟨Y_NoCoin, by rw [hC_NoCoin]; exact kit_blt (by decide +kernel) xb_NoCoin_LookupError⟩), (List.forall_mem_cons.mpr ⟨(by (try dsimp only); exact ⟨Y_NoCoin, by rw [hC_NoCoin]; exact kit_blt (by decide +kernel) xb_NoCoin_NotImplementedError⟩), (List.forall_mem_cons.mpr ⟨(by (try dsimp only); exact ⟨Y_NoCoin, by rw [hC_NoCoin]; exact kit_blt (by decide +kernel) xb_NoCoin_OverflowError⟩), (List.forall_mem_cons.mpr ⟨(by (try dsimp only); exact ⟨Y_NoCoin, by rw [hC_NoCoin]; exact kit_blt (by decide +kernel) xb_NoCoin_RuntimeError⟩), (List.forall_mem_cons.mpr ⟨(by (try dsimp only); exact ⟨Y_NoCoin, by rw [hC_NoCoin]; exact kit_blt (by decide +kernel) xb_NoCoin_ValueError⟩), (List.forall_mem_cons.mpr ⟨(by (try dsimp only); exact ⟨Y_NoCoin, by rw [hC_NoCoin]; exact kit_blt (by decide +kernel) xb_NoCoin_ZeroDivisionError⟩), (List.forall_mem_cons.mpr ⟨(by (try dsimp only); exact ⟨Y_NoCurve, by rw [hC_NoCurve]; exact kit_blt (by decide +kernel) xb_NoCurve_IndexError⟩), (List.forall_mem_cons.mpr ⟨(by (try dsimp only); exact ⟨Y_NoCurve, by rw [hC_NoCurve]; exact kit_blt (by decide +kernel) xb_NoCurve_KeyError⟩), (List.forall_mem_cons.mpr ⟨(by (try dsimp only); exact ⟨Y_NoCurve, by rw [hC_NoCurve]; exact kit_blt (by decide +kernel) xb_NoCurve_LookupError⟩), (List.forall_mem_cons.mpr ⟨(by (try dsimp only); exact ⟨Y_NoCurve, by rw [hC_NoCurve]; exact kit_blt (by decide +kernel) xb_NoCurve_NotImplementedError⟩), (List.forall_mem_cons.mpr ⟨(by (try dsimp only); exact ⟨Y_NoCurve, by rw [hC_NoCurve]; exact kit_blt (by decide +kernel) xb_NoCurve_OverflowError⟩), (List.forall_mem_cons.mpr ⟨(by (try dsimp only); exact ⟨Y_NoCurve, by rw [hC_NoCurve]; exact kit_blt (by decide +kernel) xb_NoCurve_RuntimeError⟩), (List.forall_mem_cons.mpr ⟨(by (try dsimp only); exact ⟨Y_NoCurve, by rw [hC_NoCurve]; exact kit_blt (by decide +kernel) xb_NoCurve_ValueError⟩), (List.forall_mem_cons.mpr ⟨(by (try dsimp only); exact ⟨Y_NoCurve, by rw [hC_NoCurve]; exact kit_blt (by decide +kernel) xb_NoCurve_ZeroDivisionError⟩), (List.forall_mem_cons.mpr ⟨(by (try dsimp only); exact ⟨Y_NoGiven, by rw [hC_NoGiven]; exact kit_blt (by decide +kernel) xb_NoGiven_IndexError⟩), (List.forall_mem_cons.mpr ⟨(by (try dsimp only); exact ⟨Y_NoGiven, by rw [hC_NoGiven]; exact kit_blt (by decide +kernel) xb_NoGiven_KeyError⟩), (List.forall_mem_cons.mpr ⟨(by (try dsimp only); exact ⟨Y_NoGiven, by rw [hC_NoGiven]; exact kit_blt (by decide +kernel) xb_NoGiven_LookupError⟩), (List.forall_mem_cons.mpr ⟨(by (try dsimp only); exact ⟨Y_NoGiven, by rw [hC_NoGiven]; exact kit_blt (by decide +kernel) xb_NoGiven_NotImplementedError⟩), (List.forall_mem_cons.mpr ⟨(by (try dsimp only); exact ⟨Y_NoGiven, by rw [hC_NoGiven]; exact kit_blt (by decide +kernel) xb_NoGiven_OverflowError⟩), (List.forall_mem_cons.mpr ⟨(by (try dsimp only); exact ⟨Y_NoGiven, by rw [hC_NoGiven]; exact kit_blt (by decide +kernel) xb_NoGiven_RuntimeError⟩), (List.forall_mem_cons.mpr ⟨(by (try dsimp only); exact ⟨Y_NoGiven, by rw [hC_NoGiven]; exact kit_blt (by decide +kernel) xb_NoGiven_ValueError⟩), (List.forall_mem_cons.mpr ⟨(by (try dsimp only); exact ⟨Y_NoGiven, by rw [hC_NoGiven]; exact kit_blt (by decide +kernel) xb_NoGiven_ZeroDivisionError⟩), (List.forall_mem_cons.mpr ⟨(by (try dsimp only); exact ⟨Y_NoLetter, by rw [hC_NoLetter]; exact kit_blt (by decide +kernel) xb_NoLetter_IndexError⟩), (List.forall_mem_cons.mpr ⟨(by (try dsimp only); exact ⟨Y_NoLetter, by rw [hC_NoLetter]; exact kit_blt (by decide +kernel) xb_NoLetter_KeyError⟩), (List.forall_mem_cons.mpr ⟨(by (try dsimp only); exact ⟨Y_NoLetter, by rw [hC_NoLetter]; exact kit_blt (by decide +kernel) xb_NoLetter_LookupError⟩), (List.forall_mem_cons.mpr ⟨(by (try dsimp only); exact ⟨Y_NoLetter, by rw [hC_NoLetter]; exact kit_blt (by decide +kernel) xb_NoLetter_NotImplementedError⟩), (List.forall_mem_cons.mpr ⟨(by (try dsimp only); exact ⟨Y_NoLetter, by rw [hC_NoLetter]; exact kit_blt (by decide +kernel) xb_NoLetter_OverflowError⟩), (List.forall_mem_cons.mpr ⟨(by (try dsimp only); exact ⟨Y_NoLetter, by rw [hC_NoLetter]; exact kit_blt (by decide +kernel) xb_NoLetter_RuntimeError⟩), (List.forall_mem_cons.mpr ⟨(by (try dsimp only); exact ⟨Y_NoLetter, by rw [hC_NoLetter]; exact kit_blt (by decide +kernel) xb_NoLetter_ValueError⟩), (List.forall_mem_cons.mpr ⟨(by (try dsimp only); exact ⟨Y_NoLetter, by rw [hC_NoLetter]; exact kit_blt (by decide +kernel) xb_NoLetter_ZeroDivisionError⟩), (List.forall_mem_cons.mpr ⟨(by (try dsimp only); exact ⟨Y_NoMark, by rw [hC_NoMark]; exact kit_blt (by decide +kernel) xb_NoMark_IndexError⟩), (List.forall_mem_cons.mpr ⟨(by (try dsimp only); exact ⟨Y_NoMark, by rw [hC_NoMark]; exact kit_blt (by decide +kernel) xb_NoMark_KeyError⟩), (List.forall_mem_cons.mpr ⟨(by (try dsimp only); exact ⟨Y_NoMark, by rw [hC_NoMark]; exact kit_blt (by decide +kernel) xb_NoMark_LookupError⟩), (List.forall_mem_cons.mpr ⟨(by (try dsimp only); exact ⟨Y_NoMark, by rw [hC_NoMark]; exact kit_blt (by decide +kernel) xb_NoMark_NotImplementedError⟩), (List.forall_mem_cons.mpr ⟨(by (try dsimp only); exact ⟨Y_NoMark, by rw [hC_NoMark]; exact kit_blt (by decide +kernel) xb_NoMark_OverflowError⟩), (List.forall_mem_cons.mpr ⟨(by (try dsimp only); exact ⟨Y_NoMark, by rw [hC_NoMark]; exact kit_blt (by decide +kernel) xb_NoMark_RuntimeError⟩), (List.forall_mem_cons.mpr ⟨(by (try dsimp only); exact ⟨Y_NoMark, by rw [hC_NoMark]; exact kit_blt (by decide +kernel) xb_NoMark_ValueError⟩), (List.forall_mem_cons.mpr ⟨(by (try dsimp only); exact ⟨Y_NoMark, by rw [hC_NoMark]; exact kit_blt (by decide +kernel) xb_NoMark_ZeroDivisionError⟩), (List.forall_mem_cons.mpr ⟨(by (try dsimp only); exact ⟨Y_NoNumber, by rw [hC_NoNumber]; exact kit_blt (by decide +kernel) xb_NoNumber_IndexError⟩), (List.forall_mem_cons.mpr ⟨(by (try dsimp only); exact ⟨Y_NoNumber, by rw [hC_NoNumber]; exact kit_blt (by decide +kernel) xb_NoNumber_KeyError⟩), (List.forall_mem_cons.mpr ⟨(by (try dsimp only); exact ⟨Y_NoNumber, by rw [hC_NoNumber]; exact kit_blt (by decide +kernel) xb_NoNumber_LookupError⟩), (List.forall_mem_cons.mpr ⟨(by (try dsimp only); exact ⟨Y_NoNumber, by rw [hC_NoNumber]; exact kit_blt (by decide +kernel) xb_NoNumber_NotImplementedError⟩), (List.forall_mem_cons.mpr ⟨(by (try dsimp only); exact ⟨Y_NoNumber, by rw [hC_NoNumber]; exact kit_blt (by decide +kernel) xb_NoNumber_OverflowError⟩), (List.forall_mem_cons.mpr ⟨(by (try dsimp only); exact ⟨Y_NoNumber, by rw [hC_NoNumber]; exact kit_blt (by decide +kernel) xb_NoNumber_RuntimeError⟩), (List.forall_mem_cons.mpr ⟨(by (try dsimp only); exact ⟨Y_NoNumber, by rw [hC_NoNumber]; exact kit_blt (by decide +kernel) xb_NoNumber_ValueError⟩), (List.forall_mem_cons.mpr ⟨(by (try dsimp only); exact ⟨Y_NoNumber, by rw [hC_NoNumber]; exact kit_blt (by decide +kernel) xb_NoNumber_ZeroDivisionError⟩), (List.forall_mem_cons.mpr ⟨(by (try dsimp only); exact ⟨Y_NoRow, by rw [hC_NoRow]; exact kit_blt (by decide +kernel) xb_NoRow_IndexError⟩), (List.forall_mem_cons.mpr ⟨(by (try dsimp only); exact ⟨Y_NoRow, by rw [hC_NoRow]; exact kit_blt (by decide +kernel) xb_NoRow_KeyError⟩), (List.forall_mem_cons.mpr ⟨(by (try dsimp only); exact ⟨Y_NoRow, by rw [hC_NoRow]; exact kit_blt (by decide +kernel) xb_NoRow_LookupError⟩), (List.forall_mem_cons.mpr ⟨(by (try dsimp only); exact ⟨Y_NoRow, by rw [hC_NoRow]; exact kit_blt (by decide +kernel) xb_NoRow_NotImplementedError⟩), (List.forall_mem_cons.mpr ⟨(by (try dsimp only); exact ⟨Y_NoRow, by rw [hC_NoRow]; exact kit_blt (by decide +kernel) xb_NoRow_OverflowError⟩), (List.forall_mem_cons.mpr ⟨(by (try dsimp only); exact ⟨Y_NoRow, by rw [hC_NoRow]; exact kit_blt (by decide +kernel) xb_NoRow_RuntimeError⟩), (List.forall_mem_cons.mpr ⟨(by (try dsimp only); exact ⟨Y_NoRow, by rw [hC_NoRow]; exact kit_blt (by decide +kernel) xb_NoRow_ValueError⟩), (List.forall_mem_cons.mpr ⟨(by (try dsimp only); exact ⟨Y_NoRow, by rw [hC_NoRow]; exact kit_blt (by decide +kernel) xb_NoRow_ZeroDivisionError⟩), (List.forall_mem_cons.mpr ⟨(by (try dsimp only); exact ⟨Y_NoText, by rw [hC_NoText]; exact kit_blt (by decide +kernel) xb_NoText_IndexError⟩), (List.forall_mem_cons.mpr ⟨(by (try dsimp only); exact ⟨Y_NoText, by rw [hC_NoText]; exact kit_blt (by decide +kernel) xb_NoText_KeyError⟩), (List.forall_mem_cons.mpr ⟨(by (try dsimp only); exact ⟨Y_NoText, by rw [hC_NoText]; exact kit_blt (by decide +kernel) xb_NoText_LookupError⟩), (List.forall_mem_cons.mpr ⟨(by (try dsimp only); exact ⟨Y_NoText, by rw [hC_NoText]; exact kit_blt (by decide +kernel) xb_NoText_NotImplementedError⟩), (List.forall_mem_cons.mpr ⟨(by (try dsimp only); exact ⟨Y_NoText, by rw [hC_NoText]; exact kit_blt (by decide +kernel) xb_NoText_OverflowError⟩), (List.forall_mem_cons.mpr ⟨(by (try dsimp only); exact ⟨Y_NoText, by rw [hC_NoText]; exact kit_blt (by decide +kernel) xb_NoText_RuntimeError⟩), (List.forall_mem_cons.mpr ⟨(by (try dsimp only); exact ⟨Y_NoText, by rw [hC_NoText]; exact kit_blt (by decide +kernel) xb_NoText_ValueError⟩), (List.forall_mem_cons.mpr ⟨(by (try dsimp only); exact ⟨Y_NoText, by rw [hC_NoText]; exact kit_blt (by decide +kernel) xb_NoText_ZeroDivisionError⟩), (List.forall_mem_cons.mpr ⟨(by (try dsimp only); exact ⟨Y_NoTurn, by rw [hC_NoTurn]; exact kit_blt (by decide +kernel) xb_NoTurn_IndexError⟩), (List.forall_mem_cons.mpr ⟨(by (try dsimp only); exact ⟨Y_NoTurn, by rw [hC_NoTurn]; exact kit_blt (by decide +kernel) xb_NoTurn_KeyError⟩), (List.forall_mem_cons.mpr ⟨(by (try dsimp only); exact ⟨Y_NoTurn, by rw [hC_NoTurn]; exact kit_blt (by decide +kernel) xb_NoTurn_LookupError⟩), (List.forall_mem_cons.mpr ⟨(by (try dsimp only); exact ⟨Y_NoTurn, by rw [hC_NoTurn]; exact kit_blt (by decide +kernel) xb_NoTurn_NotImplementedError⟩), (List.forall_mem_cons.mpr ⟨(by (try dsimp only); exact ⟨Y_NoTurn, by rw [hC_NoTurn]; exact kit_blt (by decide +kernel) xb_NoTurn_OverflowError⟩), (List.forall_mem_cons.mpr ⟨(by (try dsimp only); exact ⟨Y_NoTurn, by rw [hC_NoTurn]; exact kit_blt (by decide +kernel) xb_NoTurn_RuntimeError⟩), (List.forall_mem_cons.mpr ⟨(by (try dsimp only); exact ⟨Y_NoTurn, by rw [hC_NoTurn]; exact kit_blt (by decide +kernel) xb_NoTurn_ValueError⟩), (List.forall_mem_cons.mpr ⟨(by (try dsimp only); exact ⟨Y_NoTurn, by rw [hC_NoTurn]; exact kit_blt (by decide +kernel) xb_NoTurn_ZeroDivisionError⟩), (List.forall_mem_cons.mpr ⟨(by (try dsimp only); exact ⟨Y_NoTurned, by rw [hC_NoTurned]; exact kit_blt (by decide +kernel) xb_NoTurned_IndexError⟩), (List.forall_mem_cons.mpr ⟨(by (try dsimp only); exact ⟨Y_NoTurned, by rw [hC_NoTurned]; exact kit_blt (by decide +kernel) xb_NoTurned_KeyError⟩), (List.forall_mem_cons.mpr ⟨(by (try dsimp only); exact ⟨Y_NoTurned, by rw [hC_NoTurned]; exact kit_blt (by decide +kernel) xb_NoTurned_LookupError⟩), (List.forall_mem_cons.mpr ⟨(by (try dsimp only); exact ⟨Y_NoTurned, by rw [hC_NoTurned]; exact kit_blt (by decide +kernel) xb_NoTurned_NotImplementedError⟩), (List.forall_mem_cons.mpr ⟨(by (try dsimp only); exact ⟨Y_NoTurned, by rw [hC_NoTurned]; exact kit_blt (by decide +kernel) xb_NoTurned_OverflowError⟩), (List.forall_mem_cons.mpr ⟨(by (try dsimp only); exact ⟨Y_NoTurned, by rw [hC_NoTurned]; exact kit_blt (by decide +kernel) xb_NoTurned_RuntimeError⟩), (List.forall_mem_cons.mpr ⟨(by (try dsimp only); exact ⟨Y_NoTurned, by rw [hC_NoTurned]; exact kit_blt (by decide +kernel) xb_NoTurned_ValueError⟩), (List.forall_mem_cons.mpr ⟨(by (try dsimp only); exact ⟨Y_NoTurned, by rw [hC_NoTurned]; exact kit_blt (by decide +kernel) xb_NoTurned_ZeroDivisionError⟩), (List.forall_mem_cons.mpr ⟨(by (try dsimp only); exact ⟨Y_TooMany, by rw [hC_TooMany]; exact kit_blt (by decide +kernel) xb_TooMany_IndexError⟩), (List.forall_mem_cons.mpr ⟨(by (try dsimp only); exact ⟨Y_TooMany, by rw [hC_TooMany]; exact kit_blt (by decide +kernel) xb_TooMany_KeyError⟩), (List.forall_mem_cons.mpr ⟨(by (try dsimp only); exact ⟨Y_TooMany, by rw [hC_TooMany]; exact kit_blt (by decide +kernel) xb_TooMany_LookupError⟩), (List.forall_mem_cons.mpr ⟨(by (try dsimp only); exact ⟨Y_TooMany, by rw [hC_TooMany]; exact kit_blt (by decide +kernel) xb_TooMany_NotImplementedError⟩), (List.forall_mem_cons.mpr ⟨(by (try dsimp only); exact ⟨Y_TooMany, by rw [hC_TooMany]; exact kit_blt (by decide +kernel) xb_TooMany_OverflowError⟩), (List.forall_mem_cons.mpr ⟨(by (try dsimp only); exact ⟨Y_TooMany, by rw [hC_TooMany]; exact kit_blt (by decide +kernel) xb_TooMany_RuntimeError⟩), (List.forall_mem_cons.mpr ⟨(by (try dsimp only); exact ⟨Y_TooMany, by rw [hC_TooMany]; exact kit_blt (by decide +kernel) xb_TooMany_ValueError⟩), (List.forall_mem_cons.mpr ⟨(by (try dsimp only); exact ⟨Y_TooMany, by rw [hC_TooMany]; exact kit_blt (by decide +kernel) xb_TooMany_ZeroDivisionError⟩), (fun e z => by cases z)⟩)⟩)⟩)⟩)⟩)⟩)⟩)⟩)⟩)⟩)⟩)⟩)⟩)⟩)⟩)⟩)⟩)⟩)⟩)⟩)⟩)⟩)⟩)⟩)⟩)⟩)⟩)⟩)⟩)⟩)⟩)⟩)⟩)⟩)⟩)⟩)⟩)⟩)⟩)⟩)⟩)⟩)⟩)⟩)⟩)⟩)⟩)⟩)⟩)⟩)⟩)⟩)⟩)⟩)⟩)⟩)⟩)⟩)⟩)⟩)⟩)⟩)⟩)⟩)⟩)⟩)⟩)⟩)⟩)⟩)⟩)⟩)⟩)⟩)⟩)⟩)⟩)⟩)⟩)⟩)⟩)⟩)⟩)⟩)⟩)⟩)⟩)⟩)
  have T : Txt K mg := {
    g_NoCoin := (by rw [hC_NoCoin]; exact PySem.W.mg_of X G xa_NoCoin)
    g_NoCurve := (by rw [hC_NoCurve]; exact PySem.W.mg_of X G xa_NoCurve)
    g_NoGiven := (by rw [hC_NoGiven]; exact PySem.W.mg_of X G xa_NoGiven)
    g_NoLetter := (by rw [hC_NoLetter]; exact PySem.W.mg_of X G xa_NoLetter)
    g_NoMark := (by rw [hC_NoMark]; exact PySem.W.mg_of X G xa_NoMark)
    g_NoNumber := (by rw [hC_NoNumber]; exact PySem.W.mg_of X G xa_NoNumber)
    g_NoRow := (by rw [hC_NoRow]; exact PySem.W.mg_of X G xa_NoRow)
    g_NoText := (by rw [hC_NoText]; exact PySem.W.mg_of X G xa_NoText)
    g_NoTurn := (by rw [hC_NoTurn]; exact PySem.W.mg_of X G xa_NoTurn)
    g_NoTurned := (by rw [hC_NoTurned]; exact PySem.W.mg_of X G xa_NoTurned)
    g_TooMany := (by rw [hC_TooMany]; exact PySem.W.mg_of X G xa_TooMany)
    v_IndexError := xv_IndexError
    v_KeyError := xv_KeyError
    v_LookupError := xv_LookupError
    v_OverflowError := xv_OverflowError
    v_ValueError := xv_ValueError
    v_ZeroDivisionError := xv_ZeroDivisionError
    fx_NoCoin := _, fdx_NoCoin := _, x_NoCoin := ⟨by rw [hC_NoCoin]; exact PySem.W.mg_of X G xa_NoCoin, by rw [hC_NoCoin]; exact ⟨⟨_, _, _, _, _, _, _, _, _, _, _, _, _, _, xL_NoCoin⟩, xsa_NoCoin, xe_NoCoin, xt_NoCoin, xk_NoCoin⟩, by rw [hC_NoCoin]; exact xn_NoCoin, by rw [hC_NoCoin]; exact xI_NoCoin, xT_NoCoin, FX_NoCoin, FX_NoCoin.binds fun _ _ _ _ _ _ us hl => match us, hl with | [_, _], _ => rfl, fun _ _ _ _ => .of_eq rfl⟩
    fx_NoCurve := _, fdx_NoCurve := _, x_NoCurve := ⟨by rw [hC_NoCurve]; exact PySem.W.mg_of X G xa_NoCurve, by rw [hC_NoCurve]; exact ⟨⟨_, _, _, _, _, _, _, _, _, _, _, _, _, _, xL_NoCurve⟩, xsa_NoCurve, xe_NoCurve, xt_NoCurve, xk_NoCurve⟩, by rw [hC_NoCurve]; exact xn_NoCurve, by rw [hC_NoCurve]; exact xI_NoCurve, xT_NoCurve, FX_NoCurve, FX_NoCurve.binds fun _ _ _ _ _ _ us hl => match us, hl with | [_, _], _ => rfl, fun _ _ _ _ => .of_eq rfl⟩
    fx_NoGiven := _, fdx_NoGiven := _, x_NoGiven := ⟨by rw [hC_NoGiven]; exact PySem.W.mg_of X G xa_NoGiven, by rw [hC_NoGiven]; exact ⟨⟨_, _, _, _, _, _, _, _, _, _, _, _, _, _, xL_NoGiven⟩, xsa_NoGiven, xe_NoGiven, xt_NoGiven, xk_NoGiven⟩, by rw [hC_NoGiven]; exact xn_NoGiven, by rw [hC_NoGiven]; exact xI_NoGiven, xT_NoGiven, FX_NoGiven, FX_NoGiven.binds fun _ _ _ _ _ _ us hl => match us, hl with | [_, _], _ => rfl, fun _ _ _ _ => .of_eq rfl⟩
    fx_NoLetter := _, fdx_NoLetter := _, x_NoLetter := ⟨by rw [hC_NoLetter]; exact PySem.W.mg_of X G xa_NoLetter, by rw [hC_NoLetter]; exact ⟨⟨_, _, _, _, _, _, _, _, _, _, _, _, _, _, xL_NoLetter⟩, xsa_NoLetter, xe_NoLetter, xt_NoLetter, xk_NoLetter⟩, by rw [hC_NoLetter]; exact xn_NoLetter, by rw [hC_NoLetter]; exact xI_NoLetter, xT_NoLetter, FX_NoLetter, FX_NoLetter.binds fun _ _ _ _ _ _ us hl => match us, hl with | [_, _], _ => rfl, fun _ _ _ _ => .of_eq rfl⟩
    fx_NoMark := _, fdx_NoMark := _, x_NoMark := ⟨by rw [hC_NoMark]; exact PySem.W.mg_of X G xa_NoMark, by rw [hC_NoMark]; exact ⟨⟨_, _, _, _, _, _, _, _, _, _, _, _, _, _, xL_NoMark⟩, xsa_NoMark, xe_NoMark, xt_NoMark, xk_NoMark⟩, by rw [hC_NoMark]; exact xn_NoMark, by rw [hC_NoMark]; exact xI_NoMark, xT_NoMark, FX_NoMark, FX_NoMark.binds fun _ _ _ _ _ _ us hl => match us, hl with | [_, _], _ => rfl, fun _ _ _ _ => .of_eq rfl⟩
    fx_NoNumber := _, fdx_NoNumber := _, x_NoNumber := ⟨by rw [hC_NoNumber]; exact PySem.W.mg_of X G xa_NoNumber, by rw [hC_NoNumber]; exact ⟨⟨_, _, _, _, _, _, _, _, _, _, _, _, _, _, xL_NoNumber⟩, xsa_NoNumber, xe_NoNumber, xt_NoNumber, xk_NoNumber⟩, by rw [hC_NoNumber]; exact xn_NoNumber, by rw [hC_NoNumber]; exact xI_NoNumber, xT_NoNumber, FX_NoNumber, FX_NoNumber.binds fun _ _ _ _ _ _ us hl => match us, hl with | [_, _], _ => rfl, fun _ _ _ _ => .of_eq rfl⟩
    fx_NoRow := _, fdx_NoRow := _, x_NoRow := ⟨by rw [hC_NoRow]; exact PySem.W.mg_of X G xa_NoRow, by rw [hC_NoRow]; exact ⟨⟨_, _, _, _, _, _, _, _, _, _, _, _, _, _, xL_NoRow⟩, xsa_NoRow, xe_NoRow, xt_NoRow, xk_NoRow⟩, by rw [hC_NoRow]; exact xn_NoRow, by rw [hC_NoRow]; exact xI_NoRow, xT_NoRow, FX_NoRow, FX_NoRow.binds fun _ _ _ _ _ _ us hl => match us, hl with | [_, _], _ => rfl, fun _ _ _ _ => .of_eq rfl⟩
    fx_NoText := _, fdx_NoText := _, x_NoText := ⟨by rw [hC_NoText]; exact PySem.W.mg_of X G xa_NoText, by rw [hC_NoText]; exact ⟨⟨_, _, _, _, _, _, _, _, _, _, _, _, _, _, xL_NoText⟩, xsa_NoText, xe_NoText, xt_NoText, xk_NoText⟩, by rw [hC_NoText]; exact xn_NoText, by rw [hC_NoText]; exact xI_NoText, xT_NoText, FX_NoText, FX_NoText.binds fun _ _ _ _ _ _ us hl => match us, hl with | [_, _], _ => rfl, fun _ _ _ _ => .of_eq rfl⟩
    x_NoTurn := ⟨by rw [hC_NoTurn]; exact PySem.W.mg_of X G xa_NoTurn, by rw [hC_NoTurn]; exact xq_NoTurn, by rw [hC_NoTurn]; exact xk_NoTurn, by rw [hC_NoTurn]; exact xe_NoTurn, by rw [hC_NoTurn]; exact xt_NoTurn⟩
    fx_NoTurned := _, fdx_NoTurned := _, x_NoTurned := ⟨by rw [hC_NoTurned]; exact PySem.W.mg_of X G xa_NoTurned, by rw [hC_NoTurned]; exact ⟨⟨_, _, _, _, _, _, _, _, _, _, _, _, _, _, xL_NoTurned⟩, xsa_NoTurned, xe_NoTurned, xt_NoTurned, xk_NoTurned⟩, by rw [hC_NoTurned]; exact xn_NoTurned, by rw [hC_NoTurned]; exact xI_NoTurned, xT_NoTurned, FX_NoTurned, FX_NoTurned.binds fun _ _ _ _ _ _ us hl => match us, hl with | [_, _], _ => rfl, fun _ _ _ _ => .of_eq rfl⟩
    fx_TooMany := _, fdx_TooMany := _, x_TooMany := ⟨by rw [hC_TooMany]; exact PySem.W.mg_of X G xa_TooMany, by rw [hC_TooMany]; exact ⟨⟨_, _, _, _, _, _, _, _, _, _, _, _, _, _, xL_TooMany⟩, xsa_TooMany, xe_TooMany, xt_TooMany, xk_TooMany⟩, by rw [hC_TooMany]; exact xn_TooMany, by rw [hC_TooMany]; exact xI_TooMany, xT_TooMany, FX_TooMany, FX_TooMany.binds fun _ _ _ _ _ _ us hl => match us, hl with | [_, _], _ => rfl, fun _ _ _ _ => .of_eq rfl⟩
    ti := ⟨fun n m b h => hto _ (tabO_at h), fun n m b h => htb _ (tabB_at h)⟩
    fl_hand := (List.forall_mem_cons.mpr ⟨(by (try dsimp only); exact ⟨Y_NoNumber, by rw [hC_NoNumber]; exact xn_NoNumber⟩), (List.forall_mem_cons.mpr ⟨(by (try dsimp only); exact ⟨Y_NoCoin, by rw [hC_NoCoin]; exact xn_NoCoin⟩), (List.forall_mem_cons.mpr ⟨(by (try dsimp only); exact ⟨Y_NoGiven, by rw [hC_NoGiven]; exact xn_NoGiven⟩), (fun e z => by cases z)⟩)⟩)⟩)
    fl_most := (List.forall_mem_cons.mpr ⟨(by (try dsimp only); exact ⟨Y_TooMany, by rw [hC_TooMany]; exact xn_TooMany⟩), (fun e z => by cases z)⟩)
    fl_number := (List.forall_mem_cons.mpr ⟨(by (try dsimp only); exact ⟨Y_NoMark, by rw [hC_NoMark]; exact xn_NoMark⟩), (List.forall_mem_cons.mpr ⟨(by (try dsimp only); exact ⟨Y_NoRow, by rw [hC_NoRow]; exact xn_NoRow⟩), (fun e z => by cases z)⟩)⟩)
    fl_place := (List.forall_mem_cons.mpr ⟨(by (try dsimp only); exact ⟨Y_NoCurve, by rw [hC_NoCurve]; exact xn_NoCurve⟩), (fun e z => by cases z)⟩)
    fl_prime := (List.forall_mem_cons.mpr ⟨(by (try dsimp only); exact ⟨Y_NoTurned, by rw [hC_NoTurned]; exact xn_NoTurned⟩), (fun e z => by cases z)⟩)
    fl_step := (List.forall_mem_cons.mpr ⟨(by (try dsimp only); exact ⟨Y_NoLetter, by rw [hC_NoLetter]; exact xn_NoLetter⟩), (fun e z => by cases z)⟩)
    fl_why := (List.forall_mem_cons.mpr ⟨(by (try dsimp only); exact ⟨Y_NoText, by rw [hC_NoText]; exact xn_NoText⟩), (fun e z => by cases z)⟩)
    m_IndexError := (PySem.W.mg_none_of X G z_IndexError)
    m_KeyError := (PySem.W.mg_none_of X G z_KeyError)
    m_LookupError := (PySem.W.mg_none_of X G z_LookupError)
    m_NotImplementedError := (PySem.W.mg_none_of X G z_NotImplementedError)
    m_OverflowError := (PySem.W.mg_none_of X G z_OverflowError)
    m_RuntimeError := (PySem.W.mg_none_of X G z_RuntimeError)
    m_ValueError := (PySem.W.mg_none_of X G z_ValueError)
    m_ZeroDivisionError := (PySem.W.mg_none_of X G z_ZeroDivisionError)
    m_enumerate := (PySem.W.mg_none_of X G z_enumerate)
    m_isinstance := (PySem.W.mg_none_of X G z_isinstance)
    m_len := (PySem.W.mg_none_of X G z_len)
    m_list := (PySem.W.mg_none_of X G z_list)
    m_max := (PySem.W.mg_none_of X G z_max)
    m_min := (PySem.W.mg_none_of X G z_min)
    m_range := (PySem.W.mg_none_of X G z_range)
    m_repr := (PySem.W.mg_none_of X G z_repr)
    m_tuple := (PySem.W.mg_none_of X G z_tuple)
    f_law_all_made := _, fd_law_all_made := _, F_law_all_made := F0, m_law_all_made := (PySem.W.mg_of X G a0), b_law_all_made := (F0.binds fun _ _ _ _ _ _ us hl => match us, hl with | [_, _], _ => rfl)
    f_law_fresh := _, fd_law_fresh := _, F_law_fresh := F1, m_law_fresh := (PySem.W.mg_of X G a1), b_law_fresh := (F1.binds fun _ _ _ _ _ _ us hl => match us, hl with | [_], _ => rfl)
    f_law_draw := _, fd_law_draw := _, F_law_draw := F2, m_law_draw := (PySem.W.mg_of X G a2), b_law_draw := (F2.binds fun _ _ _ _ _ _ us hl => match us, hl with | [_, _], _ => rfl)
    f_law_kinds := _, fd_law_kinds := _, F_law_kinds := F3, m_law_kinds := (PySem.W.mg_of X G a3), b_law_kinds := (F3.binds fun _ _ _ _ _ _ us hl => match us, hl with | [_], _ => rfl)
    f_law_pen := _, fd_law_pen := _, F_law_pen := F4, m_law_pen := (PySem.W.mg_of X G a4), b_law_pen := (F4.binds fun _ _ _ _ _ _ us hl => match us, hl with | [_], _ => rfl)
    f_law_under := _, fd_law_under := _, F_law_under := F5, m_law_under := (PySem.W.mg_of X G a5), b_law_under := (F5.binds fun _ _ _ _ _ _ us hl => match us, hl with | [_], _ => rfl) }
  exact ⟨_, fun s v => .of_eq rfl, fun base _ _ => ok_law T F6⟩
end Law
open PySem PySem.W PyProof.Rows
set_option maxHeartbeats 0 in
theorem PySem.Challenge.cw_mutehands_k06_what_is_refused_holds : PySem.Challenge.rw_mutehands_k06_what_is_refused.Holds := by
  w_on; o_law; k_head; (case hw => w_witness2)
  k_fill
  refine FL.walk_F (l := PySem.Challenge.rw_mutehands_k06_what_is_refused) (x := "_law_script") (lv := 4) rfl rfl ⟨rfl, by decide, by decide⟩ (fun w h Y => PySem.W.kIn_of Y) ?F Law.law_ok
  case F =>
    intro w mg fa h KX G hmg
    refine' Law.all_mk KX G hmg ?a0 ?l0 ?c0 ?k0 ?a1 ?l1 ?c1 ?k1 ?a2 ?l2 ?c2 ?k2 ?a3 ?l3 ?c3 ?k3 ?a4 ?l4 ?c4 ?k4 ?a5 ?l5 ?c5 ?k5 ?a6 ?l6 ?c6 ?k6 ?z_IndexError ?z_KeyError ?z_LookupError ?z_NotImplementedError ?z_OverflowError ?z_RuntimeError ?z_ValueError ?z_ZeroDivisionError ?z_enumerate ?z_isinstance ?z_len ?z_list ?z_max ?z_min ?z_range ?z_repr ?z_tuple ?xa_NoCoin ?xe_NoCoin ?xt_NoCoin ?xi_NoCoin ?xs_NoCoin ?xa_NoCurve ?xe_NoCurve ?xt_NoCurve ?xi_NoCurve ?xs_NoCurve ?xa_NoGiven ?xe_NoGiven ?xt_NoGiven ?xi_NoGiven ?xs_NoGiven ?xa_NoLetter ?xe_NoLetter ?xt_NoLetter ?xi_NoLetter ?xs_NoLetter ?xa_NoMark ?xe_NoMark ?xt_NoMark ?xi_NoMark ?xs_NoMark ?xa_NoNumber ?xe_NoNumber ?xt_NoNumber ?xi_NoNumber ?xs_NoNumber ?xa_NoRow ?xe_NoRow ?xt_NoRow ?xi_NoRow ?xs_NoRow ?xa_NoText ?xe_NoText ?xt_NoText ?xi_NoText ?xs_NoText ?xa_NoTurn ?xe_NoTurn ?xt_NoTurn ?xi_NoTurn ?xs_NoTurn ?xa_NoTurned ?xe_NoTurned ?xt_NoTurned ?xi_NoTurned ?xs_NoTurned ?xa_TooMany ?xe_TooMany ?xt_TooMany ?xi_TooMany ?xs_TooMany ?xL_NoCoin ?xsa_NoCoin ?xk_NoCoin ?xn_NoCoin ?xI_NoCoin ?xT_NoCoin ?xl_NoCoin ?xc_NoCoin ?xK_NoCoin ?xL_NoCurve ?xsa_NoCurve ?xk_NoCurve ?xn_NoCurve ?xI_NoCurve ?xT_NoCurve ?xl_NoCurve ?xc_NoCurve ?xK_NoCurve ?xL_NoGiven ?xsa_NoGiven ?xk_NoGiven ?xn_NoGiven ?xI_NoGiven ?xT_NoGiven ?xl_NoGiven ?xc_NoGiven ?xK_NoGiven ?xL_NoLetter ?xsa_NoLetter ?xk_NoLetter ?xn_NoLetter ?xI_NoLetter ?xT_NoLetter ?xl_NoLetter ?xc_NoLetter ?xK_NoLetter ?xL_NoMark ?xsa_NoMark ?xk_NoMark ?xn_NoMark ?xI_NoMark ?xT_NoMark ?xl_NoMark ?xc_NoMark ?xK_NoMark ?xL_NoNumber ?xsa_NoNumber ?xk_NoNumber ?xn_NoNumber ?xI_NoNumber ?xT_NoNumber ?xl_NoNumber ?xc_NoNumber ?xK_NoNumber ?xL_NoRow ?xsa_NoRow ?xk_NoRow ?xn_NoRow ?xI_NoRow ?xT_NoRow ?xl_NoRow ?xc_NoRow ?xK_NoRow ?xL_NoText ?xsa_NoText ?xk_NoText ?xn_NoText ?xI_NoText ?xT_NoText ?xl_NoText ?xc_NoText ?xK_NoText ?xq_NoTurn ?xk_NoTurn ?xL_NoTurned ?xsa_NoTurned ?xk_NoTurned ?xn_NoTurned ?xI_NoTurned ?xT_NoTurned ?xl_NoTurned ?xc_NoTurned ?xK_NoTurned ?xL_TooMany ?xsa_TooMany ?xk_TooMany ?xn_TooMany ?xI_TooMany ?xT_TooMany ?xl_TooMany ?xc_TooMany ?xK_TooMany ?yg_NoCoin ?yh_NoCoin ?yd_NoCoin ?yc_NoCoin ?ym_NoCoin ?yg_NoCurve ?yh_NoCurve ?yd_NoCurve ?yc_NoCurve ?ym_NoCurve ?yg_NoGiven ?yh_NoGiven ?yd_NoGiven ?yc_NoGiven ?ym_NoGiven ?yg_NoLetter ?yh_NoLetter ?yd_NoLetter ?yc_NoLetter ?ym_NoLetter ?yg_NoMark ?yh_NoMark ?yd_NoMark ?yc_NoMark ?ym_NoMark ?yg_NoNumber ?yh_NoNumber ?yd_NoNumber ?yc_NoNumber ?ym_NoNumber ?yg_NoRow ?yh_NoRow ?yd_NoRow ?yc_NoRow ?ym_NoRow ?yg_NoText ?yh_NoText ?yd_NoText ?yc_NoText ?ym_NoText ?yg_NoTurn ?yh_NoTurn ?yd_NoTurn ?yc_NoTurn ?ym_NoTurn ?yg_NoTurned ?yh_NoTurned ?yd_NoTurned ?yc_NoTurned ?ym_NoTurned ?yg_TooMany ?yh_TooMany ?yd_TooMany ?yc_TooMany ?ym_TooMany ?yn ?yt ?xx_NoCoin_NoCurve ?xx_NoCoin_NoGiven ?xx_NoCoin_NoLetter ?xx_NoCoin_NoMark ?xx_NoCoin_NoNumber ?xx_NoCoin_NoRow ?xx_NoCoin_NoText ?xx_NoCoin_NoTurn ?xx_NoCoin_NoTurned ?xx_NoCoin_TooMany ?xb_NoCoin_IndexError ?xb_NoCoin_KeyError ?xb_NoCoin_LookupError ?xb_NoCoin_NotImplementedError ?xb_NoCoin_OverflowError ?xb_NoCoin_RuntimeError ?xb_NoCoin_ValueError ?xb_NoCoin_ZeroDivisionError ?xx_NoCurve_NoCoin ?xx_NoCurve_NoGiven ?xx_NoCurve_NoLetter ?xx_NoCurve_NoMark ?xx_NoCurve_NoNumber ?xx_NoCurve_NoRow ?xx_NoCurve_NoText ?xx_NoCurve_NoTurn ?xx_NoCurve_NoTurned ?xx_NoCurve_TooMany ?xb_NoCurve_IndexError ?xb_NoCurve_KeyError ?xb_NoCurve_LookupError ?xb_NoCurve_NotImplementedError ?xb_NoCurve_OverflowError ?xb_NoCurve_RuntimeError ?xb_NoCurve_ValueError ?xb_NoCurve_ZeroDivisionError ?xx_NoGiven_NoCoin ?xx_NoGiven_NoCurve ?xx_NoGiven_NoLetter ?xx_NoGiven_NoMark ?xx_NoGiven_NoNumber ?xx_NoGiven_NoRow ?xx_NoGiven_NoText ?xx_NoGiven_NoTurn ?xx_NoGiven_NoTurned ?xx_NoGiven_TooMany ?xb_NoGiven_IndexError ?xb_NoGiven_KeyError ?xb_NoGiven_LookupError ?xb_NoGiven_NotImplementedError ?xb_NoGiven_OverflowError ?xb_NoGiven_RuntimeError ?xb_NoGiven_ValueError ?xb_NoGiven_ZeroDivisionError ?xx_NoLetter_NoCoin ?xx_NoLetter_NoCurve ?xx_NoLetter_NoGiven ?xx_NoLetter_NoMark ?xx_NoLetter_NoNumber ?xx_NoLetter_NoRow ?xx_NoLetter_NoText ?xx_NoLetter_NoTurn ?xx_NoLetter_NoTurned ?xx_NoLetter_TooMany ?xb_NoLetter_IndexError ?xb_NoLetter_KeyError ?xb_NoLetter_LookupError ?xb_NoLetter_NotImplementedError ?xb_NoLetter_OverflowError ?xb_NoLetter_RuntimeError ?xb_NoLetter_ValueError ?xb_NoLetter_ZeroDivisionError ?xx_NoMark_NoCoin ?xx_NoMark_NoCurve ?xx_NoMark_NoGiven ?xx_NoMark_NoLetter ?xx_NoMark_NoNumber ?xx_NoMark_NoRow ?xx_NoMark_NoText ?xx_NoMark_NoTurn ?xx_NoMark_NoTurned ?xx_NoMark_TooMany ?xb_NoMark_IndexError ?xb_NoMark_KeyError ?xb_NoMark_LookupError ?xb_NoMark_NotImplementedError ?xb_NoMark_OverflowError ?xb_NoMark_RuntimeError ?xb_NoMark_ValueError ?xb_NoMark_ZeroDivisionError ?xx_NoNumber_NoCoin ?xx_NoNumber_NoCurve ?xx_NoNumber_NoGiven ?xx_NoNumber_NoLetter ?xx_NoNumber_NoMark ?xx_NoNumber_NoRow ?xx_NoNumber_NoText ?xx_NoNumber_NoTurn ?xx_NoNumber_NoTurned ?xx_NoNumber_TooMany ?xb_NoNumber_IndexError ?xb_NoNumber_KeyError ?xb_NoNumber_LookupError ?xb_NoNumber_NotImplementedError ?xb_NoNumber_OverflowError ?xb_NoNumber_RuntimeError ?xb_NoNumber_ValueError ?xb_NoNumber_ZeroDivisionError ?xx_NoRow_NoCoin ?xx_NoRow_NoCurve ?xx_NoRow_NoGiven ?xx_NoRow_NoLetter ?xx_NoRow_NoMark ?xx_NoRow_NoNumber ?xx_NoRow_NoText ?xx_NoRow_NoTurn ?xx_NoRow_NoTurned ?xx_NoRow_TooMany ?xb_NoRow_IndexError ?xb_NoRow_KeyError ?xb_NoRow_LookupError ?xb_NoRow_NotImplementedError ?xb_NoRow_OverflowError ?xb_NoRow_RuntimeError ?xb_NoRow_ValueError ?xb_NoRow_ZeroDivisionError ?xx_NoText_NoCoin ?xx_NoText_NoCurve ?xx_NoText_NoGiven ?xx_NoText_NoLetter ?xx_NoText_NoMark ?xx_NoText_NoNumber ?xx_NoText_NoRow ?xx_NoText_NoTurn ?xx_NoText_NoTurned ?xx_NoText_TooMany ?xb_NoText_IndexError ?xb_NoText_KeyError ?xb_NoText_LookupError ?xb_NoText_NotImplementedError ?xb_NoText_OverflowError ?xb_NoText_RuntimeError ?xb_NoText_ValueError ?xb_NoText_ZeroDivisionError ?xx_NoTurn_NoCoin ?xx_NoTurn_NoCurve ?xx_NoTurn_NoGiven ?xx_NoTurn_NoLetter ?xx_NoTurn_NoMark ?xx_NoTurn_NoNumber ?xx_NoTurn_NoRow ?xx_NoTurn_NoText ?xx_NoTurn_NoTurned ?xx_NoTurn_TooMany ?xb_NoTurn_IndexError ?xb_NoTurn_KeyError ?xb_NoTurn_LookupError ?xb_NoTurn_NotImplementedError ?xb_NoTurn_OverflowError ?xb_NoTurn_RuntimeError ?xb_NoTurn_ValueError ?xb_NoTurn_ZeroDivisionError ?xx_NoTurned_NoCoin ?xx_NoTurned_NoCurve ?xx_NoTurned_NoGiven ?xx_NoTurned_NoLetter ?xx_NoTurned_NoMark ?xx_NoTurned_NoNumber ?xx_NoTurned_NoRow ?xx_NoTurned_NoText ?xx_NoTurned_NoTurn ?xx_NoTurned_TooMany ?xb_NoTurned_IndexError ?xb_NoTurned_KeyError ?xb_NoTurned_LookupError ?xb_NoTurned_NotImplementedError ?xb_NoTurned_OverflowError ?xb_NoTurned_RuntimeError ?xb_NoTurned_ValueError ?xb_NoTurned_ZeroDivisionError ?xx_TooMany_NoCoin ?xx_TooMany_NoCurve ?xx_TooMany_NoGiven ?xx_TooMany_NoLetter ?xx_TooMany_NoMark ?xx_TooMany_NoNumber ?xx_TooMany_NoRow ?xx_TooMany_NoText ?xx_TooMany_NoTurn ?xx_TooMany_NoTurned ?xb_TooMany_IndexError ?xb_TooMany_KeyError ?xb_TooMany_LookupError ?xb_TooMany_NotImplementedError ?xb_TooMany_OverflowError ?xb_TooMany_RuntimeError ?xb_TooMany_ValueError ?xb_TooMany_ZeroDivisionError ?xv_IndexError ?xv_KeyError ?xv_LookupError ?xv_OverflowError ?xv_ValueError ?xv_ZeroDivisionError
    (case a0 => k_is); (case l0 => k_is); (case c0 => k_is); (case k0 => k_is); (case a1 => k_is); (case l1 => k_is); (case c1 => k_is); (case k1 => k_is); (case a2 => k_is); (case l2 => k_is); (case c2 => k_is); (case k2 => k_is); (case a3 => k_is); (case l3 => k_is); (case c3 => k_is); (case k3 => k_is); (case a4 => k_is); (case l4 => k_is); (case c4 => k_is); (case k4 => k_is); (case a5 => k_is); (case l5 => k_is); (case c5 => k_is); (case k5 => k_is); (case a6 => k_is); (case l6 => k_is); (case c6 => k_is); (case k6 => k_is); (case z_IndexError => k_is); (case z_KeyError => k_is); (case z_LookupError => k_is); (case z_NotImplementedError => k_is); (case z_OverflowError => k_is); (case z_RuntimeError => k_is); (case z_ValueError => k_is); (case z_ZeroDivisionError => k_is); (case z_enumerate => k_is); (case z_isinstance => k_is); (case z_len => k_is); (case z_list => k_is); (case z_max => k_is); (case z_min => k_is); (case z_range => k_is); (case z_repr => k_is); (case z_tuple => k_is); (case xa_NoCoin => k_is); (case xe_NoCoin => k_is); (case xt_NoCoin => k_is); (case xi_NoCoin => k_is); (case xs_NoCoin => k_is); (case xa_NoCurve => k_is); (case xe_NoCurve => k_is); (case xt_NoCurve => k_is); (case xi_NoCurve => k_is); (case xs_NoCurve => k_is); (case xa_NoGiven => k_is); (case xe_NoGiven => k_is); (case xt_NoGiven => k_is); (case xi_NoGiven => k_is); (case xs_NoGiven => k_is); (case xa_NoLetter => k_is); (case xe_NoLetter => k_is); (case xt_NoLetter => k_is); (case xi_NoLetter => k_is); (case xs_NoLetter => k_is); (case xa_NoMark => k_is); (case xe_NoMark => k_is); (case xt_NoMark => k_is); (case xi_NoMark => k_is); (case xs_NoMark => k_is); (case xa_NoNumber => k_is); (case xe_NoNumber => k_is); (case xt_NoNumber => k_is); (case xi_NoNumber => k_is); (case xs_NoNumber => k_is); (case xa_NoRow => k_is); (case xe_NoRow => k_is); (case xt_NoRow => k_is); (case xi_NoRow => k_is); (case xs_NoRow => k_is); (case xa_NoText => k_is); (case xe_NoText => k_is); (case xt_NoText => k_is); (case xi_NoText => k_is); (case xs_NoText => k_is); (case xa_NoTurn => k_is); (case xe_NoTurn => k_is); (case xt_NoTurn => k_is); (case xi_NoTurn => k_is); (case xs_NoTurn => k_is); (case xa_NoTurned => k_is); (case xe_NoTurned => k_is); (case xt_NoTurned => k_is); (case xi_NoTurned => k_is); (case xs_NoTurned => k_is); (case xa_TooMany => k_is); (case xe_TooMany => k_is); (case xt_TooMany => k_is); (case xi_TooMany => k_is); (case xs_TooMany => k_is); (case xL_NoCoin => k_is); (case xsa_NoCoin => k_is); (case xk_NoCoin => k_is); (case xn_NoCoin => k_is); (case xI_NoCoin => k_is); (case xT_NoCoin => k_is); (case xl_NoCoin => k_is); (case xc_NoCoin => k_is); (case xK_NoCoin => k_is); (case xL_NoCurve => k_is); (case xsa_NoCurve => k_is); (case xk_NoCurve => k_is); (case xn_NoCurve => k_is); (case xI_NoCurve => k_is); (case xT_NoCurve => k_is); (case xl_NoCurve => k_is); (case xc_NoCurve => k_is); (case xK_NoCurve => k_is); (case xL_NoGiven => k_is); (case xsa_NoGiven => k_is); (case xk_NoGiven => k_is); (case xn_NoGiven => k_is); (case xI_NoGiven => k_is); (case xT_NoGiven => k_is); (case xl_NoGiven => k_is); (case xc_NoGiven => k_is); (case xK_NoGiven => k_is); (case xL_NoLetter => k_is); (case xsa_NoLetter => k_is); (case xk_NoLetter => k_is); (case xn_NoLetter => k_is); (case xI_NoLetter => k_is); (case xT_NoLetter => k_is); (case xl_NoLetter => k_is); (case xc_NoLetter => k_is); (case xK_NoLetter => k_is); (case xL_NoMark => k_is); (case xsa_NoMark => k_is); (case xk_NoMark => k_is); (case xn_NoMark => k_is); (case xI_NoMark => k_is); (case xT_NoMark => k_is); (case xl_NoMark => k_is); (case xc_NoMark => k_is); (case xK_NoMark => k_is); (case xL_NoNumber => k_is); (case xsa_NoNumber => k_is); (case xk_NoNumber => k_is); (case xn_NoNumber => k_is); (case xI_NoNumber => k_is); (case xT_NoNumber => k_is); (case xl_NoNumber => k_is); (case xc_NoNumber => k_is); (case xK_NoNumber => k_is); (case xL_NoRow => k_is); (case xsa_NoRow => k_is); (case xk_NoRow => k_is); (case xn_NoRow => k_is); (case xI_NoRow => k_is); (case xT_NoRow => k_is); (case xl_NoRow => k_is); (case xc_NoRow => k_is); (case xK_NoRow => k_is); (case xL_NoText => k_is); (case xsa_NoText => k_is); (case xk_NoText => k_is); (case xn_NoText => k_is); (case xI_NoText => k_is); (case xT_NoText => k_is); (case xl_NoText => k_is); (case xc_NoText => k_is); (case xK_NoText => k_is); (case xq_NoTurn => k_exc); (case xk_NoTurn => k_is); (case xL_NoTurned => k_is); (case xsa_NoTurned => k_is); (case xk_NoTurned => k_is); (case xn_NoTurned => k_is); (case xI_NoTurned => k_is); (case xT_NoTurned => k_is); (case xl_NoTurned => k_is); (case xc_NoTurned => k_is); (case xK_NoTurned => k_is); (case xL_TooMany => k_is); (case xsa_TooMany => k_is); (case xk_TooMany => k_is); (case xn_TooMany => k_is); (case xI_TooMany => k_is); (case xT_TooMany => k_is); (case xl_TooMany => k_is); (case xc_TooMany => k_is); (case xK_TooMany => k_is); (case yg_NoCoin => k_is); (case yh_NoCoin => k_is); (case yd_NoCoin => k_is); (case yc_NoCoin => k_is); (case ym_NoCoin => k_is); (case yg_NoCurve => k_is); (case yh_NoCurve => k_is); (case yd_NoCurve => k_is); (case yc_NoCurve => k_is); (case ym_NoCurve => k_is); (case yg_NoGiven => k_is); (case yh_NoGiven => k_is); (case yd_NoGiven => k_is); (case yc_NoGiven => k_is); (case ym_NoGiven => k_is); (case yg_NoLetter => k_is); (case yh_NoLetter => k_is); (case yd_NoLetter => k_is); (case yc_NoLetter => k_is); (case ym_NoLetter => k_is); (case yg_NoMark => k_is); (case yh_NoMark => k_is); (case yd_NoMark => k_is); (case yc_NoMark => k_is); (case ym_NoMark => k_is); (case yg_NoNumber => k_is); (case yh_NoNumber => k_is); (case yd_NoNumber => k_is); (case yc_NoNumber => k_is); (case ym_NoNumber => k_is); (case yg_NoRow => k_is); (case yh_NoRow => k_is); (case yd_NoRow => k_is); (case yc_NoRow => k_is); (case ym_NoRow => k_is); (case yg_NoText => k_is); (case yh_NoText => k_is); (case yd_NoText => k_is); (case yc_NoText => k_is); (case ym_NoText => k_is); (case yg_NoTurn => k_is); (case yh_NoTurn => k_is); (case yd_NoTurn => k_is); (case yc_NoTurn => k_is); (case ym_NoTurn => k_is); (case yg_NoTurned => k_is); (case yh_NoTurned => k_is); (case yd_NoTurned => k_is); (case yc_NoTurned => k_is); (case ym_NoTurned => k_is); (case yg_TooMany => k_is); (case yh_TooMany => k_is); (case yd_TooMany => k_is); (case yc_TooMany => k_is); (case ym_TooMany => k_is); (case yn => k_is); (case yt => k_is); (case xx_NoCoin_NoCurve => k_is); (case xx_NoCoin_NoGiven => k_is); (case xx_NoCoin_NoLetter => k_is); (case xx_NoCoin_NoMark => k_is); (case xx_NoCoin_NoNumber => k_is); (case xx_NoCoin_NoRow => k_is); (case xx_NoCoin_NoText => k_is); (case xx_NoCoin_NoTurn => k_is); (case xx_NoCoin_NoTurned => k_is); (case xx_NoCoin_TooMany => k_is); (case xb_NoCoin_IndexError => k_is); (case xb_NoCoin_KeyError => k_is); (case xb_NoCoin_LookupError => k_is); (case xb_NoCoin_NotImplementedError => k_is); (case xb_NoCoin_OverflowError => k_is); (case xb_NoCoin_RuntimeError => k_is); (case xb_NoCoin_ValueError => k_is); (case xb_NoCoin_ZeroDivisionError => k_is); (case xx_NoCurve_NoCoin => k_is); (case xx_NoCurve_NoGiven => k_is); (case xx_NoCurve_NoLetter => k_is); (case xx_NoCurve_NoMark => k_is); (case xx_NoCurve_NoNumber => k_is); (case xx_NoCurve_NoRow => k_is); (case xx_NoCurve_NoText => k_is); (case xx_NoCurve_NoTurn => k_is); (case xx_NoCurve_NoTurned => k_is); (case xx_NoCurve_TooMany => k_is); (case xb_NoCurve_IndexError => k_is); (case xb_NoCurve_KeyError => k_is); (case xb_NoCurve_LookupError => k_is); (case xb_NoCurve_NotImplementedError => k_is); (case xb_NoCurve_OverflowError => k_is); (case xb_NoCurve_RuntimeError => k_is); (case xb_NoCurve_ValueError => k_is); (case xb_NoCurve_ZeroDivisionError => k_is); (case xx_NoGiven_NoCoin => k_is); (case xx_NoGiven_NoCurve => k_is); (case xx_NoGiven_NoLetter => k_is); (case xx_NoGiven_NoMark => k_is); (case xx_NoGiven_NoNumber => k_is); (case xx_NoGiven_NoRow => k_is); (case xx_NoGiven_NoText => k_is); (case xx_NoGiven_NoTurn => k_is); (case xx_NoGiven_NoTurned => k_is); (case xx_NoGiven_TooMany => k_is); (case xb_NoGiven_IndexError => k_is); (case xb_NoGiven_KeyError => k_is); (case xb_NoGiven_LookupError => k_is); (case xb_NoGiven_NotImplementedError => k_is); (case xb_NoGiven_OverflowError => k_is); (case xb_NoGiven_RuntimeError => k_is); (case xb_NoGiven_ValueError => k_is); (case xb_NoGiven_ZeroDivisionError => k_is); (case xx_NoLetter_NoCoin => k_is); (case xx_NoLetter_NoCurve => k_is); (case xx_NoLetter_NoGiven => k_is); (case xx_NoLetter_NoMark => k_is); (case xx_NoLetter_NoNumber => k_is); (case xx_NoLetter_NoRow => k_is); (case xx_NoLetter_NoText => k_is); (case xx_NoLetter_NoTurn => k_is); (case xx_NoLetter_NoTurned => k_is); (case xx_NoLetter_TooMany => k_is); (case xb_NoLetter_IndexError => k_is); (case xb_NoLetter_KeyError => k_is); (case xb_NoLetter_LookupError => k_is); (case xb_NoLetter_NotImplementedError => k_is); (case xb_NoLetter_OverflowError => k_is); (case xb_NoLetter_RuntimeError => k_is); (case xb_NoLetter_ValueError => k_is); (case xb_NoLetter_ZeroDivisionError => k_is); (case xx_NoMark_NoCoin => k_is); (case xx_NoMark_NoCurve => k_is); (case xx_NoMark_NoGiven => k_is); (case xx_NoMark_NoLetter => k_is); (case xx_NoMark_NoNumber => k_is); (case xx_NoMark_NoRow => k_is); (case xx_NoMark_NoText => k_is); (case xx_NoMark_NoTurn => k_is); (case xx_NoMark_NoTurned => k_is); (case xx_NoMark_TooMany => k_is); (case xb_NoMark_IndexError => k_is); (case xb_NoMark_KeyError => k_is); (case xb_NoMark_LookupError => k_is); (case xb_NoMark_NotImplementedError => k_is); (case xb_NoMark_OverflowError => k_is); (case xb_NoMark_RuntimeError => k_is); (case xb_NoMark_ValueError => k_is); (case xb_NoMark_ZeroDivisionError => k_is); (case xx_NoNumber_NoCoin => k_is); (case xx_NoNumber_NoCurve => k_is); (case xx_NoNumber_NoGiven => k_is); (case xx_NoNumber_NoLetter => k_is); (case xx_NoNumber_NoMark => k_is); (case xx_NoNumber_NoRow => k_is); (case xx_NoNumber_NoText => k_is); (case xx_NoNumber_NoTurn => k_is); (case xx_NoNumber_NoTurned => k_is); (case xx_NoNumber_TooMany => k_is); (case xb_NoNumber_IndexError => k_is); (case xb_NoNumber_KeyError => k_is); (case xb_NoNumber_LookupError => k_is); (case xb_NoNumber_NotImplementedError => k_is); (case xb_NoNumber_OverflowError => k_is); (case xb_NoNumber_RuntimeError => k_is); (case xb_NoNumber_ValueError => k_is); (case xb_NoNumber_ZeroDivisionError => k_is); (case xx_NoRow_NoCoin => k_is); (case xx_NoRow_NoCurve => k_is); (case xx_NoRow_NoGiven => k_is); (case xx_NoRow_NoLetter => k_is); (case xx_NoRow_NoMark => k_is); (case xx_NoRow_NoNumber => k_is); (case xx_NoRow_NoText => k_is); (case xx_NoRow_NoTurn => k_is); (case xx_NoRow_NoTurned => k_is); (case xx_NoRow_TooMany => k_is); (case xb_NoRow_IndexError => k_is); (case xb_NoRow_KeyError => k_is); (case xb_NoRow_LookupError => k_is); (case xb_NoRow_NotImplementedError => k_is); (case xb_NoRow_OverflowError => k_is); (case xb_NoRow_RuntimeError => k_is); (case xb_NoRow_ValueError => k_is); (case xb_NoRow_ZeroDivisionError => k_is); (case xx_NoText_NoCoin => k_is); (case xx_NoText_NoCurve => k_is); (case xx_NoText_NoGiven => k_is); (case xx_NoText_NoLetter => k_is); (case xx_NoText_NoMark => k_is); (case xx_NoText_NoNumber => k_is); (case xx_NoText_NoRow => k_is); (case xx_NoText_NoTurn => k_is); (case xx_NoText_NoTurned => k_is); (case xx_NoText_TooMany => k_is); (case xb_NoText_IndexError => k_is); (case xb_NoText_KeyError => k_is); (case xb_NoText_LookupError => k_is); (case xb_NoText_NotImplementedError => k_is); (case xb_NoText_OverflowError => k_is); (case xb_NoText_RuntimeError => k_is); (case xb_NoText_ValueError => k_is); (case xb_NoText_ZeroDivisionError => k_is); (case xx_NoTurn_NoCoin => k_is); (case xx_NoTurn_NoCurve => k_is); (case xx_NoTurn_NoGiven => k_is); (case xx_NoTurn_NoLetter => k_is); (case xx_NoTurn_NoMark => k_is); (case xx_NoTurn_NoNumber => k_is); (case xx_NoTurn_NoRow => k_is); (case xx_NoTurn_NoText => k_is); (case xx_NoTurn_NoTurned => k_is); (case xx_NoTurn_TooMany => k_is); (case xb_NoTurn_IndexError => k_is); (case xb_NoTurn_KeyError => k_is); (case xb_NoTurn_LookupError => k_is); (case xb_NoTurn_NotImplementedError => k_is); (case xb_NoTurn_OverflowError => k_is); (case xb_NoTurn_RuntimeError => k_is); (case xb_NoTurn_ValueError => k_is); (case xb_NoTurn_ZeroDivisionError => k_is); (case xx_NoTurned_NoCoin => k_is); (case xx_NoTurned_NoCurve => k_is); (case xx_NoTurned_NoGiven => k_is); (case xx_NoTurned_NoLetter => k_is); (case xx_NoTurned_NoMark => k_is); (case xx_NoTurned_NoNumber => k_is); (case xx_NoTurned_NoRow => k_is); (case xx_NoTurned_NoText => k_is); (case xx_NoTurned_NoTurn => k_is); (case xx_NoTurned_TooMany => k_is); (case xb_NoTurned_IndexError => k_is); (case xb_NoTurned_KeyError => k_is); (case xb_NoTurned_LookupError => k_is); (case xb_NoTurned_NotImplementedError => k_is); (case xb_NoTurned_OverflowError => k_is); (case xb_NoTurned_RuntimeError => k_is); (case xb_NoTurned_ValueError => k_is); (case xb_NoTurned_ZeroDivisionError => k_is); (case xx_TooMany_NoCoin => k_is); (case xx_TooMany_NoCurve => k_is); (case xx_TooMany_NoGiven => k_is); (case xx_TooMany_NoLetter => k_is); (case xx_TooMany_NoMark => k_is); (case xx_TooMany_NoNumber => k_is); (case xx_TooMany_NoRow => k_is); (case xx_TooMany_NoText => k_is); (case xx_TooMany_NoTurn => k_is); (case xx_TooMany_NoTurned => k_is); (case xb_TooMany_IndexError => k_is); (case xb_TooMany_KeyError => k_is); (case xb_TooMany_LookupError => k_is); (case xb_TooMany_NotImplementedError => k_is); (case xb_TooMany_OverflowError => k_is); (case xb_TooMany_RuntimeError => k_is); (case xb_TooMany_ValueError => k_is); (case xb_TooMany_ZeroDivisionError => k_is); (case xv_IndexError => k_is); (case xv_KeyError => k_is); (case xv_LookupError => k_is); (case xv_OverflowError => k_is); (case xv_ValueError => k_is); (case xv_ZeroDivisionError => k_is)
