import PyProof.Rows.All
import Wide.All
import OpenK.AllK
import Wide.FinOn
import HandS.ForMost
import HandS.ForExc
import HandS.Lambda
import HandS.EndTab
import HandS.HeadWalk
import HandS.HeadHook4
import HandS.Head2
import HandS.HeadEnd
import HandS.Flow
import HandS.Wide
import HandS.ListEq
import HandS.ExcIs
import HandS.ExcField
import HandS.RaiseMore
import HandS.Gcd
import HandS.AnyAll
import HandS.IsInst
import HandS.Conv
import HandS.SortKw
import HandS.Defaults
import PyProof.ReprRoads
import HandS.TupAny
import HandS.CallSlots
import HandS.Walk
import HandS.Small
import HandS.SortInts
import KE.KExcSuper
import KE.KExcIs
import HandS.Dict
import HandS.Flt
import HandS.TupLe
import HandS.Style
import HandS.ExcValue
import HandS.Star
import KE.KMathG
import Flt.RightSqrt
import HandS.DictComp
import HandS.SetFor
import HandS.Strs
import KE.GoesEnum
import HandS.List
import HandS.TupMul
import PySem.Challenge.RW_everyframe_k40_whole_rates_that_show_a_w
import HandS.Head3
set_option Elab.async false
set_option linter.all false
set_option maxRecDepth 100000
set_option maxHeartbeats 2000000
/-! THE DATA LAYER: readings over pure data, no address in them. -/
namespace DL
open PySem PySem.Spec PyProof.Rows L2

/-! ### data -/
/-- a lambda's text: its qualified name, its parameters, its expression, its scope, the names that it holds -/
structure LamSite where
  q : Str
  params : Arguments
  body : PySem.Expr
  scope : Scope
  ns : List Str
/-- what a held name's cell says -/
def CellsAt (F : Hp) (cl : List (Str × Addr)) (ns : List Str) (vs : List V) : Prop := ∀ (j : Nat) (n : Str) (v : V), ns[j]? = some n → vs[j]? = some v → ∃ (c : Addr) (o : Obj) (u : Value), cl.lookup n = some c ∧ F c = some (.frz o (.own c)) ∧ o.data = .cell (some u) ∧ RelV v u
/-- the closure: every cell is held, no two names have one -/
structure CloAt (F : Hp) (L : LamSite) (cl : List (Str × Addr)) : Prop where
  held : ∀ y c, cl.lookup y = some c → ∃ (o : Obj) (u : Option Value), F c = some (.frz o (.own c)) ∧ o.data = .cell u
  inj : ∀ x y c, cl.lookup x = some c → cl.lookup y = some c → x = y
  has : ∀ y, L.scope.names.lookup y = some .free → ∃ c, cl.lookup y = some c
inductive D where
  | non | bl (b : Bool) | int (i : Int) | str (x : Str)
  | lst (xs : List D) | tup (xs : List D) | dic (kvs : List (Key × D))
  /-- an error: its class's name, its field -/
  | exc (x : Str) (f : Option (Str × D))
  /-- a def of the module, by name -/
  | fn (x : Str)
  /-- the script -/
  | scr (ns : List Int)
  /-- a built-in class -/
  | ty (n : String)
  /-- a lambda and what it holds -/
  | lam (L : LamSite) (cs : List D)
  /-- a lambda of the frame that runs: its text, the frame's cells -/
  | clo (L : LamSite) (κ : List (Str × Addr))

abbrev Mg := Str → Option Value
/-- the object of a caught error -/
def ExcO (a C : Addr) (dd : Option Addr) : HO := .ext fun h => ∃ (oe : Obj) (vs : Array Value), h.get? a = some oe ∧ oe.cls = .ref C ∧ oe.dict = dd ∧ oe.data = .fields vs
def Fx (F F' : Hp) : Prop := ∀ b o, F b = some o → F' b = some o
theorem Fx.refl (F : Hp) : Fx F F := fun _ _ h => h
theorem Fx.trans {F F1 F2 : Hp} (a : Fx F F1) (b : Fx F1 F2) : Fx F F2 := fun c o h => b c o (a c o h)
theorem Fx.new {F : Hp} {p : Addr} {o : HO} (h : F p = none) : Fx F (upd F p o) := fun b u e => by
  rw [upd_ne (ne_of_none e h)]
  exact e
theorem Fx.sqt {K : PySem.W.Frag} {F F' : Hp} {a : Addr} {xs : List V} (e : Fx F F') (h : SqT K F a xs) : SqT K F' a xs := by
  rcases h with (h | ⟨o, h⟩) | h
  · exact .inl (.inl (e _ _ h))
  · exact .inl (.inr ⟨o, e _ _ h⟩)
  · exact .inr h
theorem Fx.sql {K : PySem.W.Frag} {F F' : Hp} {a : Addr} {xs : List V} (e : Fx F F') (h : SqL K F a xs) : SqL K F' a xs := by
  rcases h with (h | ⟨o, h⟩) | h
  · exact .inl (.inl (e _ _ h))
  · exact .inl (.inr ⟨o, e _ _ h⟩)
  · exact .inr h

mutual
/-- the value v, in the frozen heap F, is the datum -/
inductive Rp (K : PySem.W.Frag) (mg : Mg) (F : Hp) : V → D → Prop
  | non : Rp K mg F .non .non
  | bl (b : Bool) : Rp K mg F (.bl b) (.bl b)
  | int (i : Int) : Rp K mg F (.int i) (.int i)
  | str (x : Str) : Rp K mg F (.str x) (.str x)
  | lst {a : Addr} {xs : List V} {ds : List D} : F a = some (.lst xs) → RpL K mg F xs ds → Rp K mg F (.ref a) (.lst ds)
  | tup {a : Addr} {xs : List V} {ds : List D} : SqT K F a xs → RpL K mg F xs ds → Rp K mg F (.ref a) (.tup ds)
  | dic {a : Addr} {ks : List (Key × V)} {ds : List (Key × D)} : F a = some (.dK ks) → RpK K mg F ks ds → Rp K mg F (.ref a) (.dic ds)
  | exc0 {a C : Addr} {x : Str} : mg x = some (.ref C) → F a = some (ExcO a C none) → Rp K mg F (.ref a) (.exc x none)
  | exc {a C dd : Addr} {x f : Str} {v : V} {d : D} : mg x = some (.ref C) → F a = some (ExcO a C (some dd)) → F dd = some (.xd [(f, v)]) → Rp K mg F v d → Rp K mg F (.ref a) (.exc x (some (f, d)))
  | fn {f : Addr} {x : Str} : mg x = some (.ref f) → Rp K mg F (.ref f) (.fn x)
  | scr {a : Addr} {ns : List Int} : SqL K F a (ns.map V.int) → (∀ n ∈ ns, Builtin.Int.intBits n ≤ 1048576) → Rp K mg F (.ref a) (.scr ns)
  | ty (n : String) : Rp K mg F (.ty n) (.ty n)
  | lam {f c' : Addr} {L : LamSite} {cl : List (Str × Addr)} {pm ctv : Value} {vs : List V} {cs : List D} : F f = some (.frz (PySem.W.kla_obj "<lambda>" L.q L.params L.body L.scope cl pm c' ctv) (.own f)) → F c' = some (LamX.CodeO c' L.q) → CloAt F L cl → CellsAt F cl L.ns vs → RpL K mg F vs cs → Rp K mg F (.ref f) (.lam L cs)
  | clo {f c' : Addr} {L : LamSite} {κ : List (Str × Addr)} {pm ctv : Value} : F f = some (.frz (PySem.W.kla_obj "<lambda>" L.q L.params L.body L.scope (cloFrom κ L.scope.names []) pm c' ctv) (.own f)) → F c' = some (LamX.CodeO c' L.q) → Rp K mg F (.ref f) (.clo L κ)
inductive RpL (K : PySem.W.Frag) (mg : Mg) (F : Hp) : List V → List D → Prop
  | nil : RpL K mg F [] []
  | cons {v : V} {vs : List V} {d : D} {ds : List D} : Rp K mg F v d → RpL K mg F vs ds → RpL K mg F (v :: vs) (d :: ds)
inductive RpK (K : PySem.W.Frag) (mg : Mg) (F : Hp) : List (Key × V) → List (Key × D) → Prop
  | nil : RpK K mg F [] []
  | cons {k : Key} {v : V} {vs : List (Key × V)} {d : D} {ds : List (Key × D)} : Rp K mg F v d → RpK K mg F vs ds → RpK K mg F ((k, v) :: vs) ((k, d) :: ds)
end
section
variable {K : PySem.W.Frag} {mg : Mg} {F F' : Hp}
theorem CellsAt.mono (e : Fx F F') {cl : List (Str × Addr)} {ns : List Str} {vs : List V} (h : CellsAt F cl ns vs) : CellsAt F' cl ns vs := fun j n v h1 h2 => by
  obtain ⟨c, o, u, a1, a2, a3⟩ := h j n v h1 h2
  exact ⟨c, o, u, a1, e _ _ a2, a3⟩
theorem CloAt.mono (e : Fx F F') {cl : List (Str × Addr)} {L : LamSite} (h : CloAt F L cl) : CloAt F' L cl := ⟨fun y c q => by
  obtain ⟨o, u, a1, a2⟩ := h.held y c q
  exact ⟨o, u, e _ _ a1, a2⟩, h.inj, h.has⟩
mutual
theorem Rp.mono (e : Fx F F') : ∀ {v : V} {d : D}, Rp K mg F v d → Rp K mg F' v d
  | _, _, .non => .non
  | _, _, .bl b => .bl b
  | _, _, .int i => .int i
  | _, _, .str x => .str x
  | _, _, .lst h1 h2 => .lst (e _ _ h1) (RpL.mono e h2)
  | _, _, .tup h1 h2 => .tup (e.sqt h1) (RpL.mono e h2)
  | _, _, .dic h1 h2 => .dic (e _ _ h1) (RpK.mono e h2)
  | _, _, .exc0 h1 h2 => .exc0 h1 (e _ _ h2)
  | _, _, .exc h1 h2 h3 h4 => .exc h1 (e _ _ h2) (e _ _ h3) (Rp.mono e h4)
  | _, _, .fn h1 => .fn h1
  | _, _, .scr h1 h2 => .scr (e.sql h1) h2
  | _, _, .ty n => .ty n
  | _, _, .clo h1 h2 => .clo (e _ _ h1) (e _ _ h2)
  | _, _, .lam h1 h2 h3 h4 h5 => .lam (e _ _ h1) (e _ _ h2) (h3.mono e) (h4.mono e) (RpL.mono e h5)
theorem RpL.mono (e : Fx F F') : ∀ {v : List V} {d : List D}, RpL K mg F v d → RpL K mg F' v d
  | _, _, .nil => .nil
  | _, _, .cons h1 h2 => .cons (Rp.mono e h1) (RpL.mono e h2)
theorem RpK.mono (e : Fx F F') : ∀ {v : List (Key × V)} {d : List (Key × D)}, RpK K mg F v d → RpK K mg F' v d
  | _, _, .nil => .nil
  | _, _, .cons h1 h2 => .cons (Rp.mono e h1) (RpK.mono e h2)
end
theorem RpL.length : ∀ {vs : List V} {ds : List D}, RpL K mg F vs ds → vs.length = ds.length
  | _, _, .nil => rfl
  | _, _, .cons _ h => by rw [List.length_cons, List.length_cons, RpL.length h]
theorem RpK.length : ∀ {vs : List (Key × V)} {ds : List (Key × D)}, RpK K mg F vs ds → vs.length = ds.length
  | _, _, .nil => rfl
  | _, _, .cons _ h => by rw [List.length_cons, List.length_cons, RpK.length h]
theorem RpL.append : ∀ {vs ws : List V} {ds es : List D}, RpL K mg F vs ds → RpL K mg F ws es → RpL K mg F (vs ++ ws) (ds ++ es)
  | _, _, _, _, .nil, h => h
  | _, _, _, _, .cons a b, h => .cons a (RpL.append b h)
theorem RpL.get : ∀ {vs : List V} {ds : List D} {i : Nat} {d : D}, RpL K mg F vs ds → ds[i]? = some d → ∃ v, vs[i]? = some v ∧ Rp K mg F v d
  | _, _, _, _, .nil, e => by simp at e
  | _, _, 0, _, .cons r _, e => by
    simp at e
    subst e
    exact ⟨_, rfl, r⟩
  | _, _, i + 1, d, .cons _ t, e => by
    obtain ⟨v, h1, h2⟩ := RpL.get (i := i) (d := d) t (by simpa using e)
    exact ⟨v, by simpa using h1, h2⟩
theorem RpL.get' : ∀ {vs : List V} {ds : List D} {i : Nat} {v : V}, RpL K mg F vs ds → vs[i]? = some v → ∃ d, ds[i]? = some d ∧ Rp K mg F v d
  | _, _, _, _, .nil, e => by simp at e
  | _, _, 0, _, .cons r _, e => by
    simp at e
    subst e
    exact ⟨_, rfl, r⟩
  | _, _, i + 1, d, .cons _ t, e => by
    obtain ⟨v, h1, h2⟩ := RpL.get' (i := i) (v := d) t (by simpa using e)
    exact ⟨v, by simpa using h1, h2⟩
theorem RpL.take : ∀ {vs : List V} {ds : List D} (n : Nat), RpL K mg F vs ds → RpL K mg F (vs.take n) (ds.take n)
  | _, _, 0, _ => .nil
  | _, _, _ + 1, .nil => .nil
  | _, _, n + 1, .cons r t => .cons r (RpL.take n t)
theorem RpL.drop : ∀ {vs : List V} {ds : List D} (n : Nat), RpL K mg F vs ds → RpL K mg F (vs.drop n) (ds.drop n)
  | _, _, 0, r => r
  | _, _, _ + 1, .nil => .nil
  | _, _, n + 1, .cons _ t => RpL.drop n t
theorem RpL.ints : ∀ {vs : List V} {ns : List Int}, RpL K mg F vs (ns.map D.int) → vs = ns.map V.int
  | [], [], _ => rfl
  | _ :: _, [], h => by cases h
  | [], _ :: _, h => by cases h
  | v :: vs, n :: ns, h => by
    cases h with
    | cons h1 h2 =>
      cases h1
      rw [RpL.ints h2] <;> rfl
theorem RpL.ofInts : ∀ (ns : List Int), RpL K mg F (ns.map V.int) (ns.map D.int)
  | [] => .nil
  | n :: ns => .cons (.int n) (RpL.ofInts ns)
end

/-! ### the state over pure data -/
/-- an object that the def's own name alone holds -/
inductive Own where
  | lst (xs : List D) | dic (kvs : List (Key × D))
/-- a slot: a datum, an own object, the draws -/
inductive DV where
  | d (x : D) | own (c : Own) | drw
  /-- a lambda that may hold the draws: none is the draws -/
  | lam (L : LamSite) (cs : List (Option D))
abbrev DEnv := List (Option DV)
def OwnAt (K : PySem.W.Frag) (mg : Mg) (F H : Hp) (p : Addr) : Own → Prop
  | .lst ds => ∃ xs, H p = some (.lst xs) ∧ RpL K mg F xs ds
  | .dic ds => ∃ ks, H p = some (.dK ks) ∧ RpK K mg F ks ds
/-- what such a lambda holds -/
inductive RpB (K : PySem.W.Frag) (mg : Mg) (F : Hp) (dr : Option (Addr × Addr)) : V → Option D → Prop
  | d {v : V} {x : D} : Rp K mg F v x → RpB K mg F dr v (some x)
  | drw {a l : Addr} : dr = some (a, l) → RpB K mg F dr (.ref a) none
theorem RpB.mono {K : PySem.W.Frag} {mg : Mg} {F F' : Hp} {dr : Option (Addr × Addr)} (e : Fx F F') {v : V} {x : Option D} : RpB K mg F dr v x → RpB K mg F' dr v x
  | .d h => .d (h.mono e)
  | .drw h => .drw h
theorem rpB_mono {K : PySem.W.Frag} {mg : Mg} {F F' : Hp} {dr : Option (Addr × Addr)} (e : Fx F F') : ∀ {vs : List V} {cs : List (Option D)}, Paired (RpB K mg F dr) vs cs → Paired (RpB K mg F' dr) vs cs
  | _, _, .nil => .nil
  | _, _, .cons a b => .cons (a.mono e) (rpB_mono e b)
/-- a heap, these objects forgotten -/
def cutL (l : List Addr) (H : Hp) : Hp := fun b => if b ∈ l then none else H b
abbrev clsOf (cl : List (Str × Addr)) : List Addr := (cl.map (·.1)).filterMap (cl.lookup ·)
theorem cutL_fx {F F' : Hp} (l : List Addr) (e : Fx F F') : Fx (cutL l F) (cutL l F') := fun b o h => by
  unfold cutL at h ⊢
  by_cases m : b ∈ l
  · rw [if_pos m] at h
    cases h
  · rw [if_neg m] at h ⊢
    exact e b o h
inductive LamAt (K : PySem.W.Frag) (mg : Mg) (F : Hp) (dr : Option (Addr × Addr)) : V → LamSite → List (Option D) → Prop
  | mk {f c' : Addr} {L : LamSite} {cl : List (Str × Addr)} {pm ctv : Value} {vs : List V} {cs : List (Option D)} : F f = some (.frz (PySem.W.kla_obj "<lambda>" L.q L.params L.body L.scope cl pm c' ctv) (.own f)) → F c' = some (LamX.CodeO c' L.q) → CloAt F L cl → CellsAt F cl L.ns vs → Paired (RpB K mg (cutL (clsOf cl) F) dr) vs cs → LamAt K mg F dr (.ref f) L cs
theorem LamAt.mono {K : PySem.W.Frag} {mg : Mg} {F F' : Hp} {dr : Option (Addr × Addr)} (e : Fx F F') {v : V} {L : LamSite} {cs : List (Option D)} : LamAt K mg F dr v L cs → LamAt K mg F' dr v L cs
  | .mk h1 h2 h3 h4 h5 => .mk (e _ _ h1) (e _ _ h2) (h3.mono e) (h4.mono e) (rpB_mono (cutL_fx _ e) h5)
theorem OwnAt.some {K : PySem.W.Frag} {mg : Mg} {F H : Hp} {p : Addr} {c : Own} (h : OwnAt K mg F H p c) : ∃ o, H p = some o ∧ ∀ ps, o ≠ .tbl ps := by
  cases c with
  | lst ds =>
    obtain ⟨xs, h, _⟩ := h
    exact ⟨_, h, fun _ z => nomatch z⟩
  | dic ds =>
    obtain ⟨xs, h, _⟩ := h
    exact ⟨_, h, fun _ z => nomatch z⟩
theorem ownAt_some2 {K : PySem.W.Frag} {mg : Mg} {F H : Hp} {p : Addr} {c : Own} (h : OwnAt K mg F H p c) : ∃ o, H p = some o ∧ ∀ φ, o ≠ .ext φ := by
  cases c with
  | lst ds =>
    obtain ⟨xs, h, _⟩ := h
    exact ⟨_, h, fun _ z => nomatch z⟩
  | dic ds =>
    obtain ⟨xs, h, _⟩ := h
    exact ⟨_, h, fun _ z => nomatch z⟩
theorem OwnAt.mono {K : PySem.W.Frag} {mg : Mg} {F F' H H' : Hp} {p : Addr} {c : Own} (h : OwnAt K mg F H p c) (e : Fx F F') (k : H' p = H p) : OwnAt K mg F' H' p c := by
  cases c with
  | lst ds =>
    obtain ⟨xs, h, r⟩ := h
    exact ⟨xs, k.trans h, r.mono e⟩
  | dic ds =>
    obtain ⟨xs, h, r⟩ := h
    exact ⟨xs, k.trans h, r.mono e⟩

/-- how the draws lie: the dict at a, the list of the great numbers at l -/
structure DrawAt (K : PySem.W.Frag) (F H : Hp) (a l : Addr) : Prop where
  at_ : ∃ (c : Addr) (r t : Int) (big cells : List Int), H a = some (.dK [(.inr "large", .ref l), (.inr "rest", .int r), (.inr "cells", .ref c), (.inr "turn", .int t)]) ∧ H l = some (.lst (big.map V.int)) ∧ F c = some (.lst (cells.map V.int)) ∧
    0 ≤ r ∧ 0 ≤ t ∧ (∀ b ∈ big, 0 ≤ b) ∧ (∀ b ∈ cells, 0 ≤ b)
  ne : a ≠ l

structure Zx where
  dr : Option (Addr × Addr)
  F0 : Hp
  H0 : Hp
/-- what a call may change: the draws, the tables of code objects -/
def Am (T : List (Addr × Str)) (dr : Option (Addr × Addr)) (b : Addr) : Prop := (∃ q, (b, q) ∈ T) ∨ ∃ a l, dr = some (a, l) ∧ (b = a ∨ b = l)
structure FOk (K : PySem.W.Frag) (T : List (Addr × Str)) (dr : Option (Addr × Addr)) (F H : Hp) : Prop where
  sub : Fx F H
  ntb : ∀ b, Am T dr b → F b = none
  tabs : LamX.Tabs T H
  drw : ∀ a l, dr = some (a, l) → DrawAt K F H a l
  tbT : ∀ b ps, H b = some (.tbl ps) → ∃ q, (b, q) ∈ T
structure Grw (T : List (Addr × Str)) (dr : Option (Addr × Addr)) (F H F' H' : Hp) : Prop where
  hh : ∀ b o, H b = some o → ¬ Am T dr b → H' b = some o
  ff : Fx F F'
  new : ∀ b o, F' b = some o → F b = some o ∨ H b = none ∨ ∃ φ, o = .ext φ
section
variable {K : PySem.W.Frag} {mg : Mg} {T : List (Addr × Str)} {dr : Option (Addr × Addr)} {F H F1 H1 F2 H2 : Hp}
theorem Grw.refl : Grw T dr F H F H := ⟨fun _ _ h _ => h, Fx.refl F, fun _ _ h => .inl h⟩
theorem Grw.trans (a : Grw T dr F H F1 H1) (b : Grw T dr F1 H1 F2 H2) (n : ∀ c, Am T dr c → F2 c = none) : Grw T dr F H F2 H2 :=
  ⟨fun c o h m => b.hh c o (a.hh c o h m) m, a.ff.trans b.ff, fun c o h => by
    rcases b.new c o h with z | z | z
    · exact a.new c o z
    · cases q : H c with
      | none => exact .inr (.inl rfl)
      | some u =>
        by_cases m : Am T dr c
        · rw [n c m] at h
          cases h
        · rw [a.hh c u q m] at z
          cases z
    · exact .inr (.inr z)⟩
/-- a list, a dict that was not frozen is not frozen behind it -/
theorem Grw.un (g : Grw T dr F H F1 H1) (s : Fx F1 H1) {p : Addr} {o : HO} (hp : H p = some o) (ho : ∀ φ, o ≠ .ext φ) (nA : ¬ Am T dr p) (hF : F p = none) : F1 p = none := by
  cases q : F1 p with
  | none => rfl
  | some u =>
    rcases g.new p u q with z | z | ⟨φ, z⟩
    · rw [hF] at z
      cases z
    · rw [hp] at z
      cases z
    · have y := s p u q
      rw [g.hh p o hp nA] at y
      cases y
      exact absurd z (ho φ)
theorem LamX_tabs_of {T : List (Addr × Str)} {H H' : Hp} (t : LamX.Tabs T H) (e : ∀ b o, H b = some o → (∀ xs, o ≠ .lst xs) → (∀ ks, o ≠ .dK ks) → H' b = some o) : LamX.Tabs T H' := fun p hp => by
  obtain ⟨ps, h1, h2, h3⟩ := t p hp
  refine ⟨ps, e _ _ h1 (fun _ z => nomatch z) (fun _ z => nomatch z), h2, fun pos cv hc => ?_⟩
  obtain ⟨c, e1, e2⟩ := h3 pos cv hc
  exact ⟨c, e1, e _ _ e2 (fun _ z => nomatch z) (fun _ z => nomatch z)⟩
end

/-- the slots ρ, over the frozen heap F, of the state (σ, H) -/
structure Rep (K : PySem.W.Frag) (mg : Mg) (T : List (Addr × Str)) (Z : Zx) (ρ : DEnv) (F : Hp) (σ : L2.St) (H : Hp) : Prop where
  len : ρ.length = σ.length
  ok : FOk K T Z.dr F H
  gr : Grw T Z.dr Z.F0 Z.H0 F H
  dat : ∀ (i : Nat) (d : D), ρ[i]? = some (some (.d d)) → ∃ v, σ[i]? = some (some v) ∧ Rp K mg F v d
  drs : ∀ (i : Nat), ρ[i]? = some (some .drw) → ∃ a l, Z.dr = some (a, l) ∧ σ[i]? = some (some (.ref a))
  own : ∀ (i : Nat) (c : Own), ρ[i]? = some (some (.own c)) → ∃ p, σ[i]? = some (some (.ref p)) ∧ OwnAt K mg F H p c ∧ F p = none ∧ Z.H0 p = none ∧ ¬ Am T Z.dr p
  lam : ∀ (i : Nat) (L : LamSite) (cs : List (Option D)), ρ[i]? = some (some (.lam L cs)) → ∃ v, σ[i]? = some (some v) ∧ LamAt K mg F Z.dr v L cs
  dis : ∀ (i j : Nat) (c c' : Own) (p : Addr), ρ[i]? = some (some (.own c)) → ρ[j]? = some (some (.own c')) → σ[i]? = some (some (.ref p)) → σ[j]? = some (some (.ref p)) → i = j
section
variable {K : PySem.W.Frag} {mg : Mg} {T : List (Addr × Str)} {Z : Zx} {ρ : DEnv} {F H F1 H1 : Hp} {σ : L2.St}
/-- behind something that grew the heaps and left the own objects -/
theorem Rep.step (r : Rep K mg T Z ρ F σ H) (g : Grw T Z.dr F H F1 H1) (k : FOk K T Z.dr F1 H1) : Rep K mg T Z ρ F1 σ H1 where
  len := r.len
  ok := k
  gr := r.gr.trans g k.ntb
  dat := fun i d e => by
    obtain ⟨v, h1, h2⟩ := r.dat i d e
    exact ⟨v, h1, h2.mono g.ff⟩
  drs := r.drs
  own := fun i c e => by
    obtain ⟨p, h1, h2, h3, h4, h5⟩ := r.own i c e
    obtain ⟨o, ho, hx⟩ := ownAt_some2 h2
    exact ⟨p, h1, h2.mono g.ff ((g.hh p o ho h5).trans ho.symm), g.un k.sub ho hx h5 h3, h4, h5⟩
  lam := fun i L cs e => by
    obtain ⟨v, h1, h2⟩ := r.lam i L cs e
    exact ⟨v, h1, h2.mono g.ff⟩
  dis := r.dis
theorem nodraw {a l : Addr} {o : HO} {p : Addr} (h : DrawAt K F H a l) (hp : H p = none) : p ≠ a ∧ p ≠ l := by
  obtain ⟨c, r, t, big, cells, h1, h2, _⟩ := h.at_
  exact ⟨fun z => (by rw [z, h1] at hp; cases hp), fun z => (by rw [z, h2] at hp; cases hp)⟩
theorem FOk.notAm {dr : Option (Addr × Addr)} (k : FOk K T dr F H) {p : Addr} (hp : H p = none) : ¬ Am T dr p := by
  rintro (⟨q, hq⟩ | ⟨a, l, e, z⟩)
  · obtain ⟨ps, h1, _⟩ := k.tabs _ hq
    rw [hp] at h1
    cases h1
  · obtain ⟨c, r, t, big, cells, h1, h2, _⟩ := (k.drw a l e).at_
    rcases z with z | z
    · rw [← z, hp] at h1
      cases h1
    · rw [← z, hp] at h2
      cases h2
/-- something new is laid beside: the draws and tables stay -/
theorem DrawAt.mono {F' H' : Hp} {a l : Addr} (h : DrawAt K F H a l) (e : Fx F F') (ka : H' a = H a) (kl : H' l = H l) : DrawAt K F' H' a l := by
  obtain ⟨⟨c, r, t, big, cells, h1, h2, h3, h4⟩, ne⟩ := h
  exact ⟨⟨c, r, t, big, cells, ka.trans h1, kl.trans h2, e _ _ h3, h4⟩, ne⟩
theorem FOk.grow {dr : Option (Addr × Addr)} {H' F' : Hp} (k : FOk K T dr F H) (e : Fx F F') (s : Fx F' H') (hh : ∀ b o, H b = some o → H' b = some o) (n : ∀ b, Am T dr b → F' b = none) (ht : ∀ b ps, H' b = some (.tbl ps) → ∃ q, (b, q) ∈ T) : FOk K T dr F' H' :=
  ⟨s, n, k.tabs.ext hh, fun a l q => by
    obtain ⟨c, r, t, big, cells, h1, h2, _⟩ := (k.drw a l q).at_
    exact (k.drw a l q).mono e ((hh _ _ h1).trans h1.symm) ((hh _ _ h2).trans h2.symm), ht⟩
theorem FOk.tbN {dr : Option (Addr × Addr)} (k : FOk K T dr F H) {p : Addr} {o : HO} (ho : ∀ ps, o ≠ .tbl ps) : ∀ b ps, upd H p o b = some (.tbl ps) → ∃ q, (b, q) ∈ T := fun b ps e => by
  by_cases hb : b = p
  · subst hb
    rw [upd_same] at e
    cases e
    exact absurd rfl (ho ps)
  · rw [upd_ne hb] at e
    exact k.tbT b ps e
/-- a new object is laid and frozen -/
theorem FOk.laid {dr : Option (Addr × Addr)} (k : FOk K T dr F H) {p : Addr} {o : HO} (hp : H p = none) (ho : ∀ ps, o ≠ .tbl ps := by exact fun _ z => nomatch z) : FOk K T dr (upd F p o) (upd H p o) ∧ Grw T dr F H (upd F p o) (upd H p o) := by
  have hF : F p = none := by
    cases q : F p with
    | none => rfl
    | some u =>
      rw [k.sub p u q] at hp
      cases hp
  have nA := k.notAm hp
  refine ⟨k.grow (Fx.new hF) (fun b u e => ?_) (Fx.new hp) (fun b m => ?_) (k.tbN ho), fun b u e _ => Fx.new hp b u e, Fx.new hF, fun b u e => ?_⟩
  · by_cases hb : b = p
    · subst hb
      rw [upd_same] at e ⊢
      exact e
    · rw [upd_ne hb] at e ⊢
      exact k.sub b u e
  · have hb : b ≠ p := fun z => nA (z ▸ m)
    rw [upd_ne hb]
    exact k.ntb b m
  · by_cases hb : b = p
    · subst hb
      exact .inr (.inl hp)
    · rw [upd_ne hb] at e
      exact .inl e
/-- a new object is laid, not frozen -/
theorem FOk.laidOwn {dr : Option (Addr × Addr)} (k : FOk K T dr F H) {p : Addr} {o : HO} (hp : H p = none) (ho : ∀ ps, o ≠ .tbl ps := by exact fun _ z => nomatch z) : FOk K T dr F (upd H p o) ∧ Grw T dr F H F (upd H p o) ∧ F p = none := by
  have hF : F p = none := by
    cases q : F p with
    | none => rfl
    | some u =>
      rw [k.sub p u q] at hp
      cases hp
  refine ⟨k.grow (Fx.refl F) (fun b u e => Fx.new hp b u (k.sub b u e)) (Fx.new hp) k.ntb (k.tbN ho), ⟨fun b u e _ => Fx.new hp b u e, Fx.refl F, fun _ _ e => .inl e⟩, hF⟩
/-- a slot takes a datum -/
theorem Rep.set (r : Rep K mg T Z ρ F σ H) {i : Nat} {v : V} {d : D} (hv : Rp K mg F v d) : Rep K mg T Z (ρ.set i (some (.d d))) F (σ.set i (some v)) H where
  len := by rw [List.length_set, List.length_set]; exact r.len
  ok := r.ok
  gr := r.gr
  dat := fun j d' e => by
    by_cases hj : i = j
    · subst hj
      have hl : i < ρ.length := by
        have := (List.getElem?_eq_some_iff.mp e).1
        rwa [List.length_set] at this
      rw [List.getElem?_set_self hl] at e
      cases e
      exact ⟨v, List.getElem?_set_self (r.len ▸ hl), hv⟩
    · rw [List.getElem?_set_ne hj] at e ⊢
      exact r.dat j d' e
  drs := fun j e => by
    by_cases hj : i = j
    · subst hj
      have hl : i < ρ.length := by
        have := (List.getElem?_eq_some_iff.mp e).1
        rwa [List.length_set] at this
      rw [List.getElem?_set_self hl] at e
      cases e
    · rw [List.getElem?_set_ne hj] at e ⊢
      exact r.drs j e
  own := fun j c e => by
    by_cases hj : i = j
    · subst hj
      have hl : i < ρ.length := by
        have := (List.getElem?_eq_some_iff.mp e).1
        rwa [List.length_set] at this
      rw [List.getElem?_set_self hl] at e
      cases e
    · rw [List.getElem?_set_ne hj] at e ⊢
      exact r.own j c e
  lam := fun j L cs e => by
    by_cases hj : i = j
    · subst hj
      have hl : i < ρ.length := by
        have := (List.getElem?_eq_some_iff.mp e).1
        rwa [List.length_set] at this
      rw [List.getElem?_set_self hl] at e
      cases e
    · rw [List.getElem?_set_ne hj] at e ⊢
      exact r.lam j L cs e
  dis := fun j k c c' p h1 h2 h3 h4 => by
    have nj : i ≠ j := fun z => by
      subst z
      have hl : i < ρ.length := by
        have := (List.getElem?_eq_some_iff.mp h1).1
        rwa [List.length_set] at this
      rw [List.getElem?_set_self hl] at h1
      cases h1
    have nk : i ≠ k := fun z => by
      subst z
      have hl : i < ρ.length := by
        have := (List.getElem?_eq_some_iff.mp h2).1
        rwa [List.length_set] at this
      rw [List.getElem?_set_self hl] at h2
      cases h2
    rw [List.getElem?_set_ne nj] at h1 h3
    rw [List.getElem?_set_ne nk] at h2 h4
    exact r.dis j k c c' p h1 h2 h3 h4
/-- slots forgotten -/
theorem Rep.forget (r : Rep K mg T Z ρ F σ H) {ρ' : DEnv} {σ' : L2.St} (hl : ρ'.length = σ'.length) (h : ∀ (i : Nat) (x : DV), ρ'[i]? = some (some x) → ρ[i]? = some (some x) ∧ σ'[i]? = σ[i]?) : Rep K mg T Z ρ' F σ' H where
  len := hl
  ok := r.ok
  gr := r.gr
  dat := fun i d e => by
    obtain ⟨h1, h2⟩ := h i _ e
    obtain ⟨v, h3, h4⟩ := r.dat i d h1
    exact ⟨v, h2.trans h3, h4⟩
  drs := fun i e => by
    obtain ⟨h1, h2⟩ := h i _ e
    obtain ⟨a, l, h3, h4⟩ := r.drs i h1
    exact ⟨a, l, h3, h2.trans h4⟩
  own := fun i c e => by
    obtain ⟨h1, h2⟩ := h i _ e
    obtain ⟨p, h3, h4⟩ := r.own i c h1
    exact ⟨p, h2.trans h3, h4⟩
  lam := fun i L cs e => by
    obtain ⟨h1, h2⟩ := h i _ e
    obtain ⟨v, h3, h4⟩ := r.lam i L cs h1
    exact ⟨v, h2.trans h3, h4⟩
  dis := fun i j c c' p a1 a2 a3 a4 => by
    obtain ⟨h1, h2⟩ := h i _ a1
    obtain ⟨h3, h4⟩ := h j _ a2
    exact r.dis i j c c' p h1 h3 (h2 ▸ a3) (h4 ▸ a4)
/-- the own objects' slots forgotten -/
def noOwn : Option DV → Option DV
  | some (.own _) => none
  | x => x
/-- begun anew from where it stands; the own objects are not touched -/
theorem Rep.rebase (r : Rep K mg T Z ρ F σ H) : Rep K mg T ⟨Z.dr, F, H⟩ (ρ.map noOwn) F σ H where
  len := by rw [List.length_map]; exact r.len
  ok := r.ok
  gr := Grw.refl
  dat := fun i d e => by
    rw [List.getElem?_map] at e
    cases q : ρ[i]? with
    | none => rw [q] at e; cases e
    | some x =>
      rw [q] at e
      cases x with
      | none => cases e
      | some y => cases y <;> first | (cases e; done) | (cases e; exact r.dat i _ q)
  drs := fun i e => by
    rw [List.getElem?_map] at e
    cases q : ρ[i]? with
    | none => rw [q] at e; cases e
    | some x =>
      rw [q] at e
      cases x with
      | none => cases e
      | some y => cases y <;> first | (cases e; done) | exact r.drs i q
  own := fun i c e => by
    rw [List.getElem?_map] at e
    cases q : ρ[i]? with
    | none => rw [q] at e; cases e
    | some x =>
      rw [q] at e
      cases x with
      | none => cases e
      | some y => cases y <;> cases e
  lam := fun i L cs e => by
    rw [List.getElem?_map] at e
    cases q : ρ[i]? with
    | none => rw [q] at e; cases e
    | some x =>
      rw [q] at e
      cases x with
      | none => cases e
      | some y => cases y <;> first | (cases e; done) | (cases e; exact r.lam i _ _ q)
  dis := fun i j c c' p e => by
    rw [List.getElem?_map] at e
    cases q : ρ[i]? with
    | none => rw [q] at e; cases e
    | some x =>
      rw [q] at e
      cases x with
      | none => cases e
      | some y => cases y <;> cases e
/-- an object that no slot holds and nothing frozen leans on is written -/
theorem Rep.write (r : Rep K mg T Z ρ F σ H) {p : Addr} {o : HO} (hF : F p = none) (h0 : Z.H0 p = none) (hA : ¬ Am T Z.dr p) (hc : ∃ o', H p = some o' ∧ ((∃ xs, o' = .lst xs) ∨ ∃ ks, o' = .dK ks)) (ho : ∀ (j : Nat) (c : Own), ρ[j]? = some (some (.own c)) → σ[j]? ≠ some (some (.ref p))) (hot : ∀ ps, o ≠ .tbl ps := by exact fun _ z => nomatch z) : Rep K mg T Z ρ F σ (upd H p o) := by
  have ne : ∀ b u, F b = some u → b ≠ p := fun b u e => ne_of_none e hF
  have nt : ∀ b u, H b = some u → (∀ xs, u ≠ .lst xs) → (∀ ks, u ≠ .dK ks) → b ≠ p := fun b u e h1 h2 z => by
    obtain ⟨o', q, q2⟩ := hc
    rw [z, q] at e
    cases e
    rcases q2 with ⟨xs, z⟩ | ⟨ks, z⟩
    · exact h1 xs z
    · exact h2 ks z
  refine ⟨r.len, ⟨fun b u e => ?_, r.ok.ntb, LamX_tabs_of r.ok.tabs fun b u e h1 h2 => ?_, fun a l e => ?_, r.ok.tbN hot⟩, ⟨fun b u e m => ?_, r.gr.ff, r.gr.new⟩, r.dat, r.drs, fun i c e => ?_, r.lam, r.dis⟩
  · rw [upd_ne (ne b u e)]
    exact r.ok.sub b u e
  · rw [upd_ne (nt b u e h1 h2)]
    exact e
  · have ha : a ≠ p := fun z => hA (.inr ⟨a, l, e, .inl z.symm⟩)
    have hl : l ≠ p := fun z => hA (.inr ⟨a, l, e, .inr z.symm⟩)
    exact (r.ok.drw a l e).mono (Fx.refl F) (upd_ne ha) (upd_ne hl)
  · rw [upd_ne (ne_of_none e h0)]
    exact r.gr.hh b u e m
  · obtain ⟨q, h1, h2, h3⟩ := r.own i c e
    have hq : q ≠ p := fun z => ho i c e (z ▸ h1)
    exact ⟨q, h1, h2.mono (Fx.refl F) (upd_ne hq), h3⟩
/-- a slot takes a new own object -/
theorem Rep.setOwn (r : Rep K mg T Z ρ F σ H) {i : Nat} {p : Addr} {c : Own} (hp : OwnAt K mg F H p c) (hF : F p = none) (h0 : Z.H0 p = none) (hA : ¬ Am T Z.dr p) (ho : ∀ (j : Nat) (c : Own), j ≠ i → ρ[j]? = some (some (.own c)) → σ[j]? ≠ some (some (.ref p))) :
    Rep K mg T Z (ρ.set i (some (.own c))) F (σ.set i (some (.ref p))) H where
  len := by rw [List.length_set, List.length_set]; exact r.len
  ok := r.ok
  gr := r.gr
  dat := fun j d' e => by
    by_cases hj : i = j
    · subst hj
      have hl : i < ρ.length := by
        have := (List.getElem?_eq_some_iff.mp e).1
        rwa [List.length_set] at this
      rw [List.getElem?_set_self hl] at e
      cases e
    · rw [List.getElem?_set_ne hj] at e ⊢
      exact r.dat j d' e
  drs := fun j e => by
    by_cases hj : i = j
    · subst hj
      have hl : i < ρ.length := by
        have := (List.getElem?_eq_some_iff.mp e).1
        rwa [List.length_set] at this
      rw [List.getElem?_set_self hl] at e
      cases e
    · rw [List.getElem?_set_ne hj] at e ⊢
      exact r.drs j e
  own := fun j c' e => by
    by_cases hj : i = j
    · subst hj
      have hl : i < ρ.length := by
        have := (List.getElem?_eq_some_iff.mp e).1
        rwa [List.length_set] at this
      rw [List.getElem?_set_self hl] at e
      cases e
      exact ⟨p, List.getElem?_set_self (r.len ▸ hl), hp, hF, h0, hA⟩
    · rw [List.getElem?_set_ne hj] at e ⊢
      exact r.own j c' e
  lam := fun j L cs e => by
    by_cases hj : i = j
    · subst hj
      have hl : i < ρ.length := by
        have := (List.getElem?_eq_some_iff.mp e).1
        rwa [List.length_set] at this
      rw [List.getElem?_set_self hl] at e
      cases e
    · rw [List.getElem?_set_ne hj] at e ⊢
      exact r.lam j L cs e
  dis := fun j k c1 c2 q h1 h2 h3 h4 => by
    by_cases hj : i = j
    · by_cases hk : i = k
      · exact hj.symm.trans hk
      · subst hj
        have hl : i < ρ.length := by
          have := (List.getElem?_eq_some_iff.mp h1).1
          rwa [List.length_set] at this
        rw [List.getElem?_set_self (r.len ▸ hl)] at h3
        cases h3
        rw [List.getElem?_set_ne hk] at h2 h4
        exact absurd h4 (ho k c2 (Ne.symm hk) h2)
    · by_cases hk : i = k
      · subst hk
        have hl : i < ρ.length := by
          have := (List.getElem?_eq_some_iff.mp h2).1
          rwa [List.length_set] at this
        rw [List.getElem?_set_self (r.len ▸ hl)] at h4
        cases h4
        rw [List.getElem?_set_ne hj] at h1 h3
        exact absurd h3 (ho j c1 (Ne.symm hj) h1)
      · rw [List.getElem?_set_ne hj] at h1 h3
        rw [List.getElem?_set_ne hk] at h2 h4
        exact r.dis j k c1 c2 q h1 h2 h3 h4
end
end DL
set_option Elab.async false
set_option linter.all false
set_option maxRecDepth 100000
set_option maxHeartbeats 2000000
namespace DL
open PySem PySem.Spec PyProof.Rows L2

/-! ### errors, readings -/
structure Er where
  cls : Str
  fld : Option (Str × D)
def ErAt (K : PySem.W.Frag) (mg : Mg) (F : Hp) (cls : Value) (dd : Option Addr) (e : Er) : Prop :=
  ∃ C, mg e.cls = some (.ref C) ∧ cls = .ref C ∧ match e.fld with
    | none => dd = none
    | some (f, d) => ∃ a v, dd = some a ∧ F a = some (.xd [(f, v)]) ∧ Rp K mg F v d
def Wer (K : PySem.W.Frag) (mg : Mg) (T : List (Addr × Str)) (Z : Zx) (er : Er → Prop) : WX := fun cls dd σ' H' => ∃ ρ' F' e, Rep K mg T Z ρ' F' σ' H' ∧ ErAt K mg F' cls dd e ∧ er e
abbrev DTE := DEnv → (D → DEnv → Prop) → (Er → Prop) → Prop
abbrev DTT := DEnv → (Bool → DEnv → Prop) → (Er → Prop) → Prop
abbrev DTA := DEnv → (List DV → DEnv → Prop) → (Er → Prop) → Prop
abbrev Pt := List DV → (D → Prop) → (Er → Prop) → Prop
structure DEnds where
  nx : DEnv → Prop
  rt : D → Prop
  bk : DEnv → Prop := fun _ => False
  ct : DEnv → Prop := fun _ => False
abbrev DTS := DEnv → DEnds → (Er → Prop) → Prop
def RpA (K : PySem.W.Frag) (mg : Mg) (F : Hp) (dr : Option (Addr × Addr)) : V → DV → Prop
  | v, .d x => Rp K mg F v x
  | v, .drw => ∃ a l, dr = some (a, l) ∧ v = .ref a
  | _, .own _ => False
  | v, .lam L cs => LamAt K mg F dr v L cs
abbrev RpAs (K : PySem.W.Frag) (mg : Mg) (F : Hp) (dr : Option (Addr × Addr)) : List V → List DV → Prop := Paired (RpA K mg F dr)
theorem RpA.mono {K : PySem.W.Frag} {mg : Mg} {F F' : Hp} {dr : Option (Addr × Addr)} (e : Fx F F') : ∀ {v : V} {d : DV}, RpA K mg F dr v d → RpA K mg F' dr v d
  | _, .d _, h => Rp.mono e h
  | _, .drw, h => h
  | _, .own _, h => h
  | _, .lam _ _, h => LamAt.mono e h
theorem RpAs.mono {K : PySem.W.Frag} {mg : Mg} {F F' : Hp} {dr : Option (Addr × Addr)} (e : Fx F F') : ∀ {v : List V} {d : List DV}, RpAs K mg F dr v d → RpAs K mg F' dr v d
  | _, _, .nil => .nil
  | _, _, .cons a b => .cons (RpA.mono e a) (RpAs.mono e b)

def up (X : Cx) (T : List (Addr × Str)) (Z : Zx) (te : DTE) : TE := fun σ H Q => ∃ ρ F er R, Rep X.K X.mg T Z ρ F σ H ∧ Takes X (Wer X.K X.mg T Z er) ∧ te ρ R er ∧
  ∀ v H' F' d ρ', Fx F F' → Rep X.K X.mg T Z ρ' F' σ H' → Rp X.K X.mg F' v d → R d ρ' → Q v H'
def upT (X : Cx) (T : List (Addr × Str)) (Z : Zx) (te : DTT) : TT := fun σ H Q => ∃ ρ F er R, Rep X.K X.mg T Z ρ F σ H ∧ Takes X (Wer X.K X.mg T Z er) ∧ te ρ R er ∧
  ∀ b H' F' ρ', Fx F F' → Rep X.K X.mg T Z ρ' F' σ H' → R b ρ' → Q b H'
def upA (X : Cx) (T : List (Addr × Str)) (Z : Zx) (te : DTA) : TA := fun σ H Q => ∃ ρ F er R, Rep X.K X.mg T Z ρ F σ H ∧ Takes X (Wer X.K X.mg T Z er) ∧ te ρ R er ∧
  ∀ vs H' F' ds ρ', Fx F F' → Rep X.K X.mg T Z ρ' F' σ H' → RpAs X.K X.mg F' Z.dr vs ds → R ds ρ' → Q vs H'
/-- a new object, held by nobody yet -/
def upN (X : Cx) (T : List (Addr × Str)) (Z : Zx) (te : DEnv → (Own → DEnv → Prop) → (Er → Prop) → Prop) : TE := fun σ H Q => ∃ ρ F er R, Rep X.K X.mg T Z ρ F σ H ∧ Takes X (Wer X.K X.mg T Z er) ∧ te ρ R er ∧
  ∀ p H' F' c ρ', Fx F F' → Rep X.K X.mg T Z ρ' F' σ H' → OwnAt X.K X.mg F' H' p c → F' p = none → Z.H0 p = none → ¬ Am T Z.dr p → (∀ (i : Nat) c', ρ'[i]? = some (some (.own c')) → σ[i]? ≠ some (some (.ref p))) → R c ρ' → Q (.ref p) H'
def upS (X : Cx) (T : List (Addr × Str)) (Z : Zx) (ts : DTS) : TS := fun E σ H => ∃ ρ F er De, Rep X.K X.mg T Z ρ F σ H ∧ Takes X (Wer X.K X.mg T Z er) ∧ ts ρ De er ∧
  (∀ σ' H' F' ρ', Fx F F' → Rep X.K X.mg T Z ρ' F' σ' H' → De.nx ρ' → E.nx σ' H') ∧
  (∀ v σ' H' F' ρ' d, Fx F F' → Rep X.K X.mg T Z ρ' F' σ' H' → Rp X.K X.mg F' v d → De.rt d → E.rt v H') ∧
  (∀ σ' H' F' ρ', Fx F F' → Rep X.K X.mg T Z ρ' F' σ' H' → De.bk ρ' → E.bk σ' H') ∧
  (∀ σ' H' F' ρ', Fx F F' → Rep X.K X.mg T Z ρ' F' σ' H' → De.ct ρ' → E.ct σ' H')
abbrev QE (X : Cx) (T : List (Addr × Str)) (Z : Zx) (e : Expr) (te : DTE) : Prop := PE X e (up X T Z te)
abbrev QT (X : Cx) (T : List (Addr × Str)) (Z : Zx) (e : Expr) (te : DTT) : Prop := PT X e (upT X T Z te)
abbrev QW (X : Cx) (T : List (Addr × Str)) (Z : Zx) (e : Expr) (te : DTT) : Prop := PW X e (upT X T Z te)
abbrev QA (X : Cx) (T : List (Addr × Str)) (Z : Zx) (e : List Expr) (te : DTA) : Prop := PA X e (upA X T Z te)
abbrev QN (X : Cx) (T : List (Addr × Str)) (Z : Zx) (e : Expr) (te : DEnv → (Own → DEnv → Prop) → (Er → Prop) → Prop) : Prop := PE X e (upN X T Z te)
abbrev QS (X : Cx) (T : List (Addr × Str)) (Z : Zx) (st : Stmt) (ts : DTS) : Prop := PS X st (upS X T Z ts)
abbrev QSs (X : Cx) (T : List (Addr × Str)) (Z : Zx) (st : List Stmt) (ts : DTS) : Prop := PSs X st (upS X T Z ts)
section
variable {X : Cx} {e : Expr} {es : List Expr} {st : Stmt} {sts : List Stmt}
theorem pe_imp {t t' : TE} (h : PE X e t) (i : ∀ σ H Q, t' σ H Q → t σ H Q) : PE X e t' := ⟨fun pins s σ H Q I q => h.run pins s σ H Q I (i σ H Q q)⟩
theorem pt_imp {t t' : TT} (h : PT X e t) (i : ∀ σ H Q, t' σ H Q → t σ H Q) : PT X e t' := ⟨fun pins s σ H Q I q => h.run pins s σ H Q I (i σ H Q q)⟩
theorem pw_imp {t t' : TT} (h : PW X e t) (i : ∀ σ H Q, t' σ H Q → t σ H Q) : PW X e t' := ⟨fun w pins s σ H Q I q => h.run w pins s σ H Q I (i σ H Q q)⟩
theorem pa_imp {t t' : TA} (h : PA X es t) (i : ∀ σ H Q, t' σ H Q → t σ H Q) : PA X es t' := ⟨fun pos pins s σ H Q I q => h.run pos pins s σ H Q I (i σ H Q q)⟩
theorem ps_imp {t t' : TS} (h : PS X st t) (i : ∀ E σ H, t' E σ H → t E σ H) : PS X st t' := ⟨fun pins s σ H E I q => h.run pins s σ H E I (i E σ H q)⟩
theorem pss_imp {t t' : TS} (h : PSs X sts t) (i : ∀ E σ H, t' E σ H → t E σ H) : PSs X sts t' := ⟨fun pins s σ H E I q => h.run pins s σ H E I (i E σ H q)⟩
end
theorem takesF {X : Cx} {K : PySem.W.Frag} {mg : Mg} {T : List (Addr × Str)} {Z : Zx} : Takes X (Wer K mg T Z fun _ => False) := fun _ _ x => by
  obtain ⟨_, _, _, _, _, _, _, _, _, _, _, _, _, _, _, _, ⟨_, _, _, _, _, z⟩⟩ := x
  exact z.elim

/-! ### names, constants -/
section
variable {X : Cx} {T : List (Addr × Str)} {Z : Zx} {a b : Expr} {ta tb : DTE} {pos : Pos}
def dVar (i : Nat) : DTE := fun ρ R _ => match ρ[i]? with
  | some (some (.d d)) => R d ρ
  | _ => False
def dC (d : D) : DTE := fun ρ R _ => R d ρ
theorem qe_var (i : Nat) {x : Str} (hN : X.N[i]? = some x := by rfl) (hv : Vis X.env.scope x := by first | exact Or.inl rfl | exact Or.inr (Or.inl rfl) | exact Or.inr (Or.inr rfl)) (hd : (x == ("__debug__" : Str)) = false := by decide)
    (hcd : (x == ("__classdict__" : Str)) = false := by decide) : QE X T Z (.Name x pos) (dVar i) :=
  pe_imp (pe_var (i := i) hN hv hd hcd) fun σ H Q ⟨ρ, F, er, R, rep, tk, h, hk⟩ => by
    unfold dVar at h
    split at h
    · rename_i d hd
      obtain ⟨v, h1, h2⟩ := rep.dat i d hd
      exact ⟨v, h1, hk v H F d ρ (Fx.refl F) rep h2 h⟩
    · exact h.elim
theorem qe_c {v : V} {d : D} (h : PE X a (tC v)) (r : ∀ F, Rp X.K X.mg F v d) : QE X T Z a (dC d) :=
  pe_imp h fun σ H Q ⟨ρ, F, er, R, rep, tk, h, hk⟩ => hk v H F d ρ (Fx.refl F) rep (r F) h
theorem qe_int {i : Int} {j : Nat} : QE X T Z (.Constant (.int i) j pos) (dC (.int i)) := qe_c pe_int fun _ => .int i
theorem qe_bl {i : Bool} {j : Nat} : QE X T Z (.Constant (.bool i) j pos) (dC (.bl i)) := qe_c pe_bl fun _ => .bl i
theorem qe_non {j : Nat} : QE X T Z (.Constant .none j pos) (dC .non) := qe_c pe_non fun _ => .non
theorem qe_str {i : Str} {j : Nat} : QE X T Z (.Constant (.str i) j pos) (dC (.str i)) := qe_c pe_str fun _ => .str i
/-- a module's constant, a def as a value -/
theorem qe_gint {x : Str} {i : Int} (hg : Gl X x) (hm : ∃ t, X.mg x = some (.int i t)) (hd : (x == ("__debug__" : Str)) = false := by decide) : QE X T Z (.Name x pos) (dC (.int i)) := by
  obtain ⟨t, hm⟩ := hm
  exact qe_c (pe_glob hg hm (v := .int i) ⟨t, rfl⟩ hd) fun _ => .int i
theorem qe_gfn {x : Str} (hg : Gl X x) (hm : ∃ f, X.mg x = some (.ref f)) (hd : (x == ("__debug__" : Str)) = false := by decide) : QE X T Z (.Name x pos) (dC (.fn x)) := by
  obtain ⟨f, hm⟩ := hm
  exact qe_c (pe_glob hg hm (v := .ref f) rfl hd) fun _ => .fn hm

/-! ### two operands -/
def dBin (g : D → D → (D → Prop) → Prop) (ta tb : DTE) : DTE := fun ρ R er => ta ρ (fun x ρ1 => tb ρ1 (fun y ρ2 => g x y fun d => R d ρ2) er) er
def dUn (g : D → (D → Prop) → Prop) (ta : DTE) : DTE := fun ρ R er => ta ρ (fun x ρ1 => g x fun d => R d ρ1) er
/-- what an operation on values does on data -/
def Ok2 (X : Cx) (T : List (Addr × Str)) (r : R2) (g : D → D → (D → Prop) → Prop) : Prop := ∀ (dr : Option (Addr × Addr)) (F H : Hp) (v w : V) (x y : D) (Q : VK) (R : D → Prop), FOk X.K T dr F H → Rp X.K X.mg F v x → Rp X.K X.mg F w y → g x y R →
  (∀ u H' F' d, Grw T dr F H F' H' → FOk X.K T dr F' H' → Rp X.K X.mg F' u d → R d → Q u H') → r v w H Q
theorem qe2 {e : Expr} {r : R2} {g : D → D → (D → Prop) → Prop} (h : PE X e (tOp r (up X T Z ta) (up X T Z tb))) (k : Ok2 X T r g) : QE X T Z e (dBin g ta tb) :=
  pe_imp h fun σ H Q ⟨ρ, F, er, R, rep, tk, h, hk⟩ => ⟨ρ, F, er, _, rep, tk, h, fun v H1 F1 x ρ1 e1 rep1 rv h1 => ⟨ρ1, F1, er, _, rep1, tk, h1, fun w H2 F2 y ρ2 e2 rep2 rw_ h2 =>
    k Z.dr F2 H2 v w x y Q _ rep2.ok (rv.mono e2) rw_ h2 fun u H' F' d g1 k1 ru hR => hk u H' F' d ρ2 ((e1.trans e2).trans g1.ff) (rep2.step g1 k1) ru hR⟩⟩
theorem qe_bin {op : Operator} {r : R2} {g : D → D → (D → Prop) → Prop} (ho : OpR X (binaryOp op) r) (k : Ok2 X T r g) (ha : QE X T Z a ta) (hb : QE X T Z b tb) : QE X T Z (.BinOp a op b pos) (dBin g ta tb) := qe2 (pe_op ho ha hb) k
/-- the same heap -/
theorem ok2_at {r : R2} {g : D → D → (D → Prop) → Prop} (h : ∀ (T' : List (Addr × Str)) (dr : Option (Addr × Addr)) (F H : Hp) (v w : V) (x y : D) (R : D → Prop), FOk X.K T' dr F H → Rp X.K X.mg F v x → Rp X.K X.mg F w y → g x y R → ∃ u d, Rp X.K X.mg F u d ∧ R d ∧ ∀ Q : VK, Q u H → r v w H Q) : Ok2 X T r g :=
  fun dr F H v w x y Q R k rx ry hg hq => by
    obtain ⟨u, d, h1, h2, h3⟩ := h T dr F H v w x y R k rx ry hg
    exact h3 Q (hq u H F d Grw.refl k h1 h2)
def MulOk (i j : Int) : Prop := CMul i j ∨ CMulW i j
theorem mulOk_l {i j : Int} (h : -(2 ^ 64) < i ∧ i < 2 ^ 64) : MulOk i j := .inl (.inl h)
theorem mulOk_r {i j : Int} (h : -(2 ^ 64) < j ∧ j < 2 ^ 64) : MulOk i j := .inl (.inr h)
def gMul : D → D → (D → Prop) → Prop
  | .int i, .int j, R => MulOk i j ∧ R (.int (i * j))
  | _, _, _ => False
def gSub : D → D → (D → Prop) → Prop
  | .int i, .int j, R => R (.int (i - j))
  | _, _, _ => False
def gAdd : D → D → (D → Prop) → Prop
  | .int i, .int j, R => R (.int (i + j))
  | .str i, .str j, R => i.length + j.length ≤ sizeLine ∧ R (.str (i ++ j))
  | .lst xs, .lst ys, R => xs.length + ys.length ≤ sizeLine ∧ R (.lst (xs ++ ys))
  | .tup xs, .tup ys, R => xs.length + ys.length ≤ sizeLine ∧ R (.tup (xs ++ ys))
  | _, _, _ => False
def DivOk (j : Int) : Prop := 0 < j ∧ j.natAbs.log2 < 9000
theorem divOk_of {j : Int} (h : 0 < j) (h2 : j < 2 ^ 300) : DivOk j := ⟨h, by
  have : j.natAbs < 2 ^ 300 := by omega
  exact Nat.lt_of_lt_of_le (PySem.Flt.log2_lt_of (by decide) this) (by decide)⟩
def gDiv : D → D → (D → Prop) → Prop
  | .int i, .int j, R => DivOk j ∧ R (.int (i / j))
  | _, _, _ => False
def gMod : D → D → (D → Prop) → Prop
  | .int i, .int j, R => 0 < j ∧ R (.int (i % j))
  | _, _, _ => False
def gPow : D → D → (D → Prop) → Prop
  | .int i, .int j, R => CPow i j ∧ R (.int (i ^ j.toNat))
  | _, _, _ => False
theorem qe_mul (ha : QE X T Z a ta) (hb : QE X T Z b tb) : QE X T Z (.BinOp a .Mult b pos) (dBin gMul ta tb) :=
  qe_bin (op_mul.or op_mulW) (ok2_at fun _ _ F H v w x y R _ rx ry hg => by
    cases rx <;> try exact hg.elim
    cases ry <;> try exact hg.elim
    rename_i i j
    obtain ⟨c, h⟩ := hg
    exact ⟨_, _, .int _, h, fun Q q => c.imp (fun c => ⟨i, j, rfl, rfl, c, q⟩) fun c => ⟨i, j, rfl, rfl, c, q⟩⟩) ha hb
theorem qe_sub (ha : QE X T Z a ta) (hb : QE X T Z b tb) : QE X T Z (.BinOp a .Sub b pos) (dBin gSub ta tb) :=
  qe_bin op_sub (ok2_at fun _ _ F H v w x y R _ rx ry hg => by
    cases rx <;> try exact hg.elim
    cases ry <;> try exact hg.elim
    rename_i i j
    exact ⟨_, _, .int _, hg, fun Q q => ⟨i, j, rfl, rfl, q⟩⟩) ha hb
theorem qe_div (ha : QE X T Z a ta) (hb : QE X T Z b tb) : QE X T Z (.BinOp a .FloorDiv b pos) (dBin gDiv ta tb) :=
  qe_bin op_fdivW (ok2_at fun _ _ F H v w x y R _ rx ry hg => by
    cases rx <;> try exact hg.elim
    cases ry <;> try exact hg.elim
    rename_i i j
    obtain ⟨c, h⟩ := hg
    exact ⟨_, _, .int _, h, fun Q q => ⟨i, j, rfl, rfl, c, q⟩⟩) ha hb
theorem qe_mod (ha : QE X T Z a ta) (hb : QE X T Z b tb) : QE X T Z (.BinOp a .Mod b pos) (dBin gMod ta tb) :=
  qe_bin op_mod (ok2_at fun _ _ F H v w x y R _ rx ry hg => by
    cases rx <;> try exact hg.elim
    cases ry <;> try exact hg.elim
    rename_i i j
    obtain ⟨c, h⟩ := hg
    exact ⟨_, _, .int _, h, fun Q q => ⟨i, j, rfl, rfl, c, q⟩⟩) ha hb
theorem qe_pow (ha : QE X T Z a ta) (hb : QE X T Z b tb) : QE X T Z (.BinOp a .Pow b pos) (dBin gPow ta tb) :=
  qe_bin op_pow (ok2_at fun _ _ F H v w x y R _ rx ry hg => by
    cases rx <;> try exact hg.elim
    cases ry <;> try exact hg.elim
    rename_i i j
    obtain ⟨c, h⟩ := hg
    exact ⟨_, _, .int _, h, fun Q q => ⟨i, j, rfl, rfl, c, q⟩⟩) ha hb
theorem laid_lst {K : PySem.W.Frag} {mg : Mg} {dr : Option (Addr × Addr)} {F H : Hp} {p : Addr} {xs : List V} {ds : List D} (k : FOk K T dr F H) (hp : H p = none) (r : RpL K mg F xs ds) : Grw T dr F H (upd F p (.lst xs)) (upd H p (.lst xs)) ∧ FOk K T dr (upd F p (.lst xs)) (upd H p (.lst xs)) ∧ Rp K mg (upd F p (.lst xs)) (.ref p) (.lst ds) := by
  obtain ⟨k1, g1⟩ := k.laid (o := .lst xs) hp
  exact ⟨g1, k1, .lst upd_same (r.mono g1.ff)⟩
theorem laid_tup {K : PySem.W.Frag} {mg : Mg} {dr : Option (Addr × Addr)} {F H : Hp} {p : Addr} {xs : List V} {ds : List D} (k : FOk K T dr F H) (hp : H p = none) (r : RpL K mg F xs ds) : Grw T dr F H (upd F p (.tup xs)) (upd H p (.tup xs)) ∧ FOk K T dr (upd F p (.tup xs)) (upd H p (.tup xs)) ∧ Rp K mg (upd F p (.tup xs)) (.ref p) (.tup ds) := by
  obtain ⟨k1, g1⟩ := k.laid (o := .tup xs) hp
  exact ⟨g1, k1, .tup (SqT.of upd_same) (r.mono g1.ff)⟩
theorem qe_add (ha : QE X T Z a ta) (hb : QE X T Z b tb) : QE X T Z (.BinOp a .Add b pos) (dBin gAdd ta tb) :=
  qe_bin (((op_add.or op_add_str).or op_cat).or op_catA) (fun dr F H v w x y Q R k rx ry hg hq => by
    cases rx with
    | int i =>
      cases ry <;> try exact hg.elim
      rename_i j
      exact .inl (.inl (.inl ⟨i, j, rfl, rfl, hq _ H F _ Grw.refl k (.int _) hg⟩))
    | str i =>
      cases ry <;> try exact hg.elim
      rename_i j
      exact .inl (.inl (.inr ⟨i, j, rfl, rfl, hg.1, hq _ H F _ Grw.refl k (.str _) hg.2⟩))
    | lst h1 h2 =>
      cases ry <;> try exact hg.elim
      rename_i b ys es h3 h4
      refine .inl (.inr ⟨_, _, _, _, rfl, rfl, k.sub _ _ h1, k.sub _ _ h3, by rw [h2.length, h4.length]; exact hg.1, fun p hp => ?_⟩)
      obtain ⟨g1, k1, r1⟩ := laid_lst k hp (h2.append h4)
      exact hq _ _ _ _ g1 k1 r1 hg.2
    | tup h1 h2 =>
      cases ry <;> try exact hg.elim
      rename_i b ys es h3 h4
      refine .inr ⟨_, _, _, _, rfl, rfl, k.sub.sqt h1, k.sub.sqt h3, by rw [h2.length, h4.length]; exact hg.1, fun e => ?_, fun _ e => ?_, fun _ _ p hp => ?_⟩
      · subst e
        cases h2
        exact hq _ H F _ Grw.refl k (.tup h3 h4) hg.2
      · subst e
        cases h4
        refine hq _ H F _ Grw.refl k (.tup h1 ?_) hg.2
        rw [List.append_nil]
        exact h2
      · obtain ⟨g1, k1, r1⟩ := laid_tup k hp (h2.append h4)
        exact hq _ _ _ _ g1 k1 r1 hg.2
    | _ => exact hg.elim) ha hb
def gNeg : D → (D → Prop) → Prop
  | .int i, R => R (.int (-i))
  | _, _ => False
theorem qe_neg (ha : QE X T Z a ta) : QE X T Z (.UnaryOp .USub a pos) (dUn gNeg ta) :=
  pe_imp (pe_un un_neg ha) fun σ H Q ⟨ρ, F, er, R, rep, tk, h, hk⟩ => ⟨ρ, F, er, _, rep, tk, h, fun v H1 F1 x ρ1 e1 rep1 rv h1 => by
    cases rv <;> try exact h1.elim
    rename_i i
    exact ⟨i, rfl, hk _ H1 F1 _ ρ1 e1 rep1 (.int _) h1⟩⟩

/-! ### comparisons -/
def gLt : D → D → (D → Prop) → Prop
  | .int i, .int j, R => R (.bl (decide (i < j)))
  | _, _, _ => False
def gLe : D → D → (D → Prop) → Prop
  | .int i, .int j, R => R (.bl (decide (i ≤ j)))
  | _, _, _ => False
def gGt : D → D → (D → Prop) → Prop
  | .int i, .int j, R => R (.bl (decide (j < i)))
  | _, _, _ => False
def gGe : D → D → (D → Prop) → Prop
  | .int i, .int j, R => R (.bl (decide (j ≤ i)))
  | _, _, _ => False
theorem ok_lt : Ok2 X T (rI0 fun i j => .bl (decide (i < j))) gLt := ok2_at fun _ _ F H v w x y R _ rx ry hg => by
  cases rx <;> try exact hg.elim
  cases ry <;> try exact hg.elim
  rename_i i j
  exact ⟨_, _, .bl _, hg, fun Q q => ⟨i, j, rfl, rfl, q⟩⟩
theorem ok_le : Ok2 X T (rI0 fun i j => .bl (decide (i ≤ j))) gLe := ok2_at fun _ _ F H v w x y R _ rx ry hg => by
  cases rx <;> try exact hg.elim
  cases ry <;> try exact hg.elim
  rename_i i j
  exact ⟨_, _, .bl _, hg, fun Q q => ⟨i, j, rfl, rfl, q⟩⟩
theorem ok_gt : Ok2 X T (rI0 fun i j => .bl (decide (j < i))) gGt := ok2_at fun _ _ F H v w x y R _ rx ry hg => by
  cases rx <;> try exact hg.elim
  cases ry <;> try exact hg.elim
  rename_i i j
  exact ⟨_, _, .bl _, hg, fun Q q => ⟨i, j, rfl, rfl, q⟩⟩
theorem ok_ge : Ok2 X T (rI0 fun i j => .bl (decide (j ≤ i))) gGe := ok2_at fun _ _ F H v w x y R _ rx ry hg => by
  cases rx <;> try exact hg.elim
  cases ry <;> try exact hg.elim
  rename_i i j
  exact ⟨_, _, .bl _, hg, fun Q q => ⟨i, j, rfl, rfl, q⟩⟩
mutual
/-- as plain data; an error, a def, the script are none -/
def D.py : D → PyData
  | .non => .none
  | .bl b => .bool b
  | .int i => .int i
  | .str x => .str x
  | .lst xs => .list (pyL xs)
  | .tup xs => .tuple (pyL xs)
  | _ => .none
def pyL : List D → List PyData
  | [] => []
  | x :: xs => D.py x :: pyL xs
end
mutual
def D.plain : D → Bool
  | .non => true
  | .bl _ => true
  | .int _ => true
  | .str _ => true
  | .lst xs => plainL xs
  | .tup xs => plainL xs
  | _ => false
def plainL : List D → Bool
  | [] => true
  | x :: xs => D.plain x && plainL xs
end
mutual
theorem Rp.dp {K : PySem.W.Frag} {mg : Mg} {F H : Hp} (s : Fx F H) : ∀ {v : V} {d : D}, Rp K mg F v d → D.plain d = true → Dp K H v (D.py d)
  | _, _, .non, _ => .non
  | _, _, .bl b, _ => .bl b
  | _, _, .int i, _ => .int i
  | _, _, .str x, _ => .str x
  | _, _, .lst h1 h2, p => .lst (SqL.of (s _ _ h1)) (RpL.dp s h2 p)
  | _, _, .tup h1 h2, p => .tup (s.sqt h1) (RpL.dp s h2 p)
  | _, _, .dic h1 h2, p => by cases p
  | _, _, .exc0 h1 h2, p => by cases p
  | _, _, .exc h1 h2 h3 h4, p => by cases p
  | _, _, .fn h1, p => by cases p
  | _, _, .scr h1 h2, p => by cases p
  | _, _, .ty n, p => by cases p
  | _, _, .lam _ _ _ _ _, p => by cases p
  | _, _, .clo _ _, p => by cases p
theorem RpL.dp {K : PySem.W.Frag} {mg : Mg} {F H : Hp} (s : Fx F H) : ∀ {v : List V} {d : List D}, RpL K mg F v d → plainL d = true → DpAll K H v (pyL d)
  | _, _, .nil, _ => .nil
  | _, _, .cons h1 h2, p => by
    obtain ⟨p1, p2⟩ := Bool.and_eq_true_iff.mp p
    exact .cons (Rp.dp s h1 p1) (RpL.dp s h2 p2)
end
/-- == where both are plain -/
def EqOk (x y : D) : Prop := x.plain = true ∧ y.plain = true ∧ SeqAt.shaped x.py = true ∧ SeqAt.shaped y.py = true
def scalD : D → Bool
  | .non => true
  | .bl _ => true
  | .int _ => true
  | .str _ => true
  | _ => false
/-- the pairs of scalars whose comparison wants no bound -/
def scalP : D → D → Bool
  | .str _, .str _ => true
  | .int _, .int _ => true
  | .bl _, .bl _ => true
  | _, _ => false
def gEq : D → D → (D → Prop) → Prop := fun x y R => (scalP x y = true ∨ EqOk x y) ∧ R (.bl (PyData.eqv x.py y.py))
def gNe : D → D → (D → Prop) → Prop := fun x y R => (scalP x y = true ∨ EqOk x y) ∧ R (.bl (!PyData.eqv x.py y.py))
def rEqM (K : PySem.W.Frag) : R2 := fun x y H Q => rEq x y H Q ∨ rEqD K x y H Q
def rNeM (K : PySem.W.Frag) : R2 := fun x y H Q => rNe x y H Q ∨ rNeD K x y H Q
theorem scalP_eq {K : PySem.W.Frag} {mg : Mg} {F : Hp} {v w : V} {x y : D} (rx : Rp K mg F v x) (ry : Rp K mg F w y) (h : scalP x y = true) : scal v w = true ∧ decide (v = w) = PyData.eqv x.py y.py := by
  cases rx <;> try (cases y <;> cases h; done)
  all_goals (cases ry <;> try (cases h; done))
  · exact ⟨rfl, dec_bl⟩
  · exact ⟨rfl, dec_int⟩
  · exact ⟨rfl, dec_str⟩
theorem ok_eq : Ok2 X T (rEqM X.K) gEq := ok2_at fun _ _ F H v w x y R k rx ry hg => by
  obtain ⟨hc, h⟩ := hg
  rcases hc with hc | ⟨p1, p2, s1, s2⟩
  · obtain ⟨h1, h2⟩ := scalP_eq rx ry hc
    exact ⟨_, _, .bl _, h, fun Q q => .inl ⟨h1, by rw [h2]; exact q⟩⟩
  · exact ⟨_, _, .bl _, h, fun Q q => .inr ⟨_, _, rx.dp k.sub p1, ry.dp k.sub p2, s1, s2, q⟩⟩
theorem ok_ne : Ok2 X T (rNeM X.K) gNe := ok2_at fun _ _ F H v w x y R k rx ry hg => by
  obtain ⟨hc, h⟩ := hg
  rcases hc with hc | ⟨p1, p2, s1, s2⟩
  · obtain ⟨h1, h2⟩ := scalP_eq rx ry hc
    exact ⟨_, _, .bl _, h, fun Q q => .inl ⟨h1, by rw [h2]; exact q⟩⟩
  · exact ⟨_, _, .bl _, h, fun Q q => .inr ⟨_, _, rx.dp k.sub p1, ry.dp k.sub p2, s1, s2, q⟩⟩
def isNon : D → Bool
  | .non => true
  | _ => false
def gIs : D → D → (D → Prop) → Prop
  | x, .non, R => R (.bl (isNon x))
  | _, _, _ => False
def gIsNot : D → D → (D → Prop) → Prop
  | x, .non, R => R (.bl (!isNon x))
  | _, _, _ => False
theorem Rp.isNon {K : PySem.W.Frag} {mg : Mg} {F : Hp} {v : V} {d : D} (r : Rp K mg F v d) : decide (v = .non) = DL.isNon d := by
  cases r <;> rfl
theorem ok_is : Ok2 X T (fun x y H Q => y = .non ∧ Q (.bl (decide (x = .non))) H) gIs := ok2_at fun _ _ F H v w x y R k rx ry hg => by
  cases ry <;> try exact hg.elim
  refine ⟨_, _, .bl _, hg, fun Q q => ⟨rfl, ?_⟩⟩
  rw [rx.isNon]
  exact q
theorem ok_isnot : Ok2 X T (fun x y H Q => y = .non ∧ Q (.bl (!decide (x = .non))) H) gIsNot := ok2_at fun _ _ F H v w x y R k rx ry hg => by
  cases ry <;> try exact hg.elim
  refine ⟨_, _, .bl _, hg, fun Q q => ⟨rfl, ?_⟩⟩
  rw [rx.isNon]
  exact q
theorem qe_cmp {op : CmpOp} {r : R2} {g : D → D → (D → Prop) → Prop} (ho : OpR X (compareOp op) r) (k : Ok2 X T r g) (hm : behindInMarks op b = false) (ha : QE X T Z a ta) (hb : QE X T Z b tb) : QE X T Z (.Compare a [op] [b] pos) (dBin g ta tb) := qe2 (pe_cmpR ho ha hb hm) k
theorem qe_lt (ha : QE X T Z a ta) (hb : QE X T Z b tb) : QE X T Z (.Compare a [.Lt] [b] pos) (dBin gLt ta tb) := qe_cmp op_lt ok_lt (nomark _) ha hb
theorem qe_le (ha : QE X T Z a ta) (hb : QE X T Z b tb) : QE X T Z (.Compare a [.LtE] [b] pos) (dBin gLe ta tb) := qe_cmp op_le ok_le (nomark _) ha hb
theorem qe_gt (ha : QE X T Z a ta) (hb : QE X T Z b tb) : QE X T Z (.Compare a [.Gt] [b] pos) (dBin gGt ta tb) := qe_cmp op_gt ok_gt (nomark _) ha hb
theorem qe_ge (ha : QE X T Z a ta) (hb : QE X T Z b tb) : QE X T Z (.Compare a [.GtE] [b] pos) (dBin gGe ta tb) := qe_cmp op_ge ok_ge (nomark _) ha hb
theorem qe_eq (hu : X.A.units + 64 < cLine) (ha : QE X T Z a ta) (hb : QE X T Z b tb) : QE X T Z (.Compare a [.Eq] [b] pos) (dBin gEq ta tb) := qe_cmp (op_eq.or (op_eqD hu)) ok_eq (nomark _) ha hb
theorem qe_ne (hu : X.A.units + 64 < cLine) (ha : QE X T Z a ta) (hb : QE X T Z b tb) : QE X T Z (.Compare a [.NotEq] [b] pos) (dBin gNe ta tb) := qe_cmp (op_ne.or (op_neD hu)) ok_ne (nomark _) ha hb
theorem qe_is (ha : QE X T Z a ta) (hb : QE X T Z b tb) : QE X T Z (.Compare a [.Is] [b] pos) (dBin gIs ta tb) := qe_cmp op_isN ok_is (nomark _) ha hb
theorem qe_isnot (ha : QE X T Z a ta) (hb : QE X T Z b tb) : QE X T Z (.Compare a [.IsNot] [b] pos) (dBin gIsNot ta tb) := qe_cmp op_notN ok_isnot (nomark _) ha hb
/-- a < b < c -/
def dChain (g g' : D → D → (D → Prop) → Prop) (ta tb tc : DTE) : DTE := fun ρ R er => ta ρ (fun x ρ1 => tb ρ1 (fun y ρ2 => g x y fun d => match d with
  | .bl true => tc ρ2 (fun z ρ3 => g' y z fun d' => R d' ρ3) er
  | .bl false => R (.bl false) ρ2
  | _ => False) er) er
theorem qe_chain {op op' : CmpOp} {r r' : R2} {g g' : D → D → (D → Prop) → Prop} {c : Expr} {tc : DTE} (ho : OpR X (compareOp op) r) (ho' : OpR X (compareOp op') r') (k : Ok2 X T r g) (k' : Ok2 X T r' g') (ha : QE X T Z a ta) (hb : QE X T Z b tb) (hc : QE X T Z c tc)
    (hm : PE X (.Compare a [op, op'] [b, c] pos) (tChain r r' (up X T Z ta) (up X T Z tb) (up X T Z tc))) : QE X T Z (.Compare a [op, op'] [b, c] pos) (dChain g g' ta tb tc) :=
  pe_imp hm fun σ H Q ⟨ρ, F, er, R, rep, tk, h, hk⟩ => ⟨ρ, F, er, _, rep, tk, h, fun v H1 F1 x ρ1 e1 rep1 rv h1 => ⟨ρ1, F1, er, _, rep1, tk, h1, fun w H2 F2 y ρ2 e2 rep2 rw_ h2 =>
    k Z.dr F2 H2 v w x y _ _ rep2.ok (rv.mono e2) rw_ h2 fun u H3 F3 d g1 k1 ru hR => by
      cases ru <;> try exact hR.elim
      rename_i b
      refine ⟨b, rfl, ?_⟩
      cases b with
      | true =>
        rw [if_pos rfl]
        exact ⟨ρ2, F3, er, _, rep2.step g1 k1, tk, hR, fun z H4 F4 dz ρ4 e4 rep4 rz h4 => k' Z.dr F4 H4 w z y dz Q _ rep4.ok (rw_.mono (g1.ff.trans e4)) rz h4 fun u2 H5 F5 d2 g2 k2 ru2 hR2 =>
          hk u2 H5 F5 d2 ρ4 ((((e1.trans e2).trans g1.ff).trans e4).trans g2.ff) (rep4.step g2 k2) ru2 hR2⟩
      | false =>
        rw [if_neg Bool.false_ne_true]
        exact hk _ H3 F3 _ ρ2 ((e1.trans e2).trans g1.ff) (rep2.step g1 k1) (.bl false) hR⟩⟩
end
end DL
set_option Elab.async false
set_option linter.all false
set_option maxRecDepth 100000
set_option maxHeartbeats 2000000
namespace DL
open PySem PySem.Spec PyProof.Rows L2
section
variable {X : Cx} {T : List (Addr × Str)} {Z : Zx} {a b c : Expr} {ta tb tc : DTE} {rest : List Expr} {pos : Pos} {tt tu : DTT}
/-! ### and, or, not, if -/
def dAnd (ta tb : DTE) : DTE := fun ρ R er => ta ρ (fun x ρ1 => match x with
  | .bl true => tb ρ1 R er
  | .bl false => R (.bl false) ρ1
  | _ => False) er
def dOr (ta tb : DTE) : DTE := fun ρ R er => ta ρ (fun x ρ1 => match x with
  | .bl true => R (.bl true) ρ1
  | .bl false => tb ρ1 R er
  | _ => False) er
def dNot (ta : DTE) : DTE := fun ρ R er => ta ρ (fun x ρ1 => match x with
  | .bl k => R (.bl (!k)) ρ1
  | _ => False) er
theorem qe_one {op : BoolOp} (ha : QE X T Z a ta) : QE X T Z (.BoolOp op [a] pos) ta := pe_one ha
theorem qe_and (ha : QE X T Z a ta) (hb : QE X T Z (.BoolOp .And (b :: rest) pos) tb) : QE X T Z (.BoolOp .And (a :: b :: rest) pos) (dAnd ta tb) :=
  pe_imp (pe_and ha hb) fun σ H Q ⟨ρ, F, er, R, rep, tk, h, hk⟩ => ⟨ρ, F, er, _, rep, tk, h, fun v H1 F1 x ρ1 e1 rep1 rv h1 => by
    cases rv <;> try exact h1.elim
    rename_i k
    refine ⟨k, rfl, ?_⟩
    cases k with
    | true =>
      rw [if_pos rfl]
      exact ⟨ρ1, F1, er, R, rep1, tk, h1, fun w H2 F2 y ρ2 e2 => hk w H2 F2 y ρ2 (e1.trans e2)⟩
    | false =>
      rw [if_neg Bool.false_ne_true]
      exact hk _ H1 F1 _ ρ1 e1 rep1 (.bl _) h1⟩
theorem qe_or (ha : QE X T Z a ta) (hb : QE X T Z (.BoolOp .Or (b :: rest) pos) tb) : QE X T Z (.BoolOp .Or (a :: b :: rest) pos) (dOr ta tb) :=
  pe_imp (pe_or ha hb) fun σ H Q ⟨ρ, F, er, R, rep, tk, h, hk⟩ => ⟨ρ, F, er, _, rep, tk, h, fun v H1 F1 x ρ1 e1 rep1 rv h1 => by
    cases rv <;> try exact h1.elim
    rename_i k
    refine ⟨k, rfl, ?_⟩
    cases k with
    | false =>
      rw [if_neg Bool.false_ne_true]
      exact ⟨ρ1, F1, er, R, rep1, tk, h1, fun w H2 F2 y ρ2 e2 => hk w H2 F2 y ρ2 (e1.trans e2)⟩
    | true =>
      rw [if_pos rfl]
      exact hk _ H1 F1 _ ρ1 e1 rep1 (.bl _) h1⟩
theorem qe_not (ha : QE X T Z a ta) : QE X T Z (.UnaryOp .Not a pos) (dNot ta) :=
  pe_imp (pe_not ha) fun σ H Q ⟨ρ, F, er, R, rep, tk, h, hk⟩ => ⟨ρ, F, er, _, rep, tk, h, fun v H1 F1 x ρ1 e1 rep1 rv h1 => by
    cases rv <;> try exact h1.elim
    rename_i k
    exact ⟨k, rfl, hk _ H1 F1 _ ρ1 e1 rep1 (.bl _) h1⟩⟩
/-! tests -/
def dVal (ta : DTE) : DTT := fun ρ R er => ta ρ (fun x ρ1 => match x with
  | .bl k => R k ρ1
  | _ => False) er
def dtAnd (t u : DTT) : DTT := fun ρ R er => t ρ (fun k ρ1 => match k with
  | true => u ρ1 R er
  | false => R false ρ1) er
def dtOr (t u : DTT) : DTT := fun ρ R er => t ρ (fun k ρ1 => match k with
  | true => R true ρ1
  | false => u ρ1 R er) er
def dtNot (t : DTT) : DTT := fun ρ R er => t ρ (fun k ρ1 => R (!k) ρ1) er
theorem qt_val (ha : QE X T Z a ta) (he : ∀ whole, isTrue a X.env whole = (do let v ← whole; standAt a.pos; holding [v] (truthy v)) := by intro _; rfl) : QT X T Z a (dVal ta) :=
  pt_imp (pt_val ha he) fun σ H Q ⟨ρ, F, er, R, rep, tk, h, hk⟩ => ⟨ρ, F, er, _, rep, tk, h, fun v H1 F1 x ρ1 e1 rep1 rv h1 => by
    cases rv <;> try exact h1.elim
    rename_i k
    exact ⟨k, rfl, hk _ H1 F1 ρ1 e1 rep1 h1⟩⟩
theorem qt_not (ha : QT X T Z a tt) : QT X T Z (.UnaryOp .Not a pos) (dtNot tt) :=
  pt_imp (pt_not ha) fun σ H Q ⟨ρ, F, er, R, rep, tk, h, hk⟩ => ⟨ρ, F, er, _, rep, tk, h, fun k H1 F1 ρ1 e1 rep1 h1 => hk _ H1 F1 ρ1 e1 rep1 h1⟩
/-- any value by its truth -/
def truD : D → Option Bool
  | .non => some false
  | .bl k => some k
  | .int i => some (i != 0)
  | .lst xs => some (!xs.isEmpty)
  | .tup xs => some (!xs.isEmpty)
  | .dic xs => some (!xs.isEmpty)
  | _ => none
def dTru (ta : DTE) : DTT := fun ρ R er => ta ρ (fun x ρ1 => match truD x with
  | some k => R k ρ1
  | none => False) er
theorem RpL.isEmpty {K : PySem.W.Frag} {mg : Mg} {F : Hp} {xs : List V} {ds : List D} (r : RpL K mg F xs ds) : xs.isEmpty = ds.isEmpty := by
  cases r <;> rfl
theorem RpK.isEmpty {K : PySem.W.Frag} {mg : Mg} {F : Hp} {xs : List (Key × V)} {ds : List (Key × D)} (r : RpK K mg F xs ds) : xs.isEmpty = ds.isEmpty := by
  cases r <;> rfl
theorem qt_tru (ha : QE X T Z a ta) (he : ∀ whole, isTrue a X.env whole = (do let v ← whole; standAt a.pos; holding [v] (truthy v)) := by intro _; rfl) : QT X T Z a (dTru ta) :=
  pt_imp (pt_truth ha he) fun σ H Q ⟨ρ, F, er, R, rep, tk, h, hk⟩ => ⟨ρ, F, er, _, rep, tk, h, fun v H1 F1 x ρ1 e1 rep1 rv h1 => by
    cases rv with
    | non => exact ⟨false, rfl, hk _ H1 F1 ρ1 e1 rep1 h1⟩
    | bl k => exact ⟨k, rfl, hk _ H1 F1 ρ1 e1 rep1 h1⟩
    | int i => exact ⟨_, rfl, hk _ H1 F1 ρ1 e1 rep1 h1⟩
    | lst h2 h3 => exact ⟨_, .inl ⟨_, SqL.of (rep1.ok.sub _ _ h2), by rw [h3.isEmpty]⟩, hk _ H1 F1 ρ1 e1 rep1 h1⟩
    | tup h2 h3 => exact ⟨_, .inr (.inl ⟨_, rep1.ok.sub.sqt h2, by rw [h3.isEmpty]⟩), hk _ H1 F1 ρ1 e1 rep1 h1⟩
    | dic h2 h3 => exact ⟨_, .inr (.inr ⟨_, rep1.ok.sub _ _ h2, by rw [h3.isEmpty]⟩), hk _ H1 F1 ρ1 e1 rep1 h1⟩
    | _ => exact h1.elim⟩
theorem qw_and1 (ha : QT X T Z a tt) : QW X T Z (.BoolOp .And [a] pos) tt := pw_and1 ha
theorem qw_or1 (ha : QT X T Z a tt) : QW X T Z (.BoolOp .Or [a] pos) tt := pw_or1 ha
theorem qw_and (ha : QT X T Z a tt) (hb : QW X T Z (.BoolOp .And (b :: rest) pos) tu) : QW X T Z (.BoolOp .And (a :: b :: rest) pos) (dtAnd tt tu) :=
  pw_imp (pw_and ha hb) fun σ H Q ⟨ρ, F, er, R, rep, tk, h, hk⟩ => ⟨ρ, F, er, _, rep, tk, h, fun k H1 F1 ρ1 e1 rep1 h1 => by
    cases k with
    | true =>
      rw [if_pos rfl]
      exact ⟨ρ1, F1, er, R, rep1, tk, h1, fun w H2 F2 ρ2 e2 => hk w H2 F2 ρ2 (e1.trans e2)⟩
    | false =>
      rw [if_neg Bool.false_ne_true]
      exact hk _ H1 F1 ρ1 e1 rep1 h1⟩
theorem qw_or (ha : QT X T Z a tt) (hb : QW X T Z (.BoolOp .Or (b :: rest) pos) tu) : QW X T Z (.BoolOp .Or (a :: b :: rest) pos) (dtOr tt tu) :=
  pw_imp (pw_or ha hb) fun σ H Q ⟨ρ, F, er, R, rep, tk, h, hk⟩ => ⟨ρ, F, er, _, rep, tk, h, fun k H1 F1 ρ1 e1 rep1 h1 => by
    cases k with
    | false =>
      rw [if_neg Bool.false_ne_true]
      exact ⟨ρ1, F1, er, R, rep1, tk, h1, fun w H2 F2 ρ2 e2 => hk w H2 F2 ρ2 (e1.trans e2)⟩
    | true =>
      rw [if_pos rfl]
      exact hk _ H1 F1 ρ1 e1 rep1 h1⟩
theorem qt_w (h : QW X T Z a tt) : QT X T Z a tt := h.pt
def dIf (t : DTT) (ta tb : DTE) : DTE := fun ρ R er => t ρ (fun k ρ1 => match k with
  | true => ta ρ1 R er
  | false => tb ρ1 R er) er
theorem qe_if (hc : QT X T Z c tt) (ha : QE X T Z a ta) (hb : QE X T Z b tb) : QE X T Z (.IfExp c a b pos) (dIf tt ta tb) :=
  pe_imp (pe_ifExp hc ha hb) fun σ H Q ⟨ρ, F, er, R, rep, tk, h, hk⟩ => ⟨ρ, F, er, _, rep, tk, h, fun k H1 F1 ρ1 e1 rep1 h1 => by
    cases k with
    | true =>
      rw [if_pos rfl]
      exact ⟨ρ1, F1, er, R, rep1, tk, h1, fun w H2 F2 d ρ2 e2 => hk w H2 F2 d ρ2 (e1.trans e2)⟩
    | false =>
      rw [if_neg Bool.false_ne_true]
      exact ⟨ρ1, F1, er, R, rep1, tk, h1, fun w H2 F2 d ρ2 e2 => hk w H2 F2 d ρ2 (e1.trans e2)⟩⟩

/-! ### places -/
theorem pe_or_ {e : Expr} {t1 t2 : TE} (h1 : PE X e t1) (h2 : PE X e t2) : PE X e (fun σ H Q => t1 σ H Q ∨ t2 σ H Q) := ⟨fun pins s σ H Q I h => h.elim (h1.run pins s σ H Q I) (h2.run pins s σ H Q I)⟩
def valD (kvs : List (Key × D)) (k : Key) : Option D := (kvs.find? fun kv => decide (kv.1 = k)).map (·.2)
theorem RpK.val {K : PySem.W.Frag} {mg : Mg} {F : Hp} : ∀ {ks : List (Key × V)} {ds : List (Key × D)} {k : Key}, RpK K mg F ks ds → (∀ d, valD ds k = some d → ∃ v, valV ks k = some v ∧ Rp K mg F v d) ∧ (valD ds k = none → valV ks k = none)
  | _, _, k, .nil => ⟨fun d h => (by cases h), fun _ => rfl⟩
  | _, _, k, .cons (k := k0) r t => by
    by_cases e : k0 = k
    · refine ⟨fun d h => ?_, fun h => ?_⟩
      · rw [valV_pos (p := (k0, _)) e]
        simp [valD, List.find?_cons, e] at h
        subst h
        exact ⟨_, rfl, r⟩
      · simp [valD, List.find?_cons, e] at h
    · rw [valV_neg (p := (k0, _)) e]
      have q : ∀ (d : D) (ds : List (Key × D)), valD ((k0, d) :: ds) k = valD ds k := fun d ds => by simp [valD, List.find?_cons, e]
      rw [q]
      exact RpK.val t
def keyD : D → Option Key
  | .int i => some (.inl i)
  | .str x => some (.inr x)
  | _ => none
def gIx : D → D → (D → Prop) → Prop
  | .lst xs, .int i, R => match atI xs i with
    | some d => R d
    | none => False
  | .tup xs, .int i, R => match atI xs i with
    | some d => R d
    | none => False
  | .dic ks, y, R => match keyD y with
    | some k => (match valD ks k with
      | some d => R d
      | none => False)
    | none => False
  | _, _, _ => False
theorem RpL.at_ {K : PySem.W.Frag} {mg : Mg} {F : Hp} {xs : List V} {ds : List D} {i : Int} {d : D} (r : RpL K mg F xs ds) (h : atI ds i = some d) : ∃ v, atI xs i = some v ∧ Rp K mg F v d := by
  unfold atI at h ⊢
  rw [r.length]
  cases e : ixN ds.length i with
  | none =>
    rw [e] at h
    cases h
  | some j =>
    rw [e] at h
    exact r.get h

theorem ix_dict (hu : X.A.units + 1 < cLine) : IxR X (fun x y H Q => ∃ a v, x = .ref a ∧ DGet H a y (some v) ∧ Q v H) := by
  intro value slice pins s σ H x y v u Q I rx ry h hs
  obtain ⟨a, w, rfl, g, q⟩ := h
  obtain rfl : v = Value.ref a := rx
  exact tail_any (dict_typeIs I g) PySem.F.slot_dict_getitem.lookup (d_getItem hu I g ry fun w' s' I' r' => ⟨w, H, I', r', q⟩) hs
theorem keyD_v {K : PySem.W.Frag} {mg : Mg} {F : Hp} {v : V} {d : D} {k : Key} (r : Rp K mg F v d) (h : keyD d = some k) : v = kV k := by
  cases r <;> first | (cases h; rfl) | cases h
theorem qe_ix (hu : X.A.units + 64 < cLine) (ha : QE X T Z a ta) (hb : QE X T Z b tb) (hs : PlainIx b := by exact fun _ _ => rfl) : QE X T Z (.Subscript a b pos) (dBin gIx ta tb) :=
  qe2 (pe_ix ((ix_list.or ix_tup).or (ix_dict (by omega))) ha hb hs) (ok2_at fun _ dr F H v w x y R k rx ry hg => by
    cases rx with
    | lst h1 h2 =>
      cases ry <;> try exact hg.elim
      rename_i i
      rename_i ds
      have hg : (match atI ds i with | some d => R d | none => False) := hg
      cases hd : atI ds i with
      | none =>
        rw [hd] at hg
        exact hg.elim
      | some d =>
        rw [hd] at hg
        obtain ⟨u, e, ru⟩ := h2.at_ hd
        exact ⟨u, d, ru, hg, fun Q q => .inl (.inl ⟨_, _, i, u, rfl, rfl, SqL.of (k.sub _ _ h1), e, q⟩)⟩
    | tup h1 h2 =>
      cases ry <;> try exact hg.elim
      rename_i i
      rename_i ds
      have hg : (match atI ds i with | some d => R d | none => False) := hg
      cases hd : atI ds i with
      | none =>
        rw [hd] at hg
        exact hg.elim
      | some d =>
        rw [hd] at hg
        obtain ⟨u, e, ru⟩ := h2.at_ hd
        exact ⟨u, d, ru, hg, fun Q q => .inl (.inr ⟨_, _, i, u, rfl, rfl, k.sub.sqt h1, e, q⟩)⟩
    | dic h1 h2 =>
      rename_i ds
      have hg : (match keyD y with | some k => (match valD ds k with | some d => R d | none => False) | none => False) := hg
      cases hk : keyD y with
      | none =>
        rw [hk] at hg
        exact hg.elim
      | some kk =>
        rw [hk] at hg
        have hg : (match valD ds kk with | some d => R d | none => False) := hg
        cases hd : valD ds kk with
        | none =>
          rw [hd] at hg
          exact hg.elim
        | some d =>
          rw [hd] at hg
          obtain ⟨u, e, ru⟩ := h2.val.1 d hd
          refine ⟨u, d, ru, hg, fun Q q => .inr ⟨_, u, rfl, ?_, q⟩⟩
          rw [keyD_v ry hk, ← e]
          exact DGet.k (k.sub _ _ h1)
    | _ => exact hg.elim)
/-! ### slices -/
abbrev DTO := DEnv → (Option Int → DEnv → Prop) → (Er → Prop) → Prop
def upO (X : Cx) (T : List (Addr × Str)) (Z : Zx) (te : DTO) : TO := fun σ H Q => ∃ ρ F er R, Rep X.K X.mg T Z ρ F σ H ∧ Takes X (Wer X.K X.mg T Z er) ∧ te ρ R er ∧
  ∀ b H' F' ρ', Fx F F' → Rep X.K X.mg T Z ρ' F' σ H' → R b ρ' → Q b H'
abbrev QO (X : Cx) (T : List (Addr × Str)) (Z : Zx) (e : Option Expr) (te : DTO) : Prop := PO X e (upO X T Z te)
def dNo : DTO := fun ρ R _ => R none ρ
def dPart (ta : DTE) : DTO := fun ρ R er => ta ρ (fun x ρ1 => match x with
  | .int i => R (some i) ρ1
  | _ => False) er
theorem po_imp {e : Option Expr} {t t' : TO} (h : PO X e t) (i : ∀ σ H Q, t' σ H Q → t σ H Q) : PO X e t' := ⟨fun pins s σ H Q I q => h.run pins s σ H Q I (i σ H Q q)⟩
theorem qo_none : QO X T Z none dNo := po_imp po_none fun σ H Q ⟨ρ, F, er, R, rep, tk, h, hk⟩ => hk none H F ρ (Fx.refl F) rep h
theorem qo_some (ha : QE X T Z a ta) : QO X T Z (some a) (dPart ta) := po_imp (po_some ha) fun σ H Q ⟨ρ, F, er, R, rep, tk, h, hk⟩ => ⟨ρ, F, er, _, rep, tk, h, fun v H1 F1 x ρ1 e1 rep1 rv h1 => by
  cases rv <;> try exact h1.elim
  rename_i i
  exact ⟨i, rfl, hk _ H1 F1 ρ1 e1 rep1 h1⟩⟩
def cutD (xs : List D) (lo hi : Option Int) : List D := (xs.drop (HT.sIx xs.length 0 lo)).take (HT.sIx xs.length xs.length hi - HT.sIx xs.length 0 lo)
theorem RpL.cut {K : PySem.W.Frag} {mg : Mg} {F : Hp} {xs : List V} {ds : List D} (r : RpL K mg F xs ds) (lo hi : Option Int) : RpL K mg F (cutV xs lo hi) (cutD ds lo hi) := by
  unfold cutV cutD
  rw [r.length]
  exact (r.drop _).take _
def gSl (x : D) (lo hi : Option Int) (R : D → Prop) : Prop := match x with
  | .lst xs => R (.lst (cutD xs lo hi))
  | .tup xs => R (.tup (cutD xs lo hi))
  | .str z => z.length ≤ sizeLine ∧ R (.str (cutS z lo hi))
  | _ => False
def dSl (ta : DTE) (tl th : DTO) : DTE := fun ρ R er => ta ρ (fun x ρ1 => tl ρ1 (fun lo ρ2 => th ρ2 (fun hi ρ3 => gSl x lo hi fun d => R d ρ3) er) er) er
theorem cut_all {xs : List D} {lo hi : Option Int} (h : HT.sIx xs.length 0 lo = 0 ∧ HT.sIx xs.length xs.length hi = xs.length) : cutD xs lo hi = xs := by
  unfold cutD
  rw [h.1, h.2]
  simp
theorem qe_sl {lo hi : Option Expr} {tl th : DTO} {p2 : Pos} (ha : QE X T Z a ta) (hl : QO X T Z lo tl) (hh : QO X T Z hi th) : QE X T Z (.Subscript a (.Slice lo hi none p2) pos) (dSl ta tl th) :=
  pe_imp (pe_slice ((sl_list.or sl_tupA).or sl_str) ha hl hh) fun σ H Q ⟨ρ, F, er, R, rep, tk, h, hk⟩ => ⟨ρ, F, er, _, rep, tk, h, fun v H1 F1 x ρ1 e1 rep1 rv h1 => ⟨ρ1, F1, er, _, rep1, tk, h1, fun l H2 F2 ρ2 e2 rep2 h2 => ⟨ρ2, F2, er, _, rep2, tk, h2, fun u H3 F3 ρ3 e3 rep3 h3 => by
    have rv := rv.mono (e2.trans e3)
    have e03 := (e1.trans e2).trans e3
    cases rv with
    | lst a1 a2 =>
      refine .inl (.inl ⟨_, _, rfl, SqL.of (rep3.ok.sub _ _ a1), fun p hp => ?_⟩)
      obtain ⟨g1, k1, r1⟩ := laid_lst (dr := Z.dr) rep3.ok hp (a2.cut l u)
      exact hk _ _ _ _ ρ3 (e03.trans g1.ff) (rep3.step g1 k1) r1 h3
    | tup a1 a2 =>
      refine .inl (.inr ⟨_, _, rfl, rep3.ok.sub.sqt a1, fun hw => ?_, fun hw p hp => ?_⟩)
      · rw [a2.length] at hw
        refine hk _ H3 F3 _ ρ3 e03 rep3 ?_ h3
        rw [cut_all hw]
        exact .tup a1 a2
      · obtain ⟨g1, k1, r1⟩ := laid_tup (dr := Z.dr) rep3.ok hp (a2.cut l u)
        exact hk _ _ _ _ ρ3 (e03.trans g1.ff) (rep3.step g1 k1) r1 h3
    | str z => exact .inr ⟨_, rfl, h3.1, hk _ H3 F3 _ ρ3 e03 rep3 (.str _) h3.2⟩
    | _ => exact h3.elim⟩⟩⟩

/-! ### argument lists, displays -/
def dNil : DTA := fun ρ R _ => R [] ρ
def dCons (ta : DTE) (tr : DTA) : DTA := fun ρ R er => ta ρ (fun x ρ1 => tr ρ1 (fun xs ρ2 => R (.d x :: xs) ρ2) er) er
/-- the draws as an argument -/
def dDrw (i : Nat) (tr : DTA) : DTA := fun ρ R er => match ρ[i]? with
  | some (some .drw) => tr ρ (fun xs ρ2 => R (.drw :: xs) ρ2) er
  | _ => False
theorem qa_nil : QA X T Z [] dNil := pa_imp pa_nil fun σ H Q ⟨ρ, F, er, R, rep, tk, h, hk⟩ => hk [] H F [] ρ (Fx.refl F) rep .nil h
theorem qa_cons {es : List Expr} {tr : DTA} (ha : QE X T Z a ta) (hr : QA X T Z es tr) (hs : starEach (a :: es) X.env = (false, eval a X.env) :: starEach es X.env := by rfl) : QA X T Z (a :: es) (dCons ta tr) :=
  pa_imp (pa_cons ha hr hs) fun σ H Q ⟨ρ, F, er, R, rep, tk, h, hk⟩ => ⟨ρ, F, er, _, rep, tk, h, fun v H1 F1 x ρ1 e1 rep1 rv h1 => ⟨ρ1, F1, er, _, rep1, tk, h1, fun vs H2 F2 ds ρ2 e2 rep2 rvs h2 =>
    hk _ H2 F2 _ ρ2 (e1.trans e2) rep2 (.cons (show RpA X.K X.mg F2 Z.dr v (.d x) from rv.mono e2) rvs) h2⟩⟩
theorem qa_drw (i : Nat) {es : List Expr} {tr : DTA} {x : Str} (hr : QA X T Z es tr) (hN : X.N[i]? = some x := by rfl) (hv : Vis X.env.scope x := by first | exact Or.inl rfl | exact Or.inr (Or.inl rfl) | exact Or.inr (Or.inr rfl))
    (hs : starEach (Expr.Name x pos :: es) X.env = (false, eval (Expr.Name x pos) X.env) :: starEach es X.env := by rfl) (hd : (x == ("__debug__" : Str)) = false := by decide) (hcd : (x == ("__classdict__" : Str)) = false := by decide) : QA X T Z (.Name x pos :: es) (dDrw i tr) :=
  pa_imp (pa_cons (pe_var (i := i) hN hv hd hcd) hr hs) fun σ H Q ⟨ρ, F, er, R, rep, tk, h, hk⟩ => by
    unfold dDrw at h
    split at h
    · rename_i hi
      obtain ⟨a, l, h1, h2⟩ := rep.drs i hi
      exact ⟨_, h2, ρ, F, er, _, rep, tk, h, fun vs H2 F2 ds ρ2 e2 rep2 rvs h3 => hk _ H2 F2 _ ρ2 e2 rep2 (.cons (show RpA X.K X.mg F2 Z.dr (.ref a) .drw from ⟨a, l, h1, rfl⟩) rvs) h3⟩
    · exact h.elim
/-- all are data -/
def allD : List DV → Option (List D)
  | [] => some []
  | .d x :: r => (allD r).map (x :: ·)
  | _ :: _ => none
theorem RpAs.all {K : PySem.W.Frag} {mg : Mg} {F : Hp} {dr : Option (Addr × Addr)} : ∀ {vs : List V} {ds : List DV} {xs : List D}, RpAs K mg F dr vs ds → allD ds = some xs → RpL K mg F vs xs
  | _, _, _, .nil, h => by
    cases h
    exact .nil
  | _, .d x :: r, xs, .cons a b, h => by
    obtain ⟨ys, e1, e2⟩ := Option.map_eq_some_iff.mp h
    subst e2
    exact .cons a (RpAs.all b e1)
  | _, .drw :: _, _, .cons a b, h => by cases h
  | _, .own _ :: _, _, .cons a b, h => by cases h
  | _, .lam _ _ :: _, _, .cons a b, h => by cases h
def dTup (ta : DTA) : DTE := fun ρ R er => ta ρ (fun ds ρ1 => match allD ds with
  | some xs => xs.length ≤ 1000 ∧ R (.tup xs) ρ1
  | none => False) er
def dLst (ta : DTA) : DTE := fun ρ R er => ta ρ (fun ds ρ1 => match allD ds with
  | some xs => xs.length ≤ 1000 ∧ R (.lst xs) ρ1
  | none => False) er
theorem line1000 {n : Nat} (h : n ≤ 1000) : n ≤ sizeLine := Nat.le_trans h (by decide)
theorem qe_tup {es : List Expr} {x1} {t : DTA} (h : QA X T Z es t) : QE X T Z (.Tuple es x1 pos) (dTup t) :=
  pe_imp (pe_tup h) fun σ H Q ⟨ρ, F, er, R, rep, tk, h, hk⟩ => ⟨ρ, F, er, _, rep, tk, h, fun vs H1 F1 ds ρ1 e1 rep1 rvs h1 => by
    split at h1
    · rename_i xs hx
      have r := rvs.all hx
      refine ⟨by rw [r.length]; exact line1000 h1.1, fun p hp => ?_⟩
      obtain ⟨g1, k1, r1⟩ := laid_tup (dr := Z.dr) rep1.ok hp r
      exact hk _ _ _ _ ρ1 (e1.trans g1.ff) (rep1.step g1 k1) r1 h1.2
    · exact h1.elim⟩
theorem qe_lst {es : List Expr} {t : DTA} (h : QA X T Z es t) : QE X T Z (.List es pos) (dLst t) :=
  pe_imp (pe_lst h) fun σ H Q ⟨ρ, F, er, R, rep, tk, h, hk⟩ => ⟨ρ, F, er, _, rep, tk, h, fun vs H1 F1 ds ρ1 e1 rep1 rvs h1 => by
    split at h1
    · rename_i xs hx
      have r := rvs.all hx
      refine ⟨by rw [r.length]; exact line1000 h1.1, fun p hp => ?_⟩
      obtain ⟨g1, k1, r1⟩ := laid_lst (dr := Z.dr) rep1.ok hp r
      exact hk _ _ _ _ ρ1 (e1.trans g1.ff) (rep1.step g1 k1) r1 h1.2
    · exact h1.elim⟩
end
end DL
set_option Elab.async false
set_option linter.all false
set_option maxRecDepth 100000
set_option maxHeartbeats 2000000
namespace DL
open PySem PySem.Spec PyProof.Rows L2
/-! ### defs -/
/-- a def's promise over data: the arguments, what it gives, what it raises -/
def SpF (K : PySem.W.Frag) (mg : Mg) (T : List (Addr × Str)) (pt : Pt) : Sp := fun vs H Q E => ∃ (F : Hp) (dr : Option (Addr × Addr)) (ds : List DV) (R : D → Prop) (er : Er → Prop), FOk K T dr F H ∧ RpAs K mg F dr vs ds ∧ pt ds R er ∧
  (∀ v H' F' d, Grw T dr F H F' H' → FOk K T dr F' H' → Rp K mg F' v d → R d → Q v H') ∧ (∀ cls dd H' F' e, Grw T dr F H F' H' → FOk K T dr F' H' → ErAt K mg F' cls dd e → er e → E cls dd H')
structure Fo (P : Program) (w : World) (K : PySem.W.Frag) (mg : Mg) (base : Heap) (x : Str) (st : Stmt) (ps : List Str) (k : Nat) (sp : Sp) : Prop where
  ex : ∃ f fd, mg x = some (.ref f) ∧ FunD K x x (defArgs st) (defBody st) (defScope st) [] [] f fd ∧ Binds K fd ps [] ∧ FnOk P w K mg base (L2.CX P w) k f fd ps sp
/-- a def's promise where no repr is under way -/
structure FnG (P : Program) (w : World) (K : PySem.W.Frag) (mg : Mg) (base : Heap) (k : Nat) (f : Addr) (fd : FuncData) (ps : List Str) (sp : Sp) : Prop where
  len : ∀ vs H Q E, sp vs H Q E → vs.length = ps.length
  run : ∀ (A : Around) (outer : List Env) (s : Shared) (H : Hp) (args : Args) (us : List Value) (vs : List V) (Q : VK) (E : XK), Room k A → A.guards = some [] → Env0 P w K mg base A outer s H → BindsTo s fd args (ps.zip us) → Vals vs us → sp vs H Q E →
    codeAny (model P w) A (.call (.ref f) args) (CR (L2.CX P w) outer P w H s Q E) s
structure Go (P : Program) (w : World) (K : PySem.W.Frag) (mg : Mg) (base : Heap) (x : Str) (st : Stmt) (ps : List Str) (k : Nat) (sp : Sp) : Prop where
  ex : ∃ f fd, mg x = some (.ref f) ∧ FunD K x x (defArgs st) (defBody st) (defScope st) [] [] f fd ∧ Binds K fd ps [] ∧ FnG P w K mg base k f fd ps sp
def dCall (pt : Pt) (ta : DTA) : DTE := fun ρ R er => ta ρ (fun ds ρ1 => pt ds (fun d => R d ρ1) er) er
section
variable {X : Cx} {T : List (Addr × Str)} {Z : Zx} {a b c : Expr} {ta : DTA} {es : List Expr} {p pos : Pos} {x : Str} {st : Stmt} {ps : List Str} {k j : Nat} {pt : Pt}
theorem call_step {σ : L2.St} {ρ : DEnv} {F F1 H1 : Hp} {er : Er → Prop} {R : D → DEnv → Prop} {vs : List V} {ds : List DV} {Q : VK} {E : XK} (e1 : Fx F F1) (rep1 : Rep X.K X.mg T Z ρ F1 σ H1) (rvs : RpAs X.K X.mg F1 Z.dr vs ds) (h : pt ds (fun d => R d ρ) er)
    (hE : ∀ cls dd H', Wer X.K X.mg T Z er cls dd σ H' → E cls dd H') (hk : ∀ v H' F' d ρ', Fx F F' → Rep X.K X.mg T Z ρ' F' σ H' → Rp X.K X.mg F' v d → R d ρ' → Q v H') : SpF X.K X.mg T pt vs H1 Q E :=
  ⟨F1, Z.dr, ds, _, er, rep1.ok, rvs, h, fun v H' F' d g k rv hR => hk v H' F' d ρ (e1.trans g.ff) (rep1.step g k) rv hR, fun cls dd H' F' e g k ea he => hE cls dd H' ⟨ρ, F', e, rep1.step g k, ea, he⟩⟩
theorem qe_call (O : Fo X.prog X.w X.K X.mg X.base x st ps k (SpF X.K X.mg T pt)) (hr : Room j X.A) (hkj : k ≤ j) (hg : Gl X x) (ha : QA X T Z (a :: es) ta) (hdb : (x == ("__debug__" : Str)) = false := by decide)
    (he : starEach (a :: es) X.env = (false, eval a X.env) :: starEach es X.env := by rfl) (hpl : (backTo pos (starEach es X.env)).any (·.1) = false := by rfl) : QE X T Z (.Call (.Name x p) (a :: es) [] pos) (dCall pt ta) := by
  obtain ⟨f, fd, hm, F0, hb, ok⟩ := O.ex
  refine ⟨fun pins s σ H Q I ⟨ρ, F, er, R, rep, tk, h, hk⟩ => ?_⟩
  refine (pe_callSD (E := WE (Wer X.K X.mg T Z er)) ok (hr.mono hkj) hg hm F0.kp hb .nil (passAt tk) ha hdb he hpl).run pins s σ H Q I ?_
  exact ⟨ρ, F, er, _, rep, tk, h, fun vs H1 F1 ds ρ1 e1 rep1 rvs h1 => by
    show SpF X.K X.mg T pt (vs ++ []) H1 Q _
    rw [List.append_nil]
    exact call_step (R := R) e1 rep1 rvs h1 (fun _ _ _ w => w) hk⟩
/-- f(e, ..) where no repr is under way -/
theorem qe_callG (O : Go X.prog X.w X.K X.mg X.base x st ps k (SpF X.K X.mg T pt)) (hr : Room j X.A) (hkj : k ≤ j) (hgd : X.A.guards = some []) (hg : Gl X x) (ha : QA X T Z (a :: es) ta) (hdb : (x == ("__debug__" : Str)) = false := by decide)
    (he : starEach (a :: es) X.env = (false, eval a X.env) :: starEach es X.env := by rfl) (hpl : (backTo pos (starEach es X.env)).any (·.1) = false := by rfl) : QE X T Z (.Call (.Name x p) (a :: es) [] pos) (dCall pt ta) := by
  obtain ⟨f, fd, hm, F0, hb, ok⟩ := O.ex
  refine ⟨fun pins s σ H Q I ⟨ρ, F, er, R, rep, tk, h, hk⟩ => ?_⟩
  refine wpAny_Call_Name_kw (ld_glob I hg hm ?_ hdb)
  have h1 := ha.run pos pins s σ H (fun vs H1 => SpF X.K X.mg T pt vs H1 Q (WE (Wer X.K X.mg T Z er) σ)) I ⟨ρ, F, er, _, rep, tk, h, fun vs H1 F1 ds ρ1 e1 rep1 rvs h1 => call_step (R := R) e1 rep1 rvs h1 (fun _ _ _ w => w) hk⟩
  refine PySem.W.callWith_K (h₀ := X.base) I.ok.mod.kin F0.kp (thn h1 fun us s1 ⟨vs, H1, I1, r, q⟩ => ⟨I1.kIn, ?_⟩) he hpl
  have hl : us.length = ps.length := by rw [← r.length]; exact ok.len _ _ _ _ q
  have hb1 := hb s1 us I1.kIn (by rw [List.append_nil]; exact hl)
  rw [List.append_nil] at hb1
  refine wpAny_call (codeAny_mono (ok.run X.A X.stack s1 H1 ⟨us, []⟩ us vs Q _ (hr.mono hkj) hgd I1.env0 hb1 r q) fun r s' hq => ?_)
  cases r with
  | error e => exact passAt tk σ pins H1 s1 e s' I1 hq
  | ok fl =>
    cases fl with
    | ret u => exact I1.after hq
    | next => exact False.elim hq
    | brk => exact False.elim hq
    | cont => exact False.elim hq

/-! keywords: g puts the values of the names in the order of the parameters -/
def upK (X : Cx) (T : List (Addr × Str)) (Z : Zx) (te : DTA) : TA := upA X T Z te
abbrev QK (X : Cx) (T : List (Addr × Str)) (Z : Zx) (kws : List Keyword) (te : DTA) : Prop := PK X kws (upA X T Z te)
theorem pk_imp {kws : List Keyword} {t t' : TA} (h : PK X kws t) (i : ∀ σ H Q, t' σ H Q → t σ H Q) : PK X kws t' := ⟨fun pos pins s σ H Q I q => h.run pos pins s σ H Q I (i σ H Q q)⟩
theorem qk_nil : QK X T Z [] dNil := pk_imp pk_nil fun σ H Q ⟨ρ, F, er, R, rep, tk, h, hk⟩ => hk [] H F [] ρ (Fx.refl F) rep .nil h
theorem qk_cons {kws : List Keyword} {tr : DTA} {t1 : DTE} {nm : Option Str} {kpos : Pos} (ha : QE X T Z a t1) (hr : QK X T Z kws tr) : QK X T Z (⟨nm, a, kpos⟩ :: kws) (dCons t1 tr) :=
  pk_imp (pk_cons ha hr) fun σ H Q ⟨ρ, F, er, R, rep, tk, h, hk⟩ => ⟨ρ, F, er, _, rep, tk, h, fun v H1 F1 x ρ1 e1 rep1 rv h1 => ⟨ρ1, F1, er, _, rep1, tk, h1, fun vs H2 F2 ds ρ2 e2 rep2 rvs h2 =>
    hk _ H2 F2 _ ρ2 (e1.trans e2) rep2 (.cons (show RpA X.K X.mg F2 Z.dr v (.d x) from rv.mono e2) rvs) h2⟩⟩
/-- f(k = e, ..), no positional argument; ix: for each parameter, which keyword it is -/
def dCallK (pt : Pt) (ix : List Nat) (ta : DTA) : DTE := fun ρ R er => ta ρ (fun ds ρ1 => ds.length = ix.length ∧ ∃ es, ix.map (ds[·]?) = es.map some ∧ pt es (fun d => R d ρ1) er) er
theorem pflip {α β : Type} {G : α → β → Prop} : ∀ {l₁ : List α} {l₂ : List β}, Paired G l₁ l₂ → Paired (fun y x => G x y) l₂ l₁
  | _, _, .nil => .nil
  | _, _, .cons a b => .cons a (pflip b)
theorem ix_rel {α β : Type} {G : α → β → Prop} {vs : List α} {ds : List β} (r : Paired G vs ds) : ∀ {ix : List Nat} {es : List β}, ix.map (ds[·]?) = es.map some → ∃ ws, ix.map (vs[·]?) = ws.map some ∧ Paired G ws es
  | [], [], _ => ⟨[], rfl, .nil⟩
  | [], _ :: _, h => by cases h
  | _ :: _, [], h => by cases h
  | i :: ix, e :: es, h => by
    simp only [List.map_cons, List.cons.injEq] at h
    obtain ⟨ws, h1, h2⟩ := ix_rel r (ix := ix) h.2
    have key : ∀ {vs : List α} {ds : List β} {i : Nat} {e : β}, Paired G vs ds → ds[i]? = some e → ∃ v, vs[i]? = some v ∧ G v e := by
      intro vs ds i e r
      induction r generalizing i with
      | nil => intro q; simp at q
      | cons a b ih =>
        cases i with
        | zero =>
          intro q
          simp at q
          subst q
          exact ⟨_, rfl, a⟩
        | succ i =>
          intro q
          obtain ⟨v, z1, z2⟩ := ih (by simpa using q)
          exact ⟨v, by simpa using z1, z2⟩
    obtain ⟨v, z1, z2⟩ := key r h.1
    exact ⟨v :: ws, by rw [List.map_cons, List.map_cons, z1, h1], .cons z2 h2⟩
theorem qe_callK {kws : List Keyword} {ks : List Str} {ix : List Nat} (O : Fo X.prog X.w X.K X.mg X.base x st ps k (SpF X.K X.mg T pt)) (hr : Room j X.A) (hkj : k ≤ j) (hg : Gl X x) (hkw : QK X T Z kws ta)
    (hbind : ∀ (kV doc pm : Value) (an : Option Addr) (cdv ct : Value) (ws us : List Value), ws.length = ix.length → ix.map (ws[·]?) = us.map some → bindArgs (PySem.W.fnOf x x (defArgs st) (defBody st) (defScope st) .none kV doc pm an cdv ct) ⟨[], ks.zip ws⟩ = pure (ps.zip us))
    (hall : (backToKw pos (keywordEach kws X.env)).all (·.1.isSome) = true := by rfl) (hks : (backToKw pos (keywordEach kws X.env)).filterMap (·.1) = ks := by rfl) (hdb : (x == ("__debug__" : Str)) = false := by decide)
    (hpl : ((backTo pos (starEach [] X.env)).any (·.1) || (backToKw pos (keywordEach kws X.env)).any (·.1.isNone)) = false := by rfl) : QE X T Z (.Call (.Name x p) [] kws pos) (dCallK pt ix ta) := by
  obtain ⟨f, fd, hm, F0, hb, ok⟩ := O.ex
  refine ⟨fun pins s σ H Q I ⟨ρ, F, er, R, rep, tk, h, hk⟩ => ?_⟩
  refine wpAny_Call_Name_kw (ld_glob I hg hm ?_ hdb)
  have h1 := hkw.run pos pins s σ H (fun vs H1 => vs.length = ix.length ∧ ∃ ws, ix.map (vs[·]?) = ws.map some ∧ SpF X.K X.mg T pt ws H1 Q (WE (Wer X.K X.mg T Z er) σ)) I ⟨ρ, F, er, _, rep, tk, h, fun vs H1 F1 ds ρ1 e1 rep1 rvs h1 => by
    obtain ⟨hl, es, he, h2⟩ := h1
    obtain ⟨ws, e2, r2⟩ := ix_rel rvs he
    exact ⟨(Paired.length rvs).trans hl, ws, e2, call_step (R := R) e1 rep1 r2 h2 (fun _ _ _ w => w) hk⟩⟩
  refine PySem.W.callWith_KW0 (h₀ := X.base) I.ok.mod.kin F0.kp hall (thn h1 fun ws s1 ⟨vs, H1, I1, r, hl, zs, hz, q⟩ => ⟨I1.kIn, ?_⟩) hpl
  rw [hks]
  obtain ⟨us, hu, r2⟩ := ix_rel (pflip r) hz
  have r3 : Vals zs us := pflip r2
  obtain ⟨oc, od, dV, kV, doc, pm, an, cdv, ct, osl, rfl, lk, hcd, hD, hK⟩ := F0.ex
  have eD : dV = .none := by
    rcases hD with ⟨_, e⟩ | ⟨e, _⟩
    · exact e
    · exact absurd rfl e
  subst eD
  refine wpAny_call (codeAny_mono (ok.run X.A X.stack s1 H1 ⟨[], ks.zip ws⟩ us zs Q _ (hr.mono hkj) I1.env0 (.of_eq (hbind kV doc pm an cdv ct ws us (r.length.symm.trans hl) hu)) r3 q) fun r s' hq => ?_)
  cases r with
  | error e => exact passAt tk σ pins H1 s1 e s' I1 hq
  | ok fl =>
    cases fl with
    | ret u => exact I1.after hq
    | next => exact False.elim hq
    | brk => exact False.elim hq
    | cont => exact False.elim hq
end
end DL
set_option Elab.async false
set_option linter.all false
set_option maxRecDepth 100000
set_option maxHeartbeats 2000000
namespace DL
open PySem PySem.Spec PyProof.Rows L2
/-! ### what is walked -/
abbrev DTI := DEnv → (List D → DEnv → Prop) → (Er → Prop) → Prop
/-- J goes over the data ds, while F lasts -/
def WalkD (K : PySem.W.Frag) (mg : Mg) (T : List (Addr × Str)) (dr : Option (Addr × Addr)) (J : It) (F : Hp) (ds : List D) : Prop :=
  Walk J ds.length (fun H => Fx F H) (fun i H x H' => ∀ F', Fx F F' → FOk K T dr F' H → ∃ F'', Grw T dr F' H F'' H' ∧ FOk K T dr F'' H' ∧ ∃ d, ds[i]? = some d ∧ Rp K mg F'' x d)
def upI (X : Cx) (T : List (Addr × Str)) (Z : Zx) (wi : DTI) : TI := fun σ H RR => ∃ ρ F er R, Rep X.K X.mg T Z ρ F σ H ∧ Takes X (Wer X.K X.mg T Z er) ∧ wi ρ R er ∧
  ∀ J H' F' ds ρ', Fx F F' → Rep X.K X.mg T Z ρ' F' σ H' → WalkD X.K X.mg T Z.dr J F' ds → R ds ρ' → RR J H'
abbrev QI (X : Cx) (T : List (Addr × Str)) (Z : Zx) (tg iter : Expr) (wi : DTI) : Prop := PI X tg iter (upI X T Z wi)
section
variable {X : Cx} {T : List (Addr × Str)} {Z : Zx} {tg a b : Expr} {ta tb : DTE} {p pos : Pos}
theorem pi_imp {iter : Expr} {t t' : TI} (h : PI X tg iter t) (i : ∀ σ H Q, t' σ H Q → t σ H Q) : PI X tg iter t' := ⟨fun pins s σ H Q I q => h.run pins s σ H Q I (i σ H Q q)⟩
theorem walkD_at {K : PySem.W.Frag} {mg : Mg} {dr : Option (Addr × Addr)} {J : It} {F : Hp} {ds : List D} {n : Nat} {G : Hp → Prop} {f : Nat → V → Prop} (w : Walk J n G (fun i H x H' => H' = H ∧ f i x)) (hn : n = ds.length) (hG : ∀ H, Fx F H → G H)
    (hf : ∀ i x, i < n → f i x → ∃ d, ds[i]? = some d ∧ Rp K mg F x d) : WalkD K mg T dr J F ds := by
  subst hn
  refine w.mono hG fun i H x H' hi _ y F' e k => ?_
  obtain ⟨rfl, y⟩ := y
  obtain ⟨d, h1, h2⟩ := hf i x hi y
  exact ⟨F', Grw.refl, k, d, h1, h2.mono e⟩
/-- a list, a tuple, the script -/
def dSeq (ta : DTE) : DTI := fun ρ R er => ta ρ (fun x ρ1 => match x with
  | .lst xs => R xs ρ1
  | .tup xs => R xs ρ1
  | .scr ns => R (ns.map D.int) ρ1
  | _ => False) er
theorem pi_seq {l : Expr} {tl : TE} (hl : PE X l tl) : PI X tg l (fun σ H R => tl σ H fun x H1 => ∃ a, x = .ref a ∧ (((∃ xs, SqL X.K H1 a xs) ∧ R (Itl X.K a) H1) ∨ ((∃ xs, SqT X.K H1 a xs) ∧ R (Itt X.K a) H1))) := by
  constructor
  intro pins s σ H R I h
  apply thn (hl.run pins s σ H _ I h)
  rintro v s1 ⟨x, H1, I1, r1, a, rfl, q⟩
  obtain rfl : v = Value.ref a := r1
  have hn := I1.hok.fresh (Nat.le_refl s1.heap.objs.size)
  rcases q with ⟨⟨xs, hq⟩, q⟩ | ⟨⟨xs, hq⟩, q⟩
  · obtain ⟨its, rv, pl, hz⟩ := I1.list hq
    apply wpAny_pyIter_list pl.isList
    exact ⟨s1.heap.objs.size, [s1.heap.objs.size], _, _, H1, rfl, I1.kept (t' := s1.toks) (fun b o e => Heap.get?_push_of_some _ e), turn_list a _, ⟨_, Heap.get?_push_size _ rfl, rfl, rfl⟩,
      fun b hb => (List.mem_singleton.mp hb) ▸ I1.fpOk (Nat.le_refl _) hn, q⟩
  · obtain ⟨its, rv, pl, hz⟩ := I1.tuple hq
    apply wpAny_pyIter_tuple (show s1.heap.IsTuple a its.toArray from pl)
    exact ⟨s1.heap.objs.size, [s1.heap.objs.size], _, _, H1, rfl, I1.kept (t' := s1.toks) (fun b o e => Heap.get?_push_of_some _ e), turn_tuple a _, ⟨_, Heap.get?_push_size _ rfl, rfl, rfl⟩,
      fun b hb => (List.mem_singleton.mp hb) ▸ I1.fpOk (Nat.le_refl _) hn, q⟩
theorem qi_seq (ha : QE X T Z a ta) : QI X T Z tg a (dSeq ta) :=
  pi_imp (pi_seq ha) fun σ H Q ⟨ρ, F, er, R, rep, tk, h, hk⟩ => ⟨ρ, F, er, _, rep, tk, h, fun v H1 F1 x ρ1 e1 rep1 rv h1 => by
    cases rv with
    | lst h2 h3 =>
      refine ⟨_, rfl, .inl ⟨⟨_, SqL.of (rep1.ok.sub _ _ h2)⟩, hk _ H1 F1 _ ρ1 e1 rep1 (walkD_at walk_list h3.length (fun H e => SqL.of (e _ _ h2)) fun i x hi y => h3.get' y) h1⟩⟩
    | tup h2 h3 =>
      refine ⟨_, rfl, .inr ⟨⟨_, rep1.ok.sub.sqt h2⟩, hk _ H1 F1 _ ρ1 e1 rep1 (walkD_at walk_tup h3.length (fun H e => e.sqt h2) fun i x hi y => h3.get' y) h1⟩⟩
    | scr h2 h3 =>
      refine ⟨_, rfl, .inl ⟨⟨_, rep1.ok.sub.sql h2⟩, hk _ H1 F1 _ ρ1 e1 rep1 (walkD_at walk_list (by simp) (fun H e => e.sql h2) fun i x hi y => (RpL.ofInts _).get' y) h1⟩⟩
    | _ => exact h1.elim⟩
def rngD (lo : Int) (n : Nat) : List D := (List.range n).map fun (i : Nat) => D.int (lo + i)
theorem rngD_get {lo : Int} {n i : Nat} (h : i < n) : (rngD lo n)[i]? = some (.int (lo + i)) := by
  simp [rngD, h]
theorem walkD_range {K : PySem.W.Frag} {mg : Mg} {dr : Option (Addr × Addr)} {F : Hp} {lo : Int} {n : Nat} : WalkD K mg T dr (Itr lo n) F (rngD lo n) := by
  have e : n = (rngD lo n).length := by simp [rngD]
  refine walkD_at (f := fun i x => x = V.int (lo + i)) (n := n) ?_ e (fun _ _ => trivial) fun i x hi y => ?_
  · exact walk_range
  · subst y
    exact ⟨_, rngD_get hi, .int _⟩
def RgOk1 (j : Int) : Prop := -(2 ^ 62) ≤ j ∧ j < 2 ^ 62
def dRng1 (ta : DTA) : DTI := fun ρ R er => ta ρ (fun ds ρ1 => match ds with
  | [.d (.int j)] => RgOk1 j ∧ R (rngD 0 j.toNat) ρ1
  | _ => False) er
def dRng2 (ta : DTA) : DTI := fun ρ R er => ta ρ (fun ds ρ1 => match ds with
  | [.d (.int i), .d (.int j)] => RgOk1 i ∧ RgOk1 j ∧ R (rngD i (j - i).toNat) ρ1
  | _ => False) er
theorem qi_rng1 {t : DTA} (hg : Gl X "range") (hm : X.mg "range" = none) (ha : QA X T Z [a] t) (hs : starEach [a] X.env = [(false, eval a X.env)] := by rfl) : QI X T Z tg (.Call (.Name "range" p) [a] [] pos) (dRng1 t) :=
  pi_imp (pi_range1 hg hm ha hs) fun σ H Q ⟨ρ, F, er, R, rep, tk, h, hk⟩ => ⟨ρ, F, er, _, rep, tk, h, fun vs H1 F1 ds ρ1 e1 rep1 rvs h1 => by
    split at h1
    · rename_i j
      obtain ⟨c, h2⟩ := h1
      cases rvs with
      | cons r1 r2 =>
        cases r2
        cases (show Rp X.K X.mg F1 _ (.int j) from r1)
        exact ⟨j, rfl, c.1, c.2, hk _ H1 F1 _ ρ1 e1 rep1 walkD_range h2⟩
    · exact h1.elim⟩
theorem qi_rng2 {t : DTA} (hg : Gl X "range") (hm : X.mg "range" = none) (ha : QA X T Z [a, b] t) (hs : starEach [a, b] X.env = [(false, eval a X.env), (false, eval b X.env)] := by rfl) (hs2 : starEach [b] X.env = [(false, eval b X.env)] := by rfl) : QI X T Z tg (.Call (.Name "range" p) [a, b] [] pos) (dRng2 t) :=
  pi_imp (pi_range2 hg hm ha hs hs2) fun σ H Q ⟨ρ, F, er, R, rep, tk, h, hk⟩ => ⟨ρ, F, er, _, rep, tk, h, fun vs H1 F1 ds ρ1 e1 rep1 rvs h1 => by
    split at h1
    · rename_i i j
      obtain ⟨c, c2, h2⟩ := h1
      cases rvs with
      | cons r1 r2 =>
        cases r2 with
        | cons r2 r3 =>
          cases r3
          cases (show Rp X.K X.mg F1 _ (.int i) from r1)
          cases (show Rp X.K X.mg F1 _ (.int j) from r2)
          exact ⟨i, j, rfl, ⟨c.1, c.2, c2.1, c2.2⟩, hk _ H1 F1 _ ρ1 e1 rep1 walkD_range h2⟩
    · exact h1.elim⟩
end

/-! ### list comprehensions -/
def wipeE (ρ : DEnv) : List Nat → DEnv
  | [] => ρ
  | v :: vs => (wipeE ρ vs).set v none
def inE (ρ : DEnv) (vs : List Nat) : DEnv := wipeE (ρ.map noOwn) vs
theorem wipeE_length (ρ : DEnv) : ∀ vs : List Nat, (wipeE ρ vs).length = ρ.length
  | [] => rfl
  | v :: vs => by unfold wipeE; rw [List.length_set, wipeE_length ρ vs]
theorem wipeE_some {ρ : DEnv} {i : Nat} {x : DV} : ∀ {vs : List Nat}, (wipeE ρ vs)[i]? = some (some x) → ρ[i]? = some (some x) ∧ i ∉ vs
  | [], h => ⟨h, by simp⟩
  | v :: vs, h => by
    unfold wipeE at h
    by_cases e : v = i
    · subst e
      by_cases hl : v < (wipeE ρ vs).length
      · rw [List.getElem?_set_self hl] at h
        cases h
      · rw [List.getElem?_eq_none (by rw [List.length_set]; omega)] at h
        cases h
    · rw [List.getElem?_set_ne e] at h
      obtain ⟨h1, h2⟩ := wipeE_some h
      exact ⟨h1, by simp; exact ⟨fun z => e z.symm, h2⟩⟩
theorem wipe_in {σ : L2.St} {i : Nat} : ∀ {vs : List Nat}, i ∈ vs → i < σ.length → (wipe σ vs)[i]? = some none
  | [], h, _ => by cases h
  | v :: vs, h, hl => by
    unfold wipe
    by_cases e : v = i
    · subst e
      exact List.getElem?_set_self (by rw [wipe_length]; exact hl)
    · rw [List.getElem?_set_ne e]
      refine wipe_in ?_ hl
      rcases List.mem_cons.mp h with z | z
      · exact absurd z.symm e
      · exact z
theorem wipe_set {σ : L2.St} {i : Nat} {x : Option V} {vs : List Nat} (h : i ∈ vs) : wipe ((wipe σ vs).set i x) vs = wipe σ vs := by
  apply List.ext_getElem?
  intro j
  by_cases hj : j ∈ vs
  · by_cases hl : j < σ.length
    · rw [wipe_in hj (by rw [List.length_set, wipe_length]; exact hl), wipe_in hj hl]
    · rw [List.getElem?_eq_none (by rw [wipe_length, List.length_set, wipe_length]; omega), List.getElem?_eq_none (by rw [wipe_length]; omega)]
  · rw [wipe_out hj, List.getElem?_set_ne (show i ≠ j from fun z => hj (z ▸ h))]
theorem Rep.wiped {K : PySem.W.Frag} {mg : Mg} {T : List (Addr × Str)} {Z : Zx} {ρ : DEnv} {F H : Hp} {σ : L2.St} (r : Rep K mg T Z ρ F σ H) (vs : List Nat) : Rep K mg T Z (wipeE ρ vs) F (wipe σ vs) H :=
  r.forget (by rw [wipeE_length, wipe_length]; exact r.len) fun i x e => by
    obtain ⟨h1, h2⟩ := wipeE_some e
    exact ⟨h1, wipe_out h2⟩
/-- a block's readings, at any beginning -/
def upB (K : PySem.W.Frag) (mg : Mg) (T : List (Addr × Str)) (te : DTE) : TE := fun σ H Q => ∃ Z ρ F R, Rep K mg T Z ρ F σ H ∧ te ρ R (fun _ => False) ∧
  ∀ v H' F' d ρ', Fx F F' → Rep K mg T Z ρ' F' σ H' → Rp K mg F' v d → R d ρ' → Q v H'
def upTB (K : PySem.W.Frag) (mg : Mg) (T : List (Addr × Str)) (te : DTT) : TT := fun σ H Q => ∃ Z ρ F R, Rep K mg T Z ρ F σ H ∧ te ρ R (fun _ => False) ∧
  ∀ b H' F' ρ', Fx F F' → Rep K mg T Z ρ' F' σ H' → R b ρ' → Q b H'
abbrev QTs (X : Cx) (T : List (Addr × Str)) (Z : Zx) (ifs : List Expr) (te : DTT) : Prop := PTs X ifs (upT X T Z te)
def dYes : DTT := fun ρ R _ => R true ρ
theorem pts_imp {X : Cx} {ifs : List Expr} {t t' : TT} (h : PTs X ifs t) (i : ∀ σ H Q, t' σ H Q → t σ H Q) : PTs X ifs t' := ⟨fun pins s σ H Q I q => h.run pins s σ H Q I (i σ H Q q)⟩
theorem qts_nil {X : Cx} {T : List (Addr × Str)} {Z : Zx} : QTs X T Z [] dYes := pts_imp pts_nil fun σ H Q ⟨ρ, F, er, R, rep, tk, h, hk⟩ => hk true H F ρ (Fx.refl F) rep h
theorem qts_one {X : Cx} {T : List (Addr × Str)} {Z : Zx} {c : Expr} {t : DTT} (h : QT X T Z c t) : QTs X T Z [c] t := pts_one h
/-- [e for x in .. if t], x in slot i, the block's own slots vs -/
def dLc (wi : DTI) (i : Nat) (vs : List Nat) (tt : DTT) (te : DTE) : DEnv → (Own → DEnv → Prop) → (Er → Prop) → Prop := fun ρ R er => wi ρ (fun ds ρ1 => ∃ Iv : Nat → List D → Prop, Iv 0 [] ∧
  (∀ k d acc, ds[k]? = some d → Iv k acc → tt ((inE ρ1 vs).set i (some (.d d))) (fun b ρ2 => match b with
    | true => te ρ2 (fun y _ => acc.length < sizeLine ∧ Iv (k + 1) (acc ++ [y])) (fun _ => False)
    | false => Iv (k + 1) acc) (fun _ => False)) ∧ ∀ acc, Iv ds.length acc → R (.lst acc) ρ1) er
section
variable {X : Cx} {T : List (Addr × Str)} {Z : Zx} {tg iter elt : Expr} {ifs : List Expr} {scope : Scope} {own : List (Str × Nat)} {pos : Pos} {wi : DTI} {tt : DTT} {te : DTE} {i : Nat}
theorem lc_up (him : i ∈ own.map (·.2)) : ∀ σ H Q, upN X T Z (dLc wi i (own.map (·.2)) tt te) σ H Q → tLc (upI X T Z wi) (gName i) (upTB X.K X.mg T tt) (upB X.K X.mg T te) (own.map (·.2)) σ H Q := fun σ H Q ⟨ρ, F, er, R, rep, tk, h, hk⟩ => ⟨ρ, F, er, _, rep, tk, h, fun J H1 F1 ds ρ1 e1 rep1 wd ⟨Iv, i0, istep, iend⟩ => fun Dd hD => by
  have nA : ¬ Am T Z.dr Dd := rep1.ok.notAm hD
  have n0 : Z.H0 Dd = none := by
    cases q : Z.H0 Dd with
    | none => rfl
    | some u =>
      have z := rep1.gr.hh Dd u q nA
      rw [hD] at z
      cases z
  have nO : ∀ (j : Nat) (c : Own), ρ1[j]? = some (some (.own c)) → σ[j]? ≠ some (some (.ref Dd)) := fun j c e z => by
    obtain ⟨p, h1, h2, _⟩ := rep1.own j c e
    rw [z] at h1
    cases h1
    obtain ⟨o, ho, _⟩ := h2.some
    rw [hD] at ho
    cases ho
  obtain ⟨k1, g1, f1⟩ := rep1.ok.laidOwn (o := .lst []) hD
  refine lc_it wd (fun k H' => ∃ F' acc xs, Fx F1 F' ∧ Rep X.K X.mg T Z ρ1 F' σ H' ∧ H' Dd = some (.lst xs) ∧ RpL X.K X.mg F' xs acc ∧ F' Dd = none ∧ Iv k acc) ?_ ?_ ?_ ?_
  · exact ⟨F1, [], [], Fx.refl F1, rep1.step g1 k1, upd_same, .nil, f1, i0⟩
  · rintro k H' _ ⟨F', acc, xs, e, r', _⟩
    exact e.trans r'.ok.sub
  · rintro k x H' H'' hlt ⟨F', acc, xs, e, r', hl, rl, fD, inv⟩ y
    obtain ⟨F'', g2, k2, d, hd, rd⟩ := y F' e r'.ok
    have r2 := r'.step g2 k2
    have hl2 : H'' Dd = some (.lst xs) := g2.hh Dd _ hl nA
    have fD2 : F'' Dd = none := g2.un k2.sub hl (fun _ z => nomatch z) nA fD
    have rin : Rep X.K X.mg T ⟨Z.dr, F'', H''⟩ ((inE ρ1 (own.map (·.2))).set i (some (.d d))) F'' ((wipe σ (own.map (·.2))).set i (some x)) H'' := Rep.set (i := i) (r2.rebase.wiped (own.map fun x : Str × Nat => x.2)) rd
    show wipe _ _ = _ ∧ upTB X.K X.mg T tt _ H'' _
    refine ⟨wipe_set him, ⟨Z.dr, F'', H''⟩, _, F'', _, rin, istep k d acc hd inv, fun b H3 F3 ρ3 e3 r3 h3 => ?_⟩
    have s3 := r2.step r3.gr r3.ok
    have hl3 : H3 Dd = some (.lst xs) := r3.gr.hh Dd _ hl2 nA
    have fD3 : F3 Dd = none := r3.gr.un r3.ok.sub hl2 (fun _ z => nomatch z) nA fD2
    cases b with
    | true =>
      refine iteT ?_
      refine ⟨⟨Z.dr, F'', H''⟩, ρ3, F3, _, r3, h3, fun v H4 F4 d4 ρ4 e4 r4 rv4 h4 => ?_⟩
      obtain ⟨hz, inv4⟩ := h4
      have s4 := r2.step r4.gr r4.ok
      have hl4 : H4 Dd = some (.lst xs) := r4.gr.hh Dd _ hl2 nA
      have fD4 : F4 Dd = none := r4.gr.un r4.ok.sub hl2 (fun _ z => nomatch z) nA fD2
      have rl4 : RpL X.K X.mg F4 xs acc := rl.mono (g2.ff.trans (e3.trans e4))
      refine ⟨xs, hl4, by rw [rl.length]; exact hz, F4, acc ++ [d4], xs ++ [v], e.trans (g2.ff.trans (e3.trans e4)), s4.write fD4 n0 nA ⟨_, hl4, .inl ⟨xs, rfl⟩⟩ nO, upd_same, rl4.append (.cons rv4 .nil), fD4, inv4⟩
    | false =>
      refine iteF ?_
      exact ⟨F3, acc, xs, e.trans (g2.ff.trans e3), s3, hl3, rl.mono (g2.ff.trans e3), fD3, h3⟩
  · rintro H' ⟨F', acc, xs, e, r', hl, rl, fD, inv⟩
    exact hk Dd H' F' (.lst acc) ρ1 (e1.trans e) r' ⟨xs, hl, rl⟩ fD n0 nA nO (iend acc inv)⟩
theorem pts_blk (ht : ∀ (s : Shared) (H : Hp) (C : Addr) (cl : List (Str × Addr)) (fp : List Addr) (Z' : Zx), QTs (X.blk s H scope (compEnvC scope cl C X.env) fp) T Z' ifs tt) (s : Shared) (H : Hp) (C : Addr) (cl : List (Str × Addr)) (fp : List Addr) : PTs (X.blk s H scope (compEnvC scope cl C X.env) fp) ifs (upTB X.K X.mg T tt) :=
  ⟨fun pins s' σ' H' Q I ⟨Z', ρ, F, R, rep, h, hk⟩ => (ht s H C cl fp Z').run pins s' σ' H' Q I ⟨ρ, F, _, R, rep, takesF, h, hk⟩⟩
theorem pe_blk (he : ∀ (s : Shared) (H : Hp) (C : Addr) (cl : List (Str × Addr)) (fp : List Addr) (Z' : Zx), QE (X.blk s H scope (compEnvC scope cl C X.env) fp) T Z' elt te) (s : Shared) (H : Hp) (C : Addr) (cl : List (Str × Addr)) (fp : List Addr) : PE (X.blk s H scope (compEnvC scope cl C X.env) fp) elt (upB X.K X.mg T te) :=
  ⟨fun pins s' σ' H' Q I ⟨Z', ρ, F, R, rep, h, hk⟩ => (he s H C cl fp Z').run pins s' σ' H' Q I ⟨ρ, F, _, R, rep, takesF, h, hk⟩⟩
theorem qn_lc (hc : X.calm = true) (hN : X.N.Nodup) (ok : BlkOk X.N X.env.scope scope own) (him : i ∈ own.map (·.2)) (hi : QI X T Z tg iter wi)
    (hg : ∀ (s : Shared) (H : Hp) (C : Addr) (cl : List (Str × Addr)) (fp : List Addr), PG (X.blk s H scope (compEnvC scope cl C X.env) fp) tg (gName i))
    (ht : ∀ (s : Shared) (H : Hp) (C : Addr) (cl : List (Str × Addr)) (fp : List Addr) (Z' : Zx), QTs (X.blk s H scope (compEnvC scope cl C X.env) fp) T Z' ifs tt)
    (he : ∀ (s : Shared) (H : Hp) (C : Addr) (cl : List (Str × Addr)) (fp : List Addr) (Z' : Zx), QE (X.blk s H scope (compEnvC scope cl C X.env) fp) T Z' elt te) (hs : ∀ x, foldedSetIterable iter X.env x = pure x := by intro _; rfl) :
    QN X T Z (.ListComp elt [⟨tg, iter, ifs, 0⟩] scope pos) (dLc wi i (own.map (·.2)) tt te) :=
  pe_imp (pe_lc hc hN hi ok hg (pts_blk ht) (pe_blk he) hs) (lc_up him)
/-- an own object, frozen as it is made -/
def dFz (tn : DEnv → (Own → DEnv → Prop) → (Er → Prop) → Prop) : DTE := fun ρ R er => tn ρ (fun c ρ1 => match c with
  | .lst xs => R (.lst xs) ρ1
  | .dic ks => R (.dic ks) ρ1) er
theorem Rep.freeze {K : PySem.W.Frag} {mg : Mg} {ρ : DEnv} {F H : Hp} {σ : L2.St} (r : Rep K mg T Z ρ F σ H) {p : Addr} {o : HO} (hp : H p = some o) (h0 : Z.H0 p = none) (hA : ¬ Am T Z.dr p) (ho : ∀ (j : Nat) (c : Own), ρ[j]? = some (some (.own c)) → σ[j]? ≠ some (some (.ref p))) (hF : F p = none) :
    Rep K mg T Z ρ (upd F p o) σ H := by
  have ff : Fx F (upd F p o) := Fx.new hF
  refine ⟨r.len, ⟨fun b u e => ?_, fun b m => ?_, r.ok.tabs, fun a l e => (r.ok.drw a l e).mono ff rfl rfl, r.ok.tbT⟩, ⟨r.gr.hh, r.gr.ff.trans ff, fun b u e => ?_⟩, fun i d e => ?_, r.drs, fun i c e => ?_, fun i L cs e => ?_, r.dis⟩
  · by_cases hb : b = p
    · subst hb
      rw [upd_same] at e
      rw [hp]
      exact e
    · rw [upd_ne hb] at e
      exact r.ok.sub b u e
  · have hb : b ≠ p := fun z => hA (z ▸ m)
    rw [upd_ne hb]
    exact r.ok.ntb b m
  · by_cases hb : b = p
    · subst hb
      exact .inr (.inl h0)
    · rw [upd_ne hb] at e
      exact r.gr.new b u e
  · obtain ⟨v, h1, h2⟩ := r.dat i d e
    exact ⟨v, h1, h2.mono ff⟩
  · obtain ⟨q, h1, h2, h3, h4⟩ := r.own i c e
    have hq : q ≠ p := fun z => ho i c e (z ▸ h1)
    exact ⟨q, h1, h2.mono ff rfl, by rw [upd_ne hq]; exact h3, h4⟩
  · obtain ⟨v, h1, h2⟩ := r.lam i L cs e
    exact ⟨v, h1, h2.mono ff⟩
theorem QN.fz {e : Expr} {tn : DEnv → (Own → DEnv → Prop) → (Er → Prop) → Prop} (h : QN X T Z e tn) : QE X T Z e (dFz tn) :=
  pe_imp h fun σ H Q ⟨ρ, F, er, R, rep, tk, h, hk⟩ => ⟨ρ, F, er, _, rep, tk, h, fun p H1 F1 c ρ1 e1 rep1 oa fp h0 nA nO h1 => by
    cases c with
    | lst xs =>
      obtain ⟨ys, hy, ry⟩ := oa
      have ff : Fx F1 (upd F1 p (.lst ys)) := Fx.new fp
      exact hk _ H1 _ _ ρ1 (e1.trans ff) (rep1.freeze hy h0 nA nO fp) (.lst upd_same (ry.mono ff)) h1
    | dic xs =>
      obtain ⟨ys, hy, ry⟩ := oa
      have ff : Fx F1 (upd F1 p (.dK ys)) := Fx.new fp
      exact hk _ H1 _ _ ρ1 (e1.trans ff) (rep1.freeze hy h0 nA nO fp) (.dic upd_same (ry.mono ff)) h1⟩
end
/-- the comprehension of a function of the item -/
theorem lc_map {wi : DTI} {i : Nat} {vs : List Nat} {te : DTE} {ρ : DEnv} {R : Own → DEnv → Prop} {er : Er → Prop} (f : D → D) (hm : ∀ (Q Q' : List D → DEnv → Prop), (∀ ds ρ1, Q ds ρ1 → Q' ds ρ1) → wi ρ Q er → wi ρ Q' er)
    (h : wi ρ (fun ds ρ1 => ds.length ≤ sizeLine ∧ (∀ d ∈ ds, ∀ S : D → DEnv → Prop, (∀ ρ2, S (f d) ρ2) → te ((inE ρ1 vs).set i (some (.d d))) S fun _ => False) ∧ R (.lst (ds.map f)) ρ1) er) : dLc wi i vs dYes te ρ R er := by
  refine hm _ _ (fun ds ρ1 ⟨hz, hs, hR⟩ => ?_) h
  refine ⟨fun k acc => acc = (ds.take k).map f, rfl, fun k d acc hd ha => ?_, fun acc ha => ?_⟩
  · show te _ _ _
    refine hs d (List.mem_of_getElem? hd) _ fun ρ2 => ?_
    have hk := (List.getElem?_eq_some_iff.mp hd).1
    subst ha
    refine ⟨?_, ?_⟩
    · rw [List.length_map, List.length_take]
      omega
    · show (ds.take k).map f ++ [f d] = (ds.take (k + 1)).map f
      rw [List.take_succ, hd]
      simp
  · have ha : acc = (ds.take ds.length).map f := ha
    rw [List.take_length] at ha
    rw [ha]
    exact hR
end DL
set_option Elab.async false
set_option linter.all false
set_option maxRecDepth 100000
set_option maxHeartbeats 2000000
namespace DL
open PySem PySem.Spec PyProof.Rows L2
section
variable {X : Cx} {T : List (Addr × Str)} {Z : Zx} {a b c e : Expr} {te : DTE} {tt : DTT} {ts tu : DTS} {st : Stmt} {sts rest : List Stmt} {pos pos' : Pos} {x : Str}
/-! ### blocks -/
def dNext : DTS := fun ρ E _ => E.nx ρ
def dSeqS (t u : DTS) : DTS := fun ρ E er => t ρ { E with nx := fun ρ1 => u ρ1 E er } er
theorem qss_nil : QSs X T Z [] dNext := pss_imp pss_nil fun E σ H ⟨ρ, F, er, De, rep, tk, h, hn, _⟩ => hn σ H F ρ (Fx.refl F) rep h
theorem qss_one (h : QS X T Z st ts) : QSs X T Z [st] ts := pss_one h
theorem qss_cons (h1 : QS X T Z st ts) (h2 : QSs X T Z rest tu) : QSs X T Z (st :: rest) (dSeqS ts tu) :=
  pss_imp (pss_cons h1 h2) fun E σ H ⟨ρ, F, er, De, rep, tk, h, hn, hr, hb, hc⟩ => ⟨ρ, F, er, _, rep, tk, h, fun σ' H' F' ρ' e1 rep1 h1 => ⟨ρ', F', er, De, rep1, tk, h1,
    fun σ2 H2 F2 ρ2 e2 => hn σ2 H2 F2 ρ2 (e1.trans e2), fun v σ2 H2 F2 ρ2 d e2 => hr v σ2 H2 F2 ρ2 d (e1.trans e2), fun σ2 H2 F2 ρ2 e2 => hb σ2 H2 F2 ρ2 (e1.trans e2), fun σ2 H2 F2 ρ2 e2 => hc σ2 H2 F2 ρ2 (e1.trans e2)⟩, hr, hb, hc⟩
theorem qs_pass : QS X T Z (.Pass pos) dNext := ps_imp ps_pass fun E σ H ⟨ρ, F, er, De, rep, tk, h, hn, _⟩ => hn σ H F ρ (Fx.refl F) rep h
def dBreak : DTS := fun ρ E _ => E.bk ρ
def dContinue : DTS := fun ρ E _ => E.ct ρ
theorem qs_break : QS X T Z (.Break pos) dBreak := ps_imp ps_break fun E σ H ⟨ρ, F, er, De, rep, tk, h, hn, hr, hb, hc⟩ => hb σ H F ρ (Fx.refl F) rep h
theorem qs_continue : QS X T Z (.Continue pos) dContinue := ps_imp ps_continue fun E σ H ⟨ρ, F, er, De, rep, tk, h, hn, hr, hb, hc⟩ => hc σ H F ρ (Fx.refl F) rep h
/-- code that is never come to -/
def dNever : DTS := fun _ _ _ => False
theorem qs_never : QS X T Z st dNever := ps_imp ps_never fun E σ H ⟨ρ, F, er, De, rep, tk, h, _⟩ => h.elim
theorem qss_never : QSs X T Z sts dNever := pss_imp pss_never fun E σ H ⟨ρ, F, er, De, rep, tk, h, _⟩ => h.elim
def dRet (te : DTE) : DTS := fun ρ E er => te ρ (fun d _ => E.rt d) er
theorem qs_ret (h : QE X T Z e te) : QS X T Z (.Return (some e) pos) (dRet te) :=
  ps_imp (ps_ret h) fun E σ H ⟨ρ, F, er, De, rep, tk, h, hn, hr, hb, hc⟩ => ⟨ρ, F, er, _, rep, tk, h, fun v H1 F1 d ρ1 e1 rep1 rv h1 => hr v σ H1 F1 ρ1 d e1 rep1 rv h1⟩
def dRetN : DTS := fun _ E _ => E.rt .non
theorem qs_retN : QS X T Z (.Return none pos) dRetN := ps_imp ps_retN fun E σ H ⟨ρ, F, er, De, rep, tk, h, hn, hr, hb, hc⟩ => hr .non σ H F ρ .non (Fx.refl F) rep .non h
def dDrop (te : DTE) : DTS := fun ρ E er => te ρ (fun _ ρ1 => E.nx ρ1) er
theorem qs_expr (h : QE X T Z e te) (hs : swapsWith e none pos.line X.env = pure false := by rfl) : QS X T Z (.Expr e pos) (dDrop te) :=
  ps_imp (ps_expr h hs) fun E σ H ⟨ρ, F, er, De, rep, tk, h, hn, hr, hb, hc⟩ => ⟨ρ, F, er, _, rep, tk, h, fun v H1 F1 d ρ1 e1 rep1 rv h1 => hn σ H1 F1 ρ1 e1 rep1 h1⟩
def dIfS (t : DTT) (u v : DTS) : DTS := fun ρ E er => t ρ (fun k ρ1 => match k with
  | true => u ρ1 E er
  | false => v ρ1 E er) er
theorem qs_if {sa sb : List Stmt} (hc : QT X T Z c tt) (ha : QSs X T Z sa ts) (hb : QSs X T Z sb tu) : QS X T Z (.If c sa sb pos) (dIfS tt ts tu) :=
  ps_imp (ps_if hc ha hb) fun E σ H ⟨ρ, F, er, De, rep, tk, h, hn, hr, hb, hc⟩ => ⟨ρ, F, er, _, rep, tk, h, fun k H1 F1 ρ1 e1 rep1 h1 => by
    have ends : ∀ {w : DTS}, w ρ1 De er → upS X T Z w E σ H1 := fun {w} h => ⟨ρ1, F1, er, De, rep1, tk, h, fun σ2 H2 F2 ρ2 e2 => hn σ2 H2 F2 ρ2 (e1.trans e2), fun v σ2 H2 F2 ρ2 d e2 => hr v σ2 H2 F2 ρ2 d (e1.trans e2), fun σ2 H2 F2 ρ2 e2 => hb σ2 H2 F2 ρ2 (e1.trans e2), fun σ2 H2 F2 ρ2 e2 => hc σ2 H2 F2 ρ2 (e1.trans e2)⟩
    cases k with
    | true => exact iteT (ends h1)
    | false => exact iteF (ends h1)⟩
/-! ### names -/
def dSet (i : Nat) (te : DTE) : DTS := fun ρ E er => te ρ (fun d ρ1 => E.nx (ρ1.set i (some (.d d)))) er
theorem qs_set (i : Nat) (hN : X.N.Nodup) (h : QE X T Z e te) (hi : X.N[i]? = some x := by rfl) (hx : Loc X.env.scope x := by first | exact Or.inl rfl | exact Or.inr rfl) (hs : swapsWith e (some (.Name x pos')) pos.line X.env = pure false := by rfl) (hf : X.fn x = true ∨ X.env.scope.names.lookup x = some .local := by first | exact .inl rfl | exact .inr rfl) :
    QS X T Z (.Assign [.Name x pos'] e pos) (dSet i te) :=
  ps_imp (ps_set hN hi hx h hs hf) fun E σ H ⟨ρ, F, er, De, rep, tk, h, hn, hr, hb, hc⟩ => ⟨ρ, F, er, _, rep, tk, h, fun v H1 F1 d ρ1 e1 rep1 rv h1 => hn _ H1 F1 _ e1 (rep1.set rv) h1⟩
abbrev DTN := DEnv → (Own → DEnv → Prop) → (Er → Prop) → Prop
def dSetOwn (i : Nat) (tn : DTN) : DTS := fun ρ E er => tn ρ (fun c ρ1 => E.nx (ρ1.set i (some (.own c)))) er
theorem setOwn_up {tn : DTN} {i : Nat} {E : Ends} {σ : L2.St} {H : Hp} : upS X T Z (dSetOwn i tn) E σ H → upN X T Z tn σ H fun x H1 => E.nx (σ.set i (some x)) H1 := fun ⟨ρ, F, er, De, rep, tk, h, hn, hr, hb, hc⟩ =>
  ⟨ρ, F, er, _, rep, tk, h, fun p H1 F1 c ρ1 e1 rep1 oa fp h0 nA nO h1 => hn _ H1 F1 _ e1 (rep1.setOwn oa fp h0 nA fun j c' _ => nO j c') h1⟩
theorem qs_setOwn (i : Nat) {tn : DTN} (hN : X.N.Nodup) (h : QN X T Z e tn) (hi : X.N[i]? = some x := by rfl) (hx : Loc X.env.scope x := by first | exact Or.inl rfl | exact Or.inr rfl) (hs : swapsWith e (some (.Name x pos')) pos.line X.env = pure false := by rfl) (hf : X.fn x = true ∨ X.env.scope.names.lookup x = some .local := by first | exact .inl rfl | exact .inr rfl) :
    QS X T Z (.Assign [.Name x pos'] e pos) (dSetOwn i tn) :=
  ps_imp (ps_set hN hi hx h hs hf) fun E σ H u => setOwn_up u
/-- name = [..] on one line -/
theorem qs_setLc (i : Nat) {tg iter elt : Expr} {ifs : List Expr} {scope : Scope} {own : List (Str × Nat)} {wi : DTI} {j : Nat} {py : Pos} {y : Str} {spos : Pos} (hc : X.calm = true) (hN : X.N.Nodup) (ok : BlkOk X.N X.env.scope scope own) (him : j ∈ own.map (·.2)) (hi : QI X T Z tg iter wi)
    (hg : ∀ (s : Shared) (H : Hp) (C : Addr) (cl : List (Str × Addr)) (fp : List Addr), PG (X.blk s H scope (compEnvC scope cl C X.env) fp) tg (gName j))
    (ht : ∀ (s : Shared) (H : Hp) (C : Addr) (cl : List (Str × Addr)) (fp : List Addr) (Z' : Zx), QTs (X.blk s H scope (compEnvC scope cl C X.env) fp) T Z' ifs tt)
    (he : ∀ (s : Shared) (H : Hp) (C : Addr) (cl : List (Str × Addr)) (fp : List Addr) (Z' : Zx), QE (X.blk s H scope (compEnvC scope cl C X.env) fp) T Z' elt te) (hy : X.N[i]? = some y := by rfl) (hyl : X.env.scope.names.lookup y = some .local := by rfl)
    (hsw : swapsWith (.ListComp elt [⟨tg, iter, ifs, 0⟩] scope pos) (some (.Name y py)) spos.line X.env = pure true := by exact sw_true rfl rfl rfl (by decide +kernel)) (hs : ∀ x, foldedSetIterable iter X.env x = pure x := by intro _; rfl) :
    QS X T Z (.Assign [.Name y py] (.ListComp elt [⟨tg, iter, ifs, 0⟩] scope pos) spos) (dSetOwn i (dLc wi j (own.map (·.2)) tt te)) :=
  ps_imp (ps_setLc hc hN hy hyl hsw hi ok hg (pts_blk ht) (pe_blk he) hs) fun E σ H u => lc_up him σ H _ (setOwn_up u)
/-- an own object's slot becomes a datum (nothing is done) -/
def frz : Own → D
  | .lst xs => .lst xs
  | .dic ks => .dic ks
def dFreeze (i : Nat) (ts : DTS) : DTS := fun ρ E er => match ρ[i]? with
  | some (some (.own c)) => ts (ρ.set i (some (.d (frz c)))) E er
  | _ => False
theorem Rep.freezeSlot {K : PySem.W.Frag} {mg : Mg} {ρ : DEnv} {F H : Hp} {σ : L2.St} (r : Rep K mg T Z ρ F σ H) {i : Nat} {c : Own} (h : ρ[i]? = some (some (.own c))) : ∃ F', Fx F F' ∧ Rep K mg T Z (ρ.set i (some (.d (frz c)))) F' σ H := by
  obtain ⟨p, h1, h2, h3, h4, h5⟩ := r.own i c h
  have hl : i < ρ.length := (List.getElem?_eq_some_iff.mp h).1
  have r0 : Rep K mg T Z (ρ.set i none) F σ H := r.forget (by rw [List.length_set]; exact r.len) fun j x e => by
    by_cases hj : i = j
    · subst hj
      rw [List.getElem?_set_self hl] at e
      cases e
    · rw [List.getElem?_set_ne hj] at e
      exact ⟨e, rfl⟩
  have nO : ∀ (j : Nat) (c' : Own), (ρ.set i none)[j]? = some (some (.own c')) → σ[j]? ≠ some (some (.ref p)) := fun j c' e z => by
    by_cases hj : i = j
    · subst hj
      rw [List.getElem?_set_self hl] at e
      cases e
    · rw [List.getElem?_set_ne hj] at e
      exact hj (r.dis i j c c' p h e h1 z)
  obtain ⟨o, ho, _⟩ := h2.some
  have r1 := r0.freeze ho h4 h5 nO h3
  have ff : Fx F (upd F p o) := Fx.new h3
  have rp : Rp K mg (upd F p o) (.ref p) (frz c) := by
    cases c with
    | lst ds =>
      obtain ⟨xs, q, rx⟩ := h2
      rw [ho] at q
      cases q
      exact .lst upd_same (rx.mono ff)
    | dic ds =>
      obtain ⟨xs, q, rx⟩ := h2
      rw [ho] at q
      cases q
      exact .dic upd_same (rx.mono ff)
  have r2 := r1.set (i := i) rp
  rw [List.set_set] at r2
  have e : σ.set i (some (V.ref p)) = σ := by
    apply List.ext_getElem?
    intro j
    by_cases hj : i = j
    · subst hj
      rw [List.getElem?_set_self (r.len ▸ hl), h1]
    · rw [List.getElem?_set_ne hj]
  rw [e] at r2
  exact ⟨_, ff, r2⟩
theorem qs_freeze (i : Nat) (h : QSs X T Z sts ts) : QSs X T Z sts (dFreeze i ts) :=
  pss_imp h fun E σ H ⟨ρ, F, er, De, rep, tk, h, hn, hr, hb, hc⟩ => by
    unfold dFreeze at h
    split at h
    · rename_i c hi
      obtain ⟨F', ff, r⟩ := rep.freezeSlot hi
      exact ⟨_, F', er, De, r, tk, h, fun σ2 H2 F2 ρ2 e2 => hn σ2 H2 F2 ρ2 (ff.trans e2), fun v σ2 H2 F2 ρ2 d e2 => hr v σ2 H2 F2 ρ2 d (ff.trans e2), fun σ2 H2 F2 ρ2 e2 => hb σ2 H2 F2 ρ2 (ff.trans e2), fun σ2 H2 F2 ρ2 e2 => hc σ2 H2 F2 ρ2 (ff.trans e2)⟩
    · exact h.elim
/-- an own object is written -/
theorem Rep.updOwn {K : PySem.W.Frag} {mg : Mg} {ρ : DEnv} {F H : Hp} {σ : L2.St} (r : Rep K mg T Z ρ F σ H) {i : Nat} {c c' : Own} {p : Addr} {o : HO} (h : ρ[i]? = some (some (.own c))) (h1 : σ[i]? = some (some (.ref p))) (hc : OwnAt K mg F (upd H p o) p c') :
    Rep K mg T Z (ρ.set i (some (.own c'))) F σ (upd H p o) := by
  obtain ⟨p', h1', h2, h3, h4, h5⟩ := r.own i c h
  rw [h1] at h1'
  cases h1'
  have hl : i < ρ.length := (List.getElem?_eq_some_iff.mp h).1
  have r0 : Rep K mg T Z (ρ.set i none) F σ H := r.forget (by rw [List.length_set]; exact r.len) fun j x e => by
    by_cases hj : i = j
    · subst hj
      rw [List.getElem?_set_self hl] at e
      cases e
    · rw [List.getElem?_set_ne hj] at e
      exact ⟨e, rfl⟩
  have nO : ∀ (j : Nat) (c' : Own), (ρ.set i none)[j]? = some (some (.own c')) → σ[j]? ≠ some (some (.ref p)) := fun j c' e z => by
    by_cases hj : i = j
    · subst hj
      rw [List.getElem?_set_self hl] at e
      cases e
    · rw [List.getElem?_set_ne hj] at e
      exact hj (r.dis i j c c' p h e h1 z)
  have hk : ∃ o', H p = some o' ∧ ((∃ xs, o' = .lst xs) ∨ ∃ ks, o' = .dK ks) := by
    cases c with
    | lst ds =>
      obtain ⟨xs, q, _⟩ := h2
      exact ⟨_, q, .inl ⟨xs, rfl⟩⟩
    | dic ds =>
      obtain ⟨xs, q, _⟩ := h2
      exact ⟨_, q, .inr ⟨xs, rfl⟩⟩
  have hot : ∀ ps, o ≠ .tbl ps := by
    obtain ⟨o', q, q2⟩ := hc.some
    rw [upd_same] at q
    cases q
    exact q2
  have r1 := r0.write (o := o) h3 h4 h5 hk nO hot
  have r2 := r1.setOwn (i := i) hc h3 h4 h5 fun j c' _ => nO j c'
  rw [List.set_set] at r2
  have e : σ.set i (some (V.ref p)) = σ := by
    apply List.ext_getElem?
    intro j
    by_cases hj : i = j
    · subst hj
      rw [List.getElem?_set_self (r.len ▸ hl), h1]
    · rw [List.getElem?_set_ne hj]
  rw [e] at r2
  exact r2
/-- xs.append(e), xs an own list -/
def dAppend (i : Nat) (te : DTE) : DTS := fun ρ E er => match ρ[i]? with
  | some (some (.own (.lst _))) => te ρ (fun d ρ1 => match ρ1[i]? with
    | some (some (.own (.lst ds))) => ds.length < sizeLine ∧ E.nx (ρ1.set i (some (.own (.lst (ds ++ [d])))))
    | _ => False) er
  | _ => False
theorem qs_append (i : Nat) {p1 apos cpos : Pos} (h : QE X T Z e te) (hN : X.N[i]? = some x := by rfl) (hv : Vis X.env.scope x := by first | exact Or.inl rfl | exact Or.inr (Or.inl rfl) | exact Or.inr (Or.inr rfl)) (hd : (x == ("__debug__" : Str)) = false := by decide) (hcd : (x == ("__classdict__" : Str)) = false := by decide)
    (hp : PE X (.Call (.Attribute (.Name x p1) "append" apos) [e] [] cpos) (tBM X.K "list" rAppend (tVar i) (tCons (up X T Z te) tNil)) := by exact (pe_bm PySem.F.plainAttrs_list PySem.F.slot_list_append PySem.F.type_list_append mt_append (pe_var (by assumption) (by assumption)) (pa_cons (by assumption) pa_nil)))
    (hs : swapsWith (.Call (.Attribute (.Name x p1) "append" apos) [e] [] cpos) none pos.line X.env = pure false := by rfl) : QS X T Z (.Expr (.Call (.Attribute (.Name x p1) "append" apos) [e] [] cpos) pos) (dAppend i te) :=
  ps_imp (ps_expr hp hs) fun E σ H ⟨ρ, F, er, De, rep, tk, h, hn, hr, hb, hc⟩ => by
    unfold dAppend at h
    split at h
    · rename_i ds0 hi
      obtain ⟨p, h1, ⟨xs, hx, rx⟩, _⟩ := rep.own i _ hi
      refine ⟨.ref p, h1, .inl ⟨rfl, xs, SqL.of hx⟩, ρ, F, er, _, rep, tk, h, fun v H1 F1 d ρ1 e1 rep1 rv h2 => ?_⟩
      split at h2
      · rename_i ds hi1
        obtain ⟨p', h1', ⟨ys, hy, ry⟩, _⟩ := rep1.own i _ hi1
        rw [h1] at h1'
        cases h1'
        refine ⟨p, ys, v, rfl, rfl, hy, by rw [ry.length]; exact h2.1, ?_⟩
        exact hn σ _ F1 _ e1 (rep1.updOwn (c' := .lst (ds ++ [d])) hi1 h1 ⟨_, upd_same, ry.append (.cons rv .nil)⟩) h2.2
      · exact h2.elim
    · exact h.elim

/-! ### loops -/
abbrev DTG := D → DEnv → (DEnv → Prop) → Prop
def upG (X : Cx) (T : List (Addr × Str)) (Z : Zx) (g : DTG) : TG := fun v σ H Q => ∃ ρ F d R, Rep X.K X.mg T Z ρ F σ H ∧ Rp X.K X.mg F v d ∧ g d ρ R ∧ ∀ σ' ρ', Rep X.K X.mg T Z ρ' F σ' H → R ρ' → Q σ' H
abbrev QG (X : Cx) (T : List (Addr × Str)) (Z : Zx) (tg : Expr) (g : DTG) : Prop := PG X tg (upG X T Z g)
theorem pg_imp {tg : Expr} {t t' : TG} (h : PG X tg t) (i : ∀ v σ H Q, t' v σ H Q → t v σ H Q) : PG X tg t' := ⟨fun pins s σ H v u Q I r q => h.run pins s σ H v u Q I r (i v σ H Q q)⟩
def dgName (i : Nat) : DTG := fun d ρ R => R (ρ.set i (some (.d d)))
theorem qg_name (i : Nat) (hN : X.N.Nodup) (hi : X.N[i]? = some x := by rfl) (hx : Loc X.env.scope x := by first | exact Or.inl rfl | exact Or.inr rfl) (hf : X.fn x = true ∨ X.env.scope.names.lookup x = some .local := by first | exact .inl rfl | exact .inr rfl) : QG X T Z (.Name x pos) (dgName i) :=
  pg_imp (pg_name hN hi hx hf) fun v σ H Q ⟨ρ, F, d, R, rep, rv, h, hk⟩ => hk _ _ (rep.set rv) h
abbrev DTGs := List D → DEnv → (DEnv → Prop) → Prop
def upGs (X : Cx) (T : List (Addr × Str)) (Z : Zx) (g : DTGs) : TGs := fun vs σ H Q => ∃ ρ F ds R, Rep X.K X.mg T Z ρ F σ H ∧ RpL X.K X.mg F vs ds ∧ g ds ρ R ∧ ∀ σ' ρ', Rep X.K X.mg T Z ρ' F σ' H → R ρ' → Q σ' H
abbrev QGs (X : Cx) (T : List (Addr × Str)) (Z : Zx) (tg : List Expr) (g : DTGs) : Prop := PGs X tg (upGs X T Z g)
theorem pgs_imp {tg : List Expr} {t t' : TGs} (h : PGs X tg t) (i : ∀ v σ H Q, t' v σ H Q → t v σ H Q) : PGs X tg t' := ⟨fun pins s σ H v u Q I r q => h.run pins s σ H v u Q I r (i v σ H Q q)⟩
def dgNil : DTGs := fun ds ρ R => match ds with
  | [] => R ρ
  | _ => False
def dgCons (g : DTG) (r : DTGs) : DTGs := fun ds ρ R => match ds with
  | d :: ds => g d ρ fun ρ1 => r ds ρ1 R
  | _ => False
theorem qgs_nil : QGs X T Z [] dgNil := pgs_imp pgs_nil fun vs σ H Q ⟨ρ, F, ds, R, rep, rv, h, hk⟩ => by
  cases rv with
  | nil => exact ⟨rfl, hk σ ρ rep h⟩
  | cons _ _ => exact h.elim
theorem qgs_cons {g : DTG} {gs : DTGs} {es : List Expr} (h1 : QG X T Z e g) (h2 : QGs X T Z es gs) (hs : (assignEach (e :: es) X.env).map (·.2) = assign e X.env :: (assignEach es X.env).map (·.2) := by rfl) : QGs X T Z (e :: es) (dgCons g gs) :=
  pgs_imp (pgs_cons h1 h2 hs) fun vs σ H Q ⟨ρ, F, ds, R, rep, rv, h, hk⟩ => by
    cases rv with
    | nil => exact h.elim
    | cons r1 r2 => exact ⟨_, _, rfl, ρ, F, _, _, rep, r1, h, fun σ1 ρ1 rep1 h1 => ⟨ρ1, F, _, _, rep1, r2, h1, hk⟩⟩
def dgTup (n : Nat) (g : DTGs) : DTG := fun d ρ R => match d with
  | .tup xs => xs.length = n ∧ g xs ρ R
  | _ => False
theorem qg_tup {es : List Expr} {k n : Nat} {g : DTGs} (hc : X.calm = true) (h : QGs X T Z es g) (hn : (assignEach es X.env).length = n := by rfl) (hst : (assignEach es X.env).findIdx? (·.1) = none := by rfl) : QG X T Z (.Tuple es k pos) (dgTup n g) :=
  pg_imp (pg_tup hc h hn hst) fun v σ H Q ⟨ρ, F, d, R, rep, rv, h, hk⟩ => by
    cases rv with
    | tup h1 h2 => exact ⟨_, _, rfl, rep.ok.sub.sqt h1, h2.length.trans h.1, ρ, F, _, R, rep, h2, h.2, hk⟩
    | _ => exact h.elim
/-- target = e -/
def dAsg (te : DTE) (g : DTG) : DTS := fun ρ E er => te ρ (fun d ρ1 => g d ρ1 E.nx) er
theorem qs_asg {tg : Expr} {g : DTG} (h : QE X T Z e te) (hg : QG X T Z tg g) (hs : swapsWithSole [tg] e pos.line X.env = pure false := by rfl) (hw : swappedStores [tg] e X.env = pure none := by rfl) (h1 : (assignEach [tg] X.env).map (·.2) = [assign tg X.env] := by rfl) : QS X T Z (.Assign [tg] e pos) (dAsg te g) :=
  ps_imp (ps_asg h hg hs hw h1) fun E σ H ⟨ρ, F, er, De, rep, tk, h, hn, hr, hb, hc⟩ => ⟨ρ, F, er, _, rep, tk, h, fun v H1 F1 d ρ1 e1 rep1 rv h1 => ⟨ρ1, F1, d, _, rep1, rv, h1, fun σ' ρ' rep2 h2 => hn σ' H1 F1 ρ' e1 rep2 h2⟩⟩
def dFor (wi : DTI) (g : DTG) (tb : DTS) : DTS := fun ρ E er => wi ρ (fun ds ρ1 => ∃ Iv : Nat → DEnv → Prop, Iv 0 ρ1 ∧
  (∀ k d ρ', ds[k]? = some d → Iv k ρ' → g d ρ' fun ρ2 => tb ρ2 { nx := Iv (k + 1), ct := Iv (k + 1), bk := E.nx, rt := E.rt } er) ∧ ∀ ρ', Iv ds.length ρ' → E.nx ρ') er
theorem qs_for {tg iter : Expr} {body : List Stmt} {wi : DTI} {g : DTG} {tb : DTS} (hp : PassesOwn (model X.prog X.w) X.A X.env X.xe) (hc : X.calm = true) (hi : QI X T Z tg iter wi) (hg : QG X T Z tg g) (hb : QSs X T Z body tb) (hs : ∀ x, foldedSetIterable iter X.env x = pure x := by intro _; rfl) :
    QS X T Z (.For tg iter body [] pos) (dFor wi g tb) :=
  ps_imp (ps_for hp hc hi hg hb hs) fun E σ H ⟨ρ, F, er, De, rep, tk, h, hn, hr, hb, hc⟩ => ⟨ρ, F, er, _, rep, tk, h, fun J H1 F1 ds ρ1 e1 rep1 wd ⟨Iv, i0, istep, iend⟩ => by
    refine for_it wd (fun k σ' H' => ∃ ρ' F', Fx F1 F' ∧ Rep X.K X.mg T Z ρ' F' σ' H' ∧ Iv k ρ') ⟨ρ1, F1, Fx.refl F1, rep1, i0⟩ ?_ ?_ ?_
    · rintro k σ' H' _ ⟨ρ', F', e, r', _⟩
      exact e.trans r'.ok.sub
    · rintro k x σ' H' H'' hlt ⟨ρ', F', e, r', iv⟩ y
      obtain ⟨F'', g2, k2, d, hd, rd⟩ := y F' e r'.ok
      have r2 := r'.step g2 k2
      have e2 := e.trans g2.ff
      exact ⟨ρ', F'', d, _, r2, rd, istep k d ρ' hd iv, fun σ3 ρ3 r3 h3 => ⟨ρ3, F'', er, _, r3, tk, h3, fun σ4 H4 F4 ρ4 e4 r4 h4 => ⟨ρ4, F4, e2.trans e4, r4, h4⟩,
        fun v σ4 H4 F4 ρ4 d4 e4 r4 rv4 h4 => hr v σ4 H4 F4 ρ4 d4 (e1.trans (e2.trans e4)) r4 rv4 h4, fun σ4 H4 F4 ρ4 e4 r4 h4 => hn σ4 H4 F4 ρ4 (e1.trans (e2.trans e4)) r4 h4, fun σ4 H4 F4 ρ4 e4 r4 h4 => ⟨ρ4, F4, e2.trans e4, r4, h4⟩⟩⟩
    · rintro σ' H' ⟨ρ', F', e, r', iv⟩
      exact hn σ' H' F' ρ' (e1.trans e) r' (iend ρ' iv)⟩
def dWhile (t : DTT) (tb : DTS) : DTS := fun ρ E er => ∃ Iv : Nat → DEnv → Prop, (∃ m, Iv m ρ) ∧ ∀ m ρ', Iv m ρ' → t ρ' (fun b ρ2 => match b with
  | true => tb ρ2 { nx := fun ρ3 => ∃ m', m' < m ∧ Iv m' ρ3, ct := fun ρ3 => ∃ m', m' < m ∧ Iv m' ρ3, bk := E.nx, rt := E.rt } er
  | false => E.nx ρ2) er
theorem qs_while {body : List Stmt} {tb : DTS} (hp : PassesOwn (model X.prog X.w) X.A X.env X.xe) (hc : QT X T Z c tt) (hb : QSs X T Z body tb) : QS X T Z (.While c body [] pos) (dWhile tt tb) :=
  ps_imp (ps_while hp hc hb) fun E σ H ⟨ρ, F, er, De, rep, tk, ⟨Iv, ⟨m0, i0⟩, istep⟩, hn, hr, hb, hc⟩ => by
    refine ⟨fun m σ' H' => ∃ ρ' F', Fx F F' ∧ Rep X.K X.mg T Z ρ' F' σ' H' ∧ Iv m ρ', ⟨m0, ρ, F, Fx.refl F, rep, i0⟩, ?_⟩
    rintro m σ' H' ⟨ρ', F', e, r', iv⟩
    refine ⟨ρ', F', er, _, r', tk, istep m ρ' iv, fun b H2 F2 ρ2 e2 r2 h2 => ?_⟩
    cases b with
    | true =>
      refine iteT ⟨fun σ3 H3 => ∃ m', m' < m ∧ ∃ ρ3 F3, Fx F F3 ∧ Rep X.K X.mg T Z ρ3 F3 σ3 H3 ∧ Iv m' ρ3, fun _ _ z => z, ρ2, F2, er, _, r2, tk, h2, ?_, ?_, ?_, ?_⟩
      · rintro σ3 H3 F3 ρ3 e3 r3 ⟨m', lt, iv3⟩
        exact ⟨m', lt, ρ3, F3, e.trans (e2.trans e3), r3, iv3⟩
      · exact fun v σ3 H3 F3 ρ3 d3 e3 r3 rv3 h3 => hr v σ3 H3 F3 ρ3 d3 (e.trans (e2.trans e3)) r3 rv3 h3
      · exact fun σ3 H3 F3 ρ3 e3 r3 h3 => hn σ3 H3 F3 ρ3 (e.trans (e2.trans e3)) r3 h3
      · rintro σ3 H3 F3 ρ3 e3 r3 ⟨m', lt, iv3⟩
        exact ⟨m', lt, ρ3, F3, e.trans (e2.trans e3), r3, iv3⟩
    | false => exact iteF (hn σ' H2 F2 ρ2 (e.trans e2) r2 h2)
end

/-! ### a def keeps its promise -/
/-- the slots at the entry -/
def dStart (n : Nat) (ds : List DV) : DEnv := ds.map some ++ List.replicate (n - ds.length) none
theorem rep_start {K : PySem.W.Frag} {mg : Mg} {T : List (Addr × Str)} {dr : Option (Addr × Addr)} {F H : Hp} {N : List Str} {vs : List V} {ds : List DV} (k : FOk K T dr F H) (r : RpAs K mg F dr vs ds) : Rep K mg T ⟨dr, F, H⟩ (dStart N.length ds) F (L2.start N vs) H := by
  have hl : vs.length = ds.length := Paired.length r
  have get : ∀ {vs : List V} {ds : List DV} {i : Nat} {x : DV}, RpAs K mg F dr vs ds → ds[i]? = some x → ∃ v, vs[i]? = some v ∧ RpA K mg F dr v x := by
    intro vs ds i x r
    induction r generalizing i with
    | nil => intro q; simp at q
    | cons a b ih =>
      cases i with
      | zero =>
        intro q
        simp at q
        subst q
        exact ⟨_, rfl, a⟩
      | succ i =>
        intro q
        obtain ⟨v, z1, z2⟩ := ih (by simpa using q)
        exact ⟨v, by simpa using z1, z2⟩
  have key : ∀ {i : Nat} {x : DV}, (dStart N.length ds)[i]? = some (some x) → ∃ v, (L2.start N vs)[i]? = some (some v) ∧ RpA K mg F dr v x := fun {i x} e => by
    unfold dStart at e
    unfold L2.start
    by_cases hi : i < ds.length
    · rw [List.getElem?_append_left (by simpa using hi), List.getElem?_map] at e
      cases q : ds[i]? with
      | none => rw [q] at e; cases e
      | some y =>
        rw [q] at e
        cases e
        obtain ⟨v, h1, h2⟩ := get r q
        exact ⟨v, by rw [List.getElem?_append_left (by rw [List.length_map, hl]; exact hi), List.getElem?_map, h1] <;> rfl, h2⟩
    · rw [List.getElem?_append_right (by simp; omega), List.getElem?_replicate] at e
      split at e <;> cases e
  refine ⟨by simp [dStart, L2.start, hl], k, Grw.refl, fun i d e => ?_, fun i e => ?_, fun i c e => ?_, fun i L cs e => ?_, fun i j c c' p e => ?_⟩
  · exact key e
  · obtain ⟨v, h1, a, l, h2, h3⟩ := key e
    exact ⟨a, l, h2, h3 ▸ h1⟩
  · obtain ⟨v, h1, h2⟩ := key e
    exact h2.elim
  · obtain ⟨v, h1, h2⟩ := key e
    exact ⟨v, h1, h2⟩
  · obtain ⟨v, h1, h2⟩ := key e
    exact h2.elim
section
variable {P : Program} {w : World} {K : PySem.W.Frag} {mg : Mg} {base : Heap} {T : List (Addr × Str)} {x : Str} {st : Stmt} {f : Addr} {fd : FuncData} {N ps : List Str} {k : Nat} {pt : Pt} {ts : DTS}
abbrev CxD (P : Program) (w : World) (K : PySem.W.Frag) (mg : Mg) (base : Heap) (N : List Str) (x : Str) (st : Stmt) (f : Addr) (cdv : Value) (A : Around) (outer : List Env) (s : Shared) (H : Hp) (E : XK) : Cx := cxOf (L2.CX P w) P w K mg base N x (defScope st) f cdv A outer s H E
/-- the body's derivation -/
def Body (P : Program) (w : World) (K : PySem.W.Frag) (mg : Mg) (base : Heap) (T : List (Addr × Str)) (N : List Str) (x : Str) (st : Stmt) (k : Nat) (ts : DTS) : Prop := ∀ (f : Addr) (cdv : Value) (A : Around) (outer : List Env) (s : Shared) (H : Hp) (E : XK) (Z : Zx), Room k (A.deeper (envOfC x (defScope st) s.heap.objs.size f cdv)) →
  QSs (CxD P w K mg base N x st f cdv A outer s H E) T Z (defBody st) ts
def BodyG (P : Program) (w : World) (K : PySem.W.Frag) (mg : Mg) (base : Heap) (T : List (Addr × Str)) (N : List Str) (x : Str) (st : Stmt) (k : Nat) (ts : DTS) : Prop := ∀ (f : Addr) (cdv : Value) (A : Around) (outer : List Env) (s : Shared) (H : Hp) (E : XK) (Z : Zx), Room k (A.deeper (envOfC x (defScope st) s.heap.objs.size f cdv)) → A.guards = some [] →
  QSs (CxD P w K mg base N x st f cdv A outer s H E) T Z (defBody st) ts
/-- what is left to be shown, over data alone -/
def Pure (n m : Nat) (ts : DTS) (pt : Pt) : Prop := ∀ ds R er, pt ds R er → ds.length = m ∧ ts (dStart n ds) { nx := fun _ => R .non, rt := R } er
theorem body_run {cdv : Value} {A : Around} {outer : List Env} {s : Shared} {H : Hp} {vs : List V} {Q : VK} {E : XK} (hb : ∀ Z, QSs (CxD P w K mg base N x st f cdv A outer s H E) T Z (defBody st) ts) (hp : Pure N.length ps.length ts pt) (h : SpF K mg T pt vs H Q E) :
    ∃ t, PSs (CxD P w K mg base N x st f cdv A outer s H E) (defBody st) t ∧ t { nx := fun _ H' => Q .non H', rt := Q } (L2.start N vs) H := by
  obtain ⟨F, dr, ds, R, er, k, r, hpt, hq, he⟩ := h
  refine ⟨_, hb ⟨dr, F, H⟩, dStart N.length ds, F, er, _, rep_start k r, ?_, (hp ds R er hpt).2, ?_, ?_, ?_, ?_⟩
  · refine Takes.imp (takes_of (X := CxD P w K mg base N x st f cdv A outer s H E) rfl rfl rfl rfl) ?_
    rintro cls dd σ' H' ⟨ρ', F', e, rep', ea, hE⟩
    exact he cls dd H' F' e rep'.gr rep'.ok ea hE
  · exact fun σ' H' F' ρ' _ rep' hn => hq .non H' F' .non rep'.gr rep'.ok .non hn
  · exact fun v σ' H' F' ρ' d _ rep' rv hr => hq v H' F' d rep'.gr rep'.ok rv hr
  · exact fun σ' H' F' ρ' _ _ z => z.elim
  · exact fun σ' H' F' ρ' _ _ z => z.elim
theorem sp_len (hp : Pure N.length ps.length ts pt) {vs : List V} {H : Hp} {Q : VK} {E : XK} (h : SpF K mg T pt vs H Q E) : vs.length = ps.length := by
  obtain ⟨F, dr, ds, R, er, k, r, hpt, hq, he⟩ := h
  exact (Paired.length r).trans (hp ds R er hpt).1
theorem def_ok (hm : mg x = some (.ref f)) (F : FunD K x x (defArgs st) (defBody st) (defScope st) [] [] f fd) (S : FnScope N ps (defScope st)) (hbd : Binds K fd ps []) (hb : Body P w K mg base T N x st k ts) (hp : Pure N.length ps.length ts pt) : Fo P w K mg base x st ps (k + 1) (SpF K mg T pt) :=
  ⟨f, fd, hm, F, hbd, F.ok S (fun vs H Q E h => sp_len hp h) fun cdv A outer s H vs Q E hr h => body_run (fun Z => hb f cdv A outer s H E Z hr) hp h⟩
theorem def_okG (hm : mg x = some (.ref f)) (F : FunD K x x (defArgs st) (defBody st) (defScope st) [] [] f fd) (S : FnScope N ps (defScope st)) (hbd : Binds K fd ps []) (hb : BodyG P w K mg base T N x st k ts) (hp : Pure N.length ps.length ts pt) : Go P w K mg base x st ps (k + 1) (SpF K mg T pt) := by
  refine ⟨f, fd, hm, F, hbd, fun vs H Q E h => sp_len hp h, fun A outer s H args us vs Q E hr hg e0 hbi r h => ?_⟩
  obtain ⟨oc, od, dV, kV, doc, pm, an, cdv, ct, osl, rfl, lk, hcd, hD, hK⟩ := F.ex
  exact LamX.run_ofS lk hcd S hr e0 hbi r (sp_len hp h) fun hr' => body_run (fun Z => hb f cdv A outer s H E Z hr' hg) hp h
end
end DL
set_option Elab.async false
set_option linter.all false
set_option maxRecDepth 100000
set_option maxHeartbeats 2000000
namespace DL
open PySem PySem.Spec PyProof.Rows L2
/-! ### built-in functions -/
def dB (g : List D → (D → Prop) → Prop) (ta : DTA) : DTE := fun ρ R er => ta ρ (fun ds ρ1 => match allD ds with
  | some xs => g xs fun d => R d ρ1
  | none => False) er
def OkB (X : Cx) (T : List (Addr × Str)) (r : List V → Hp → VK → Prop) (g : List D → (D → Prop) → Prop) : Prop := ∀ (dr : Option (Addr × Addr)) (F H : Hp) (vs : List V) (ds : List D) (Q : VK) (R : D → Prop), FOk X.K T dr F H → RpL X.K X.mg F vs ds → g ds R →
  (∀ u H' F' d, Grw T dr F H F' H' → FOk X.K T dr F' H' → Rp X.K X.mg F' u d → R d → Q u H') → r vs H Q
section
variable {X : Cx} {T : List (Addr × Str)} {Z : Zx} {a b : Expr} {ta : DTA} {es : List Expr} {p pos : Pos} {x : Str} {r : List V → Hp → VK → Prop} {g : List D → (D → Prop) → Prop}
theorem qb_up {e : Expr} (k : OkB X T r g) (h : PE X e (tCB r (upA X T Z ta))) : QE X T Z e (dB g ta) :=
  pe_imp h fun σ H Q ⟨ρ, F, er, R, rep, tk, h, hk⟩ => ⟨ρ, F, er, _, rep, tk, h, fun vs H1 F1 ds ρ1 e1 rep1 rvs h1 => by
    split at h1
    · rename_i xs hx
      exact k Z.dr F1 H1 vs xs Q _ rep1.ok (rvs.all hx) h1 fun u H' F' d g1 k1 ru hR => hk u H' F' d ρ1 (e1.trans g1.ff) (rep1.step g1 k1) ru hR
    · exact h1.elim⟩
theorem qe_B {id : String} (hc : CallR X (.builtin id) r) (k : OkB X T r g) (hv : bootBuiltins x = some (.builtin id)) (hg : Gl X x) (hm : X.mg x = none) (ha : QA X T Z (a :: es) ta) (hn : x ≠ "__name__" := by decide) (hdb : (x == ("__debug__" : Str)) = false := by decide)
    (he : starEach (a :: es) X.env = (false, eval a X.env) :: starEach es X.env := by rfl) (hpl : (backTo pos (starEach es X.env)).any (·.1) = false := by rfl) : QE X T Z (.Call (.Name x p) (a :: es) [] pos) (dB g ta) := qb_up k (pe_callB hc hg hm hv ha hn hdb he hpl)
theorem qe_Bf {id : String} (hc : CallR X (.builtin id) r) (k : OkB X T r g) (hg : Gl X x) (hm : X.mg x = some (.builtin id)) (ha : QA X T Z (a :: es) ta) (hdb : (x == ("__debug__" : Str)) = false := by decide)
    (he : starEach (a :: es) X.env = (false, eval a X.env) :: starEach es X.env := by rfl) (hpl : (backTo pos (starEach es X.env)).any (·.1) = false := by rfl) : QE X T Z (.Call (.Name x p) (a :: es) [] pos) (dB g ta) := qb_up k (pe_callBfun hc hg hm ha hdb he hpl)
theorem qe_Ty {C : String} (hc : CallR X (.type C) r) (k : OkB X T r g) (hv : bootBuiltins x = some (.type C)) (hg : Gl X x) (hm : X.mg x = none) (ha : QA X T Z (a :: es) ta) (hn : x ≠ "__name__" := by decide) (hdb : (x == ("__debug__" : Str)) = false := by decide)
    (he : starEach (a :: es) X.env = (false, eval a X.env) :: starEach es X.env := by rfl) (hpl : (backTo pos (starEach es X.env)).any (·.1) = false := by rfl) : QE X T Z (.Call (.Name x p) (a :: es) [] pos) (dB g ta) := qb_up k (pe_callTy hc hg hm hv ha hn hdb he hpl)
theorem okB_at {r : List V → Hp → VK → Prop} {g : List D → (D → Prop) → Prop} (h : ∀ (dr : Option (Addr × Addr)) (F H : Hp) (vs : List V) (ds : List D) (R : D → Prop), FOk X.K T dr F H → RpL X.K X.mg F vs ds → g ds R → ∃ u d, Rp X.K X.mg F u d ∧ R d ∧ ∀ Q : VK, Q u H → r vs H Q) : OkB X T r g :=
  fun dr F H vs ds Q R k rv hg hq => by
    obtain ⟨u, d, h1, h2, h3⟩ := h dr F H vs ds R k rv hg
    exact h3 Q (hq u H F d Grw.refl k h1 h2)
theorem RpL.one {K : PySem.W.Frag} {mg : Mg} {F : Hp} {vs : List V} {d : D} (h : RpL K mg F vs [d]) : ∃ v, vs = [v] ∧ Rp K mg F v d := by
  cases h with
  | cons h1 h2 =>
    cases h2
    exact ⟨_, rfl, h1⟩
theorem RpL.two {K : PySem.W.Frag} {mg : Mg} {F : Hp} {vs : List V} {d e : D} (h : RpL K mg F vs [d, e]) : ∃ v w, vs = [v, w] ∧ Rp K mg F v d ∧ Rp K mg F w e := by
  cases h with
  | cons h1 h2 =>
    obtain ⟨w, rfl, h3⟩ := h2.one
    exact ⟨_, _, rfl, h1, h3⟩
/-! abs, min, max, int, str, len -/
def gAbs : List D → (D → Prop) → Prop
  | [.int i], R => R (.int (if i < 0 then -i else i))
  | _, _ => False
def gMin2 : List D → (D → Prop) → Prop
  | [.int i, .int j], R => R (.int (if j < i then j else i))
  | _, _ => False
def gMax2 : List D → (D → Prop) → Prop
  | [.int i, .int j], R => R (.int (if j > i then j else i))
  | _, _ => False
def gInt : List D → (D → Prop) → Prop
  | [.int i], R => R (.int i)
  | [.bl k], R => R (.int (if k then 1 else 0))
  | _, _ => False
def gLen : List D → (D → Prop) → Prop
  | [.str x], R => x.length ≤ sizeLine ∧ R (.int (x.length : Nat))
  | [.lst xs], R => R (.int (xs.length : Nat))
  | [.tup xs], R => R (.int (xs.length : Nat))
  | [.scr xs], R => R (.int (xs.length : Nat))
  | [.dic xs], R => R (.int (xs.length : Nat))
  | _, _ => False
def gStr : List D → (D → Prop) → Prop
  | [.int i], R => i.natAbs.log2 < 1920 ∧ R (.str (toString i))
  | [.str x], R => R (.str x)
  | _, _ => False
def gList : List D → (D → Prop) → Prop
  | [.lst xs], R => R (.lst xs)
  | [.tup xs], R => R (.lst xs)
  | [.scr xs], R => R (.lst (xs.map D.int))
  | _, _ => False
def gTuple : List D → (D → Prop) → Prop
  | [.lst xs], R => R (.tup xs)
  | [.tup xs], R => R (.tup xs)
  | _, _ => False
def gGcd : List D → (D → Prop) → Prop
  | [.int a, .int b], R => R (.int ((Nat.gcd a.natAbs b.natAbs : Nat) : Int))
  | _, _ => False
def blD : List D → Option (List Bool)
  | [] => some []
  | .bl b :: r => (blD r).map (b :: ·)
  | _ :: _ => none
def inD : List D → Option (List Int)
  | [] => some []
  | .int b :: r => (inD r).map (b :: ·)
  | _ :: _ => none
theorem RpL.bls {K : PySem.W.Frag} {mg : Mg} {F : Hp} : ∀ {vs : List V} {ds : List D} {bs : List Bool}, RpL K mg F vs ds → blD ds = some bs → vs = bs.map V.bl
  | _, _, _, .nil, h => by
    cases h
    rfl
  | _, .bl b :: r, _, .cons h1 h2, h => by
    obtain ⟨ys, e1, e2⟩ := Option.map_eq_some_iff.mp h
    subst e2
    cases h1
    rw [RpL.bls h2 e1] <;> rfl
theorem RpL.ins {K : PySem.W.Frag} {mg : Mg} {F : Hp} : ∀ {vs : List V} {ds : List D} {bs : List Int}, RpL K mg F vs ds → inD ds = some bs → vs = bs.map V.int
  | _, _, _, .nil, h => by
    cases h
    rfl
  | _, .int b :: r, _, .cons h1 h2, h => by
    obtain ⟨ys, e1, e2⟩ := Option.map_eq_some_iff.mp h
    subst e2
    cases h1
    rw [RpL.ins h2 e1] <;> rfl
theorem inD_map : ∀ (ns : List Int), inD (ns.map D.int) = some ns
  | [] => rfl
  | n :: ns => by
    show (inD (ns.map D.int)).map _ = _
    rw [inD_map ns]
    rfl
theorem blD_map : ∀ (ns : List Bool), blD (ns.map D.bl) = some ns
  | [] => rfl
  | n :: ns => by
    show (blD (ns.map D.bl)).map _ = _
    rw [blD_map ns]
    rfl
def gAll : List D → (D → Prop) → Prop
  | [.lst xs], R => match blD xs with
    | some bs => R (.bl (bs.all id))
    | none => False
  | _, _ => False
def gAny : List D → (D → Prop) → Prop
  | [.lst xs], R => match blD xs with
    | some bs => R (.bl (bs.any id))
    | none => False
  | _, _ => False
def gSum : List D → (D → Prop) → Prop
  | [.lst xs], R => match inD xs with
    | some bs => R (.int bs.sum)
    | none => False
  | _, _ => False
def gMaxL : List D → (D → Prop) → Prop
  | [.lst xs], R => match inD xs with
    | some bs => 0 < bs.length ∧ ∀ m, m ∈ bs → (∀ y, y ∈ bs → y ≤ m) → R (.int m)
    | none => False
  | _, _ => False
def gMinL : List D → (D → Prop) → Prop
  | [.lst xs], R => match inD xs with
    | some bs => 0 < bs.length ∧ ∀ m, m ∈ bs → (∀ y, y ∈ bs → m ≤ y) → R (.int m)
    | none => False
  | _, _ => False
def gSortI : List D → (D → Prop) → Prop
  | [.lst xs], R => match inD xs with
    | some bs => ∀ ns : List Int, ns.Perm bs → ns.Pairwise (· ≤ ·) → R (.lst (ns.map D.int))
    | none => False
  | _, _ => False
theorem qe_abs (hg : Gl X "abs") (hm : X.mg "abs" = none) (ha : QA X T Z (a :: es) ta)
    (he : starEach (a :: es) X.env = (false, eval a X.env) :: starEach es X.env := by rfl) (hpl : (backTo pos (starEach es X.env)).any (·.1) = false := by rfl) : QE X T Z (.Call (.Name "abs" p) (a :: es) [] pos) (dB gAbs ta) :=
  qe_B call_abs (okB_at fun dr F H vs ds R k rv h => by
    unfold gAbs at h
    split at h
    · obtain ⟨v, rfl, r1⟩ := rv.one
      cases r1
      exact ⟨_, _, .int _, h, fun Q q => ⟨_, rfl, q⟩⟩
    · exact h.elim) (by decide +kernel) hg hm ha (by decide) (by decide) he hpl
theorem qe_min2 (hc : X.calm = true) (hg : Gl X "min") (hm : X.mg "min" = none) (ha : QA X T Z (a :: es) ta)
    (he : starEach (a :: es) X.env = (false, eval a X.env) :: starEach es X.env := by rfl) (hpl : (backTo pos (starEach es X.env)).any (·.1) = false := by rfl) : QE X T Z (.Call (.Name "min" p) (a :: es) [] pos) (dB gMin2 ta) :=
  qe_B (call_min2 hc) (okB_at fun dr F H vs ds R k rv h => by
    unfold gMin2 at h
    split at h
    · obtain ⟨v, w, rfl, r1, r2⟩ := rv.two
      cases r1
      cases r2
      exact ⟨_, _, .int _, h, fun Q q => ⟨_, _, rfl, q⟩⟩
    · exact h.elim) (by decide +kernel) hg hm ha (by decide) (by decide) he hpl
theorem qe_max2 (hc : X.calm = true) (hg : Gl X "max") (hm : X.mg "max" = none) (ha : QA X T Z (a :: es) ta)
    (he : starEach (a :: es) X.env = (false, eval a X.env) :: starEach es X.env := by rfl) (hpl : (backTo pos (starEach es X.env)).any (·.1) = false := by rfl) : QE X T Z (.Call (.Name "max" p) (a :: es) [] pos) (dB gMax2 ta) :=
  qe_B (call_max2 hc) (okB_at fun dr F H vs ds R k rv h => by
    unfold gMax2 at h
    split at h
    · obtain ⟨v, w, rfl, r1, r2⟩ := rv.two
      cases r1
      cases r2
      exact ⟨_, _, .int _, h, fun Q q => ⟨_, _, rfl, q⟩⟩
    · exact h.elim) (by decide +kernel) hg hm ha (by decide) (by decide) he hpl
theorem qe_int1 (hg : Gl X "int") (hm : X.mg "int" = none) (ha : QA X T Z (a :: es) ta)
    (he : starEach (a :: es) X.env = (false, eval a X.env) :: starEach es X.env := by rfl) (hpl : (backTo pos (starEach es X.env)).any (·.1) = false := by rfl) : QE X T Z (.Call (.Name "int" p) (a :: es) [] pos) (dB gInt ta) :=
  qe_Ty call_int1 (okB_at fun dr F H vs ds R k rv h => by
    unfold gInt at h
    split at h
    · obtain ⟨v, rfl, r1⟩ := rv.one
      cases r1
      exact ⟨_, _, .int _, h, fun Q q => .inl ⟨_, rfl, q⟩⟩
    · obtain ⟨v, rfl, r1⟩ := rv.one
      cases r1
      exact ⟨_, _, .int _, h, fun Q q => .inr ⟨_, rfl, q⟩⟩
    · exact h.elim) (by decide +kernel) hg hm ha (by decide) (by decide) he hpl
theorem qe_str1 (hg : Gl X "str") (hm : X.mg "str" = none) (ha : QA X T Z (a :: es) ta)
    (he : starEach (a :: es) X.env = (false, eval a X.env) :: starEach es X.env := by rfl) (hpl : (backTo pos (starEach es X.env)).any (·.1) = false := by rfl) : QE X T Z (.Call (.Name "str" p) (a :: es) [] pos) (dB gStr ta) :=
  qe_Ty (call_str_int.or SkE.call_str_str) (okB_at fun dr F H vs ds R k rv h => by
    unfold gStr at h
    split at h
    · obtain ⟨v, rfl, r1⟩ := rv.one
      cases r1
      exact ⟨_, _, .str _, h.2, fun Q q => .inl ⟨_, rfl, h.1, q⟩⟩
    · obtain ⟨v, rfl, r1⟩ := rv.one
      cases r1
      exact ⟨_, _, .str _, h, fun Q q => .inr ⟨_, rfl, q⟩⟩
    · exact h.elim) (by decide +kernel) hg hm ha (by decide) (by decide) he hpl
theorem qe_len (hg : Gl X "len") (hm : X.mg "len" = none) (ha : QA X T Z (a :: es) ta)
    (he : starEach (a :: es) X.env = (false, eval a X.env) :: starEach es X.env := by rfl) (hpl : (backTo pos (starEach es X.env)).any (·.1) = false := by rfl) : QE X T Z (.Call (.Name "len" p) (a :: es) [] pos) (dB gLen ta) :=
  qe_B (call_len.or call_lenD) (okB_at fun dr F H vs ds R k rv h => by
    unfold gLen at h
    split at h
    · obtain ⟨v, rfl, r1⟩ := rv.one
      cases r1
      exact ⟨_, _, .int _, h.2, fun Q q => .inl ⟨_, _, rfl, ⟨h.1, rfl⟩, q⟩⟩
    · obtain ⟨v, rfl, r1⟩ := rv.one
      cases r1 with
      | lst h1 h2 => exact ⟨_, _, .int _, h, fun Q q => .inl ⟨_, _, rfl, .inl ⟨_, SqL.of (k.sub _ _ h1), h2.length.symm⟩, q⟩⟩
    · obtain ⟨v, rfl, r1⟩ := rv.one
      cases r1 with
      | tup h1 h2 => exact ⟨_, _, .int _, h, fun Q q => .inl ⟨_, _, rfl, .inr ⟨_, k.sub.sqt h1, h2.length.symm⟩, q⟩⟩
    · obtain ⟨v, rfl, r1⟩ := rv.one
      cases r1 with
      | scr h1 h2 => exact ⟨_, _, .int _, h, fun Q q => .inl ⟨_, _, rfl, .inl ⟨_, k.sub.sql h1, by simp⟩, q⟩⟩
    · obtain ⟨v, rfl, r1⟩ := rv.one
      cases r1 with
      | dic h1 h2 =>
        refine ⟨_, _, .int _, h, fun Q q => .inr ⟨_, _, rfl, k.sub _ _ h1, ?_⟩⟩
        rw [h2.length]
        exact q
    · exact h.elim) (by decide +kernel) hg hm ha (by decide) (by decide) he hpl
theorem qe_list1 (hg : Gl X "list") (hm : X.mg "list" = none) (ha : QA X T Z (a :: es) ta)
    (he : starEach (a :: es) X.env = (false, eval a X.env) :: starEach es X.env := by rfl) (hpl : (backTo pos (starEach es X.env)).any (·.1) = false := by rfl) : QE X T Z (.Call (.Name "list" p) (a :: es) [] pos) (dB gList ta) :=
  qe_Ty call_list_of (fun dr F H vs ds Q R k rv h hq => by
    unfold gList at h
    split at h
    · obtain ⟨v, rfl, r1⟩ := rv.one
      cases r1 with
      | lst h1 h2 =>
        refine ⟨_, _, rfl, .inl (SqL.of (k.sub _ _ h1)), fun l hl => ?_⟩
        obtain ⟨g1, k1, r1⟩ := laid_lst (dr := dr) k hl h2
        exact hq _ _ _ _ g1 k1 r1 h
    · obtain ⟨v, rfl, r1⟩ := rv.one
      cases r1 with
      | tup h1 h2 =>
        refine ⟨_, _, rfl, .inr (k.sub.sqt h1), fun l hl => ?_⟩
        obtain ⟨g1, k1, r1⟩ := laid_lst (dr := dr) k hl h2
        exact hq _ _ _ _ g1 k1 r1 h
    · obtain ⟨v, rfl, r1⟩ := rv.one
      cases r1 with
      | scr h1 h2 =>
        refine ⟨_, _, rfl, .inl (k.sub.sql h1), fun l hl => ?_⟩
        obtain ⟨g1, k1, r1⟩ := laid_lst (dr := dr) k hl (RpL.ofInts _)
        exact hq _ _ _ _ g1 k1 r1 h
    · exact h.elim) (by decide +kernel) hg hm ha (by decide) (by decide) he hpl
theorem qe_tuple1 (hg : Gl X "tuple") (hm : X.mg "tuple" = none) (ha : QA X T Z (a :: es) ta)
    (he : starEach (a :: es) X.env = (false, eval a X.env) :: starEach es X.env := by rfl) (hpl : (backTo pos (starEach es X.env)).any (·.1) = false := by rfl) : QE X T Z (.Call (.Name "tuple" p) (a :: es) [] pos) (dB gTuple ta) :=
  qe_Ty call_tuple_of (fun dr F H vs ds Q R k rv h hq => by
    unfold gTuple at h
    split at h
    · obtain ⟨v, rfl, r1⟩ := rv.one
      cases r1 with
      | lst h1 h2 =>
        refine ⟨_, _, rfl, .inl ⟨SqL.of (k.sub _ _ h1), fun l hl => ?_⟩⟩
        obtain ⟨g1, k1, r1⟩ := laid_tup (dr := dr) k hl h2
        exact hq _ _ _ _ g1 k1 r1 h
    · obtain ⟨v, rfl, r1⟩ := rv.one
      cases r1 with
      | tup h1 h2 => exact ⟨_, _, rfl, .inr ⟨k.sub.sqt h1, hq _ _ _ _ Grw.refl k (.tup h1 h2) h⟩⟩
    · exact h.elim) (by decide +kernel) hg hm ha (by decide) (by decide) he hpl
theorem qe_gcd {x : Str} (hg : Gl X x) (hm : X.mg x = some (.builtin "math.gcd")) (ha : QA X T Z (a :: es) ta) (hdb : (x == ("__debug__" : Str)) = false := by decide)
    (he : starEach (a :: es) X.env = (false, eval a X.env) :: starEach es X.env := by rfl) (hpl : (backTo pos (starEach es X.env)).any (·.1) = false := by rfl) : QE X T Z (.Call (.Name x p) (a :: es) [] pos) (dB gGcd ta) :=
  qe_Bf cr_gcd (okB_at fun dr F H vs ds R k rv h => by
    unfold gGcd at h
    split at h
    · obtain ⟨v, w, rfl, r1, r2⟩ := rv.two
      cases r1
      cases r2
      exact ⟨_, _, .int _, h, fun Q q => ⟨_, _, rfl, q⟩⟩
    · exact h.elim) hg hm ha hdb he hpl
theorem lst_at {K : PySem.W.Frag} {mg : Mg} {dr : Option (Addr × Addr)} {F H : Hp} {vs : List V} {xs : List D} (k : FOk K T dr F H) (rv : RpL K mg F vs [.lst xs]) : ∃ a ys, vs = [.ref a] ∧ SqL K H a ys ∧ RpL K mg F ys xs := by
  obtain ⟨v, rfl, r1⟩ := rv.one
  cases r1 with
  | lst h1 h2 => exact ⟨_, _, rfl, SqL.of (k.sub _ _ h1), h2⟩
theorem qe_all (hc : X.calm = true) (hg : Gl X "all") (hm : X.mg "all" = none) (ha : QA X T Z (a :: es) ta)
    (he : starEach (a :: es) X.env = (false, eval a X.env) :: starEach es X.env := by rfl) (hpl : (backTo pos (starEach es X.env)).any (·.1) = false := by rfl) : QE X T Z (.Call (.Name "all" p) (a :: es) [] pos) (dB gAll ta) :=
  qe_B (cr_all hc) (okB_at fun dr F H vs ds R k rv h => by
    unfold gAll at h
    split at h
    · split at h
      · rename_i bs hb
        obtain ⟨a, ys, rfl, hs, r2⟩ := lst_at k rv
        rw [r2.bls hb] at hs
        exact ⟨_, _, .bl _, h, fun Q q => ⟨_, _, rfl, hs, q⟩⟩
      · exact h.elim
    · exact h.elim) (by decide +kernel) hg hm ha (by decide) (by decide) he hpl
theorem qe_any (hc : X.calm = true) (hg : Gl X "any") (hm : X.mg "any" = none) (ha : QA X T Z (a :: es) ta)
    (he : starEach (a :: es) X.env = (false, eval a X.env) :: starEach es X.env := by rfl) (hpl : (backTo pos (starEach es X.env)).any (·.1) = false := by rfl) : QE X T Z (.Call (.Name "any" p) (a :: es) [] pos) (dB gAny ta) :=
  qe_B (cr_any hc) (okB_at fun dr F H vs ds R k rv h => by
    unfold gAny at h
    split at h
    · split at h
      · rename_i bs hb
        obtain ⟨a, ys, rfl, hs, r2⟩ := lst_at k rv
        rw [r2.bls hb] at hs
        exact ⟨_, _, .bl _, h, fun Q q => ⟨_, _, rfl, hs, q⟩⟩
      · exact h.elim
    · exact h.elim) (by decide +kernel) hg hm ha (by decide) (by decide) he hpl
theorem qe_sum (hc : X.calm = true) (hg : Gl X "sum") (hm : X.mg "sum" = none) (ha : QA X T Z (a :: es) ta)
    (he : starEach (a :: es) X.env = (false, eval a X.env) :: starEach es X.env := by rfl) (hpl : (backTo pos (starEach es X.env)).any (·.1) = false := by rfl) : QE X T Z (.Call (.Name "sum" p) (a :: es) [] pos) (dB gSum ta) :=
  qe_B (cr_sum hc) (okB_at fun dr F H vs ds R k rv h => by
    unfold gSum at h
    split at h
    · split at h
      · rename_i bs hb
        obtain ⟨a, ys, rfl, hs, r2⟩ := lst_at k rv
        rw [r2.ins hb] at hs
        exact ⟨_, _, .int _, h, fun Q q => ⟨_, _, rfl, hs, q⟩⟩
      · exact h.elim
    · exact h.elim) (by decide +kernel) hg hm ha (by decide) (by decide) he hpl
theorem qe_sortI (hg : Gl X "sorted") (hm : X.mg "sorted" = none) (ha : QA X T Z (a :: es) ta)
    (he : starEach (a :: es) X.env = (false, eval a X.env) :: starEach es X.env := by rfl) (hpl : (backTo pos (starEach es X.env)).any (·.1) = false := by rfl) : QE X T Z (.Call (.Name "sorted" p) (a :: es) [] pos) (dB gSortI ta) :=
  qe_B cr_sortedI (fun dr F H vs ds Q R k rv h hq => by
    unfold gSortI at h
    split at h
    · split at h
      · rename_i bs hb
        obtain ⟨a, ys, rfl, hs, r2⟩ := lst_at k rv
        rw [r2.ins hb] at hs
        refine ⟨_, _, rfl, hs, fun ns p hp hw hn => ?_⟩
        obtain ⟨g1, k1, r1⟩ := laid_lst (dr := dr) k hn (RpL.ofInts ns)
        exact hq _ _ _ _ g1 k1 r1 (h ns hp hw)
      · exact h.elim
    · exact h.elim) (by decide +kernel) hg hm ha (by decide) (by decide) he hpl
/-! ### repr -/
def ReprOk (d : D) : Prop := d.plain = true ∧ d.py.showable = true ∧ d.py.shown.length ≤ sizeLine ∧ d.py.depth ≤ 60
def gRepr : List D → (D → Prop) → Prop
  | [d], R => ReprOk d ∧ R (.str d.py.shown)
  | _, _ => False
def rRepr (K : PySem.W.Frag) : List V → Hp → VK → Prop := fun vs H Q => ∃ v d, vs = [v] ∧ Dp K H v d ∧ d.showable = true ∧ d.shown.length ≤ sizeLine ∧ d.depth ≤ 60 ∧ d.hasDict = false ∧ Q (.str d.shown) H
theorem call_repr (hgd : X.A.guards = some []) (hu : X.A.units + 64 < cLine) : CallR X (.builtin "repr") (rRepr X.K) := by
  intro pins s σ H xs us Q I rxs h
  obtain ⟨v, d, rfl, hd, hs, hz, hp, hnd, q⟩ := h
  obtain ⟨u, rfl, ru⟩ : ∃ u, us = [u] ∧ RelV v u := by
    cases rxs with
    | cons r1 r2 =>
      cases r2
      exact ⟨_, rfl, r1⟩
  obtain ⟨as, r⟩ := Dp.reads I d v u hd ru
  cases r with
  | none => exact P.repr_of_none ⟨.str _, H, I.tok _, ⟨_, rfl⟩, q⟩
  | bool b => exact P.repr_of_bool ⟨.str _, H, I.tok _, ⟨_, rfl⟩, q⟩
  | int i t => exact P.repr_of_int (by simpa [PyData.showable] using hs) ⟨.str _, H, I.tok _, ⟨_, rfl⟩, q⟩
  | str x t => exact P.repr_of_str ⟨.str _, H, I.tok _, ⟨_, rfl⟩, q⟩ (by simpa only [PyData.shown] using hz)
  | list h1 h2 h3 h4 => exact repr_of_reads' (.list h1 h2 h3 h4) hs (PyData.noDict_hsm hnd) hgd (by omega) (fun _ _ e => e) (fun h' u tk hk => ⟨.str _, H, I.kept hk, ⟨_, rfl⟩, q⟩) hz
  | tuple h1 h2 h3 h4 => exact repr_of_reads' (.tuple h1 h2 h3 h4) hs (PyData.noDict_hsm hnd) hgd (by omega) (fun _ _ e => e) (fun h' u tk hk => ⟨.str _, H, I.kept hk, ⟨_, rfl⟩, q⟩) hz
  | dict h1 h2 h3 h4 h5 => simp [PyData.hasDict] at hnd
mutual
theorem plain_noDict : ∀ (d : D), d.plain = true → d.py.hasDict = false
  | .non, _ => rfl
  | .bl _, _ => rfl
  | .int _, _ => rfl
  | .str _, _ => rfl
  | .lst xs, h => by
    show PyData.hasDictAll _ = false
    exact plainL_noDict xs h
  | .tup xs, h => by
    show PyData.hasDictAll _ = false
    exact plainL_noDict xs h
  | .dic _, h => by cases h
  | .exc _ _, h => by cases h
  | .fn _, h => by cases h
  | .scr _, h => by cases h
  | .ty _, h => by cases h
  | .lam _ _, h => by cases h
  | .clo _ _, h => by cases h
theorem plainL_noDict : ∀ (ds : List D), plainL ds = true → PyData.hasDictAll (pyL ds) = false
  | [], _ => rfl
  | d :: ds, h => by
    have h' : D.plain d = true ∧ plainL ds = true := by simpa [plainL] using h
    show (PyData.hasDict _ || PyData.hasDictAll _) = false
    rw [plain_noDict d h'.1, plainL_noDict ds h'.2] <;> rfl
end
theorem qe_repr (hgd : X.A.guards = some []) (hu : X.A.units + 64 < cLine) (hg : Gl X "repr") (hm : X.mg "repr" = none) (ha : QA X T Z (a :: es) ta)
    (he : starEach (a :: es) X.env = (false, eval a X.env) :: starEach es X.env := by rfl) (hpl : (backTo pos (starEach es X.env)).any (·.1) = false := by rfl) : QE X T Z (.Call (.Name "repr" p) (a :: es) [] pos) (dB gRepr ta) :=
  qe_B (call_repr hgd hu) (okB_at fun dr F H vs ds R k rv h => by
    unfold gRepr at h
    split at h
    · obtain ⟨v, rfl, r1⟩ := rv.one
      exact ⟨_, _, .str _, h.2, fun Q q => ⟨_, _, rfl, r1.dp k.sub h.1.1, h.1.2.1, h.1.2.2.1, h.1.2.2.2, plain_noDict _ h.1.1, q⟩⟩
    · exact h.elim) (by decide +kernel) hg hm ha (by decide) (by decide) he hpl
end
end DL
set_option Elab.async false
set_option linter.all false
set_option maxRecDepth 100000
set_option maxHeartbeats 2000000
namespace DL
open PySem PySem.Spec PyProof.Rows L2
/-! ### objects known for the time of a call -/
def putL (l : List Addr) (G H : Hp) : Hp := fun b => if b ∈ l then G b else H b
section
variable {l : List Addr} {G H H' F : Hp} {b : Addr} {P : Program} {w : World} {h h' : Heap} {fs : List Addr}
theorem putL_in (m : b ∈ l) : putL l G H b = G b := if_pos m
theorem putL_out (m : b ∉ l) : putL l G H b = H b := if_neg m
theorem cutL_in (m : b ∈ l) : cutL l H b = none := if_pos m
theorem cutL_out (m : b ∉ l) : cutL l H b = H b := if_neg m
def Pin (l : List Addr) (H : Hp) : Prop := ∀ b ∈ l, ∃ o, H b = some (.frz o (.own b))
structure Trk (l : List Addr) (G H : Hp) (h : Heap) : Prop where
  no : ∀ b ∈ l, H b = none
  at_ : ∀ b ∈ l, ∃ o, G b = some (.frz o (.own b)) ∧ h.get? b = some o
theorem Trk.pin (t : Trk l G H h) : Pin l (putL l G H) := fun b m => by
  obtain ⟨o, h1, _⟩ := t.at_ b m
  exact ⟨o, (putL_in m).trans h1⟩
theorem Trk.out (t : Trk l G H h) {o : HO} (e : H b = some o) : b ∉ l := fun m => by
  rw [t.no b m] at e
  cases e
theorem Trk.hok (t : Trk l G H h) (k : HOk P w H h) : HOk P w (putL l G H) h := fun a o e => by
  by_cases m : a ∈ l
  · obtain ⟨ob, h1, h2⟩ := t.at_ a m
    rw [putL_in m, h1] at e
    cases e
    exact ⟨h2, ob, h2⟩
  · rw [putL_out m] at e
    exact (k a o e).stay (fun _ _ _ q => q) (fun c q => (putL_out (t.out q)).trans q) fun c xs q => (putL_out (t.out q)).trans q
theorem Pin.out (p : Pin l H) {o : HO} (e : H b = some o) (n : ∀ ob, o ≠ .frz ob (.own b)) : b ∉ l := fun m => by
  obtain ⟨ob, h1⟩ := p b m
  rw [h1] at e
  cases e
  exact n ob rfl
theorem Pin.cut (p : Pin l H) (k : HOk P w H h) : HOk P w (cutL l H) h := fun a o e => by
  by_cases m : a ∈ l
  · rw [cutL_in m] at e
    cases e
  · rw [cutL_out m] at e
    exact (k a o e).stay (fun _ _ _ q => q) (fun c q => (cutL_out (p.out q fun _ z => nomatch z)).trans q) fun c xs q => (cutL_out (p.out q fun _ z => nomatch z)).trans q
theorem pin_un (t : Trk l G H h) (f : ∀ b o u, putL l G H b = some (.frz o u) → H' b = some (.frz o u)) : Pin l H' := fun b m => by
  obtain ⟨o, h1⟩ := t.pin b m
  exact ⟨o, f _ _ _ h1⟩
/-- behind the call: they are forgotten -/
theorem un_put_cut (t : Trk l G H h) (u : Un fs [] (putL l G H) H' h h') (k : HOk P w H' h') (nf : ∀ b ∈ l, b ∉ fs) : Un fs [] H (cutL l H') h h' ∧ HOk P w (cutL l H') h' := by
  have pin : Pin l H' := pin_un t u.frzs
  refine ⟨⟨fun b o e n hb hx => ?_, fun b o e n hb hx => ?_, fun b o e n hx => ?_, u.there, fun b xs e => ?_, fun b o x e => ?_, fun b ps e => ?_⟩, pin.cut k⟩
  · by_cases m : b ∈ l
    · obtain ⟨ob, h1, h2⟩ := t.at_ b m
      rw [h2] at e
      cases e
      have z := k b _ (u.frzs _ _ _ ((putL_in m).trans h1))
      exact z.1
    · exact u.keep b o e ((putL_out m).trans n) hb hx
  · have m : b ∉ l := fun m => nf b m hb
    exact u.slot b o e ((putL_out m).trans n) hb hx
  · by_cases m : b ∈ l
    · exact cutL_in m
    · rw [cutL_out m]
      exact u.free b o e ((putL_out m).trans n) hx
  · have m := t.out e
    rw [cutL_out m]
    exact u.tups b xs ((putL_out m).trans e)
  · have m := t.out e
    rw [cutL_out m]
    exact u.frzs b o x ((putL_out m).trans e)
  · have m := t.out e
    rw [cutL_out m]
    exact u.tbls b ps ((putL_out m).trans e)
theorem ub_put_cut {B : Heap} (t : Trk l G H h) (u : UB fs (putL l G H) H' h B h') (k : HOk P w H' B) (nf : ∀ b ∈ l, b ∉ fs) : UB fs H (cutL l H') h B h' ∧ HOk P w (cutL l H') B := by
  have pin : Pin l H' := pin_un t u.frzs
  refine ⟨⟨fun b o e n hb => ?_, u.slot, fun b o e n => ?_, u.there, fun b xs e => ?_, fun b o x e => ?_, fun b ps e => ?_⟩, pin.cut k⟩
  · by_cases m : b ∈ l
    · obtain ⟨ob, h1, h2⟩ := t.at_ b m
      rw [h2] at e
      cases e
      exact (k b _ (u.frzs _ _ _ ((putL_in m).trans h1))).1
    · exact u.keep b o e ((putL_out m).trans n) hb
  · by_cases m : b ∈ l
    · exact cutL_in m
    · rw [cutL_out m]
      exact u.free b o e ((putL_out m).trans n)
  · have m := t.out e
    rw [cutL_out m]
    exact u.tups b xs ((putL_out m).trans e)
  · have m := t.out e
    rw [cutL_out m]
    exact u.frzs b o x ((putL_out m).trans e)
  · have m := t.out e
    rw [cutL_out m]
    exact u.tbls b ps ((putL_out m).trans e)
/-- the other way: unknown for the time of a call, known again behind it -/
theorem Pin.cno (p : Pin l H) : ∀ b ∈ l, cutL l H b = none := fun b m => cutL_in m
theorem cut_back (p : Pin l H) (k0 : HOk P w H h) (free : ∀ b o, h.get? b = some o → cutL l H b = none → H' b = none) (keep : ∀ b o, b ∈ l → h.get? b = some o → h'.get? b = some o) (k : HOk P w H' h') : HOk P w (putL l H H') h' := fun a o e => by
  have fr : ∀ b, b ∈ l → H' b = none := fun b m => by
    obtain ⟨ob, h1⟩ := p b m
    exact free b ob (k0 b _ h1).1 (cutL_in m)
  have no : ∀ {c : Addr} {u : HO}, H' c = some u → c ∉ l := fun {c u} q m => by
    rw [fr c m] at q
    cases q
  by_cases m : a ∈ l
  · rw [putL_in m] at e
    obtain ⟨ob, h1⟩ := p a m
    rw [h1] at e
    cases e
    have z := keep a ob m (k0 a _ h1).1
    exact ⟨z, ob, z⟩
  · rw [putL_out m] at e
    exact (k a o e).stay (fun _ _ _ q => q) (fun c q => (putL_out (no q)).trans q) fun c xs q => (putL_out (no q)).trans q
theorem un_cut_put (p : Pin l H) (k0 : HOk P w H h) (nf : ∀ b ∈ l, b ∉ fs) (u : Un fs [] (cutL l H) H' h h') (k : HOk P w H' h') : Un fs [] H (putL l H H') h h' ∧ HOk P w (putL l H H') h' := by
  have nol : ∀ {b : Addr}, H b = none → b ∉ l := fun {b} n m => by
    obtain ⟨o, h1⟩ := p b m
    rw [n] at h1
    cases h1
  refine ⟨⟨fun b o e n hb hx => u.keep b o e ((cutL_out (nol n)).trans n) hb hx, fun b o e n hb hx => u.slot b o e ((cutL_out (nol n)).trans n) hb hx, fun b o e n hx => ?_, u.there, fun b xs e => ?_, fun b o x e => ?_, fun b ps e => ?_⟩,
    cut_back p k0 (fun b o e n => u.free b o e n (by simp)) (fun b o m e => u.keep b o e (cutL_in m) (nf b m) (by simp)) k⟩
  · rw [putL_out (nol n)]
    exact u.free b o e ((cutL_out (nol n)).trans n) hx
  · have m : b ∉ l := p.out e fun _ z => nomatch z
    rw [putL_out m]
    exact u.tups b xs ((cutL_out m).trans e)
  · by_cases m : b ∈ l
    · exact (putL_in m).trans e
    · rw [putL_out m]
      exact u.frzs b o x ((cutL_out m).trans e)
  · have m : b ∉ l := p.out e fun _ z => nomatch z
    rw [putL_out m]
    exact u.tbls b ps ((cutL_out m).trans e)
theorem ub_cut_put {B : Heap} (p : Pin l H) (k0 : HOk P w H h) (nf : ∀ b ∈ l, b ∉ fs) (u : UB fs (cutL l H) H' h B h') (k : HOk P w H' B) : UB fs H (putL l H H') h B h' ∧ HOk P w (putL l H H') B := by
  have nol : ∀ {b : Addr}, H b = none → b ∉ l := fun {b} n m => by
    obtain ⟨o, h1⟩ := p b m
    rw [n] at h1
    cases h1
  refine ⟨⟨fun b o e n hb => u.keep b o e ((cutL_out (nol n)).trans n) hb, u.slot, fun b o e n => ?_, u.there, fun b xs e => ?_, fun b o x e => ?_, fun b ps e => ?_⟩,
    cut_back p k0 u.free (fun b o m e => u.keep b o e (cutL_in m) (nf b m)) k⟩
  · rw [putL_out (nol n)]
    exact u.free b o e ((cutL_out (nol n)).trans n)
  · have m : b ∉ l := p.out e fun _ z => nomatch z
    rw [putL_out m]
    exact u.tups b xs ((cutL_out m).trans e)
  · by_cases m : b ∈ l
    · exact (putL_in m).trans e
    · rw [putL_out m]
      exact u.frzs b o x ((cutL_out m).trans e)
  · have m : b ∉ l := p.out e fun _ z => nomatch z
    rw [putL_out m]
    exact u.tbls b ps ((cutL_out m).trans e)
end
section
variable {l : List Addr} {G H : Hp} {P : Program} {w : World} {K : PySem.W.Frag} {mg : Mg} {base : Heap} {A : Around} {outer : List Env} {s : Shared}
theorem Trk.env0 (t : Trk l G H s.heap) (e : Env0 P w K mg base A outer s H) (n1 : ∀ b ∈ l, b ∉ frs outer) (n2 : ∀ b ∈ l, base.get? b = none) : Env0 P w K mg base A outer s (putL l G H) :=
  ⟨e.frames, e.mod, fun b o q => ⟨(e.bs b o q).1, by
    have m : b ∉ l := fun m => by
      rw [n2 b m] at q
      cases q
    rw [putL_out m]
    exact (e.bs b o q).2⟩, e.bsz, e.funs, fun b hb => by
    rw [putL_out fun m => n1 b m hb]
    exact e.frf b hb, t.hok e.hok, e.bare⟩
theorem Pin.env0 (p : Pin l H) (e : Env0 P w K mg base A outer s H) : Env0 P w K mg base A outer s (cutL l H) :=
  ⟨e.frames, e.mod, fun b o q => ⟨(e.bs b o q).1, by
    by_cases m : b ∈ l
    · exact cutL_in m
    · rw [cutL_out m]
      exact (e.bs b o q).2⟩, e.bsz, e.funs, fun b hb => by
    by_cases m : b ∈ l
    · exact cutL_in m
    · rw [cutL_out m]
      exact e.frf b hb, p.cut e.hok, e.bare⟩
/-- a call's end, the objects forgotten -/
theorem cr_put_cut {Q Q' : VK} {E E' : XK} {r : Result} {s' : Shared} (t : Trk l G H s.heap) (nf : ∀ b ∈ l, b ∉ frs outer) (hQ : ∀ v H', Pin l H' → Q v H' → Q' v (cutL l H')) (hE : ∀ cls d H', Pin l H' → E cls d H' → E' cls d (cutL l H'))
    (h : CR (L2.CX P w) outer P w (putL l G H) s Q E r s') : CR (L2.CX P w) outer P w H s Q' E' r s' := by
  cases r with
  | ok f =>
    cases f with
    | ret u =>
      obtain ⟨v, H', os, bare, un, hok, rv, q⟩ := h
      obtain ⟨a, b⟩ := un_put_cut t un hok nf
      exact ⟨v, _, os, bare, a, b, rv, hQ v H' (pin_un t un.frzs) q⟩
    | next => exact h
    | brk => exact h
    | cont => exact h
  | error e =>
    obtain ⟨a, B, H', cls, d, eu, fl, hok, ub, na, os, ag, hx⟩ := h
    obtain ⟨u1, u2⟩ := ub_put_cut t ub hok nf
    refine ⟨a, B, _, cls, d, eu, fl, u2, u1, ?_, os, ag, hE cls d H' (pin_un t ub.frzs) hx⟩
    by_cases m : a ∈ l
    · exact cutL_in m
    · rw [cutL_out m]
      exact na
theorem cr_cut_put {Q Q' : VK} {E E' : XK} {r : Result} {s' : Shared} (p : Pin l H) (k0 : HOk P w H s.heap) (nf : ∀ b ∈ l, b ∉ frs outer) (hQ : ∀ v H', (∀ b ∈ l, H' b = none) → Q v H' → Q' v (putL l H H')) (hE : ∀ cls d H', (∀ b ∈ l, H' b = none) → E cls d H' → E' cls d (putL l H H'))
    (h : CR (L2.CX P w) outer P w (cutL l H) s Q E r s') : CR (L2.CX P w) outer P w H s Q' E' r s' := by
  have fr : ∀ {H' : Hp}, (∀ b o, s.heap.get? b = some o → cutL l H b = none → H' b = none) → ∀ b ∈ l, H' b = none := fun f b m => by
    obtain ⟨o, h1⟩ := p b m
    exact f b o (k0 b _ h1).1 (cutL_in m)
  cases r with
  | ok f =>
    cases f with
    | ret u =>
      obtain ⟨v, H', os, bare, un, hok, rv, q⟩ := h
      obtain ⟨a, b⟩ := un_cut_put p k0 nf un hok
      exact ⟨v, _, os, bare, a, b, rv, hQ v H' (fr fun b o e n => un.free b o e n (by simp)) q⟩
    | next => exact h
    | brk => exact h
    | cont => exact h
  | error e =>
    obtain ⟨a, B, H', cls, d, eu, fl, hok, ub, na, os, ag, hx⟩ := h
    obtain ⟨u1, u2⟩ := ub_cut_put p k0 nf ub hok
    refine ⟨a, B, _, cls, d, eu, fl, u2, u1, ?_, os, ag, hE cls d H' (fr ub.free) hx⟩
    by_cases m : a ∈ l
    · have z := fl.2.1
      obtain ⟨ob, h1⟩ := p a m
      have y := (u2 a _ ((putL_in m).trans h1)).1
      rw [z] at y
      cases y
    · rw [putL_out m]
      exact na
end
end DL
set_option Elab.async false
set_option linter.all false
set_option maxRecDepth 100000
set_option maxHeartbeats 2000000
namespace DL
open PySem PySem.Spec PyProof.Rows L2
/-! ### what outlives the objects that are forgotten -/
mutual
def D.plainZ : D → Bool
  | .non => true
  | .bl _ => true
  | .int _ => true
  | .str _ => true
  | .lst xs => plainZL xs
  | .tup xs => plainZL xs
  | .dic [] => true
  | _ => false
def plainZL : List D → Bool
  | [] => true
  | x :: xs => D.plainZ x && plainZL xs
end
def D.plainX : D → Bool
  | .exc _ none => true
  | .exc _ (some (_, d)) => d.plain
  | .fn _ => true
  | .dic [] => true
  | d => d.plain || d.plainZ
def Er.pl (e : Er) : Bool := match e.fld with
  | none => true
  | some (_, d) => d.plain
section
variable {l : List Addr} {K : PySem.W.Frag} {mg : Mg} {F H : Hp} {T : List (Addr × Str)} {dr : Option (Addr × Addr)}
theorem Pin.sqt (p : Pin l F) {a : Addr} {xs : List V} (h : SqT K F a xs) : SqT K (cutL l F) a xs := by
  rcases h with (h | ⟨o, h⟩) | h
  · exact .inl (.inl ((cutL_out (p.out h fun _ z => nomatch z)).trans h))
  · exact .inl (.inr ⟨o, (cutL_out (p.out h fun _ z => nomatch z)).trans h⟩)
  · exact .inr h
mutual
theorem Rp.cut (p : Pin l F) : ∀ {v : V} {d : D}, Rp K mg F v d → D.plain d = true → Rp K mg (cutL l F) v d
  | _, _, .non, _ => .non
  | _, _, .bl b, _ => .bl b
  | _, _, .int i, _ => .int i
  | _, _, .str x, _ => .str x
  | _, _, .lst h1 h2, q => .lst ((cutL_out (p.out h1 fun _ z => nomatch z)).trans h1) (RpL.cutP p h2 q)
  | _, _, .tup h1 h2, q => .tup (p.sqt h1) (RpL.cutP p h2 q)
  | _, _, .dic h1 h2, q => by cases q
  | _, _, .exc0 h1 h2, q => by cases q
  | _, _, .exc h1 h2 h3 h4, q => by cases q
  | _, _, .fn h1, q => by cases q
  | _, _, .scr h1 h2, q => by cases q
  | _, _, .ty n, q => by cases q
  | _, _, .lam _ _ _ _ _, q => by cases q
  | _, _, .clo _ _, q => by cases q
theorem RpL.cutP (p : Pin l F) : ∀ {v : List V} {d : List D}, RpL K mg F v d → plainL d = true → RpL K mg (cutL l F) v d
  | _, _, .nil, _ => .nil
  | _, _, .cons h1 h2, q => by
    obtain ⟨p1, p2⟩ := Bool.and_eq_true_iff.mp q
    exact .cons (Rp.cut p h1 p1) (RpL.cutP p h2 p2)
end
mutual
theorem Rp.cutZ (p : Pin l F) : ∀ {v : V} {d : D}, Rp K mg F v d → D.plainZ d = true → Rp K mg (cutL l F) v d
  | _, _, .non, _ => .non
  | _, _, .bl b, _ => .bl b
  | _, _, .int i, _ => .int i
  | _, _, .str x, _ => .str x
  | _, _, .lst h1 h2, q => .lst ((cutL_out (p.out h1 fun _ z => nomatch z)).trans h1) (RpL.cutZ p h2 q)
  | _, _, .tup h1 h2, q => .tup (p.sqt h1) (RpL.cutZ p h2 q)
  | _, _, .dic h1 .nil, q => .dic ((cutL_out (p.out h1 fun _ z => nomatch z)).trans h1) .nil
  | _, _, .dic _ (.cons ..), q => by cases q
  | _, _, .exc0 h1 h2, q => by cases q
  | _, _, .exc h1 h2 h3 h4, q => by cases q
  | _, _, .fn h1, q => by cases q
  | _, _, .scr h1 h2, q => by cases q
  | _, _, .ty n, q => by cases q
  | _, _, .lam _ _ _ _ _, q => by cases q
  | _, _, .clo _ _, q => by cases q
theorem RpL.cutZ (p : Pin l F) : ∀ {v : List V} {d : List D}, RpL K mg F v d → plainZL d = true → RpL K mg (cutL l F) v d
  | _, _, .nil, _ => .nil
  | _, _, .cons h1 h2, q => by
    obtain ⟨p1, p2⟩ := Bool.and_eq_true_iff.mp q
    exact .cons (Rp.cutZ p h1 p1) (RpL.cutZ p h2 p2)
end
theorem Rp.cutX (p : Pin l F) {v : V} {d : D} (h : Rp K mg F v d) (q : d.plainX = true) : Rp K mg (cutL l F) v d := by
  cases h with
  | exc0 h1 h2 => exact .exc0 h1 ((cutL_out (p.out h2 fun _ z => nomatch z)).trans h2)
  | exc h1 h2 h3 h4 => exact .exc h1 ((cutL_out (p.out h2 fun _ z => nomatch z)).trans h2) ((cutL_out (p.out h3 fun _ z => nomatch z)).trans h3) (h4.cut p q)
  | non => exact .non
  | bl b => exact .bl b
  | int i => exact .int i
  | str i => exact .str i
  | lst h1 h2 =>
    rcases (Bool.or_eq_true _ _).mp q with q | q
    · exact Rp.cut p (.lst h1 h2) q
    · exact Rp.cutZ p (.lst h1 h2) q
  | tup h1 h2 =>
    rcases (Bool.or_eq_true _ _).mp q with q | q
    · exact Rp.cut p (.tup h1 h2) q
    · exact Rp.cutZ p (.tup h1 h2) q
  | fn h1 => exact .fn h1
  | dic h1 h2 =>
    cases h2 with
    | nil => exact .dic ((cutL_out (p.out h1 fun _ z => nomatch z)).trans h1) .nil
    | cons _ _ => cases q
  | _ => cases q
theorem RpL.cutX (p : Pin l F) : ∀ {vs : List V} {cs : List D}, RpL K mg F vs cs → (∀ c ∈ cs, D.plainX c = true) → RpL K mg (cutL l F) vs cs
  | _, _, .nil, _ => .nil
  | _, _, .cons h1 h2, q => .cons (h1.cutX p (q _ List.mem_cons_self)) (RpL.cutX p h2 fun c m => q c (List.mem_cons_of_mem _ m))
theorem ErAt.cut (p : Pin l F) {cls : Value} {dd : Option Addr} {e : Er} (h : ErAt K mg F cls dd e) (q : e.pl = true) : ErAt K mg (cutL l F) cls dd e := by
  obtain ⟨C, h1, h2, h3⟩ := h
  refine ⟨C, h1, h2, ?_⟩
  obtain ⟨c, f⟩ := e
  cases f with
  | none => exact h3
  | some f =>
    obtain ⟨a, v, e1, e2, e3⟩ := h3
    exact ⟨a, v, e1, (cutL_out (p.out e2 fun _ z => nomatch z)).trans e2, e3.cut p q⟩
theorem ErAt.mono {F' : Hp} (x : Fx F F') {cls : Value} {dd : Option Addr} {e : Er} (h : ErAt K mg F cls dd e) : ErAt K mg F' cls dd e := by
  obtain ⟨C, h1, h2, h3⟩ := h
  refine ⟨C, h1, h2, ?_⟩
  obtain ⟨c, f⟩ := e
  cases f with
  | none => exact h3
  | some f =>
    obtain ⟨a, v, e1, e2, e3⟩ := h3
    exact ⟨a, v, e1, x _ _ e2, e3.mono x⟩
theorem Pin.tabs (p : Pin l H) (t : LamX.Tabs T H) : LamX.Tabs T (cutL l H) := fun q hq => by
  obtain ⟨ps, h1, h2, h3⟩ := t q hq
  refine ⟨ps, (cutL_out (p.out h1 fun _ z => nomatch z)).trans h1, h2, fun pos cv hc => ?_⟩
  obtain ⟨c, e1, e2⟩ := h3 pos cv hc
  exact ⟨c, e1, (cutL_out (p.out e2 fun _ z => nomatch z)).trans e2⟩
theorem Pin.fok (pF : Pin l F) (pH : Pin l H) (k : FOk K T dr F H) : FOk K T dr (cutL l F) (cutL l H) :=
  ⟨fun b o e => by
    by_cases m : b ∈ l
    · rw [cutL_in m] at e
      cases e
    · rw [cutL_out m] at e ⊢
      exact k.sub b o e, fun b m => by
    by_cases m2 : b ∈ l
    · exact cutL_in m2
    · rw [cutL_out m2]
      exact k.ntb b m, pH.tabs k.tabs, fun a l' e => by
    obtain ⟨⟨c, r, t, big, cells, h1, h2, h3, h4⟩, ne⟩ := k.drw a l' e
    exact ⟨⟨c, r, t, big, cells, (cutL_out (pH.out h1 fun _ z => nomatch z)).trans h1, (cutL_out (pH.out h2 fun _ z => nomatch z)).trans h2, (cutL_out (pF.out h3 fun _ z => nomatch z)).trans h3, h4⟩, ne⟩, fun b ps e => by
    by_cases m : b ∈ l
    · rw [cutL_in m] at e
      cases e
    · rw [cutL_out m] at e
      exact k.tbT b ps e⟩
end
/-! ### the promise of a lambda's text -/
abbrev LPt := List D → (D → Prop) → (Er → Prop) → Prop
def SpL (K : PySem.W.Frag) (mg : Mg) (T : List (Addr × Str)) (pt : LPt) (vs : List V) (H : Hp) (Q : VK) (E : XK) : Prop := ∃ (F : Hp) (dr : Option (Addr × Addr)) (cs : List D) (R : D → Prop) (er : Er → Prop), FOk K T dr F H ∧ RpL K mg F vs cs ∧ pt cs R er ∧
  (∀ v H' F' d, Grw T dr F H F' H' → FOk K T dr F' H' → Rp K mg F' v d → R d → Q v H') ∧ (∀ cls dd H' F' e, Grw T dr F H F' H' → FOk K T dr F' H' → ErAt K mg F' cls dd e → er e → E cls dd H')
structure LamSt (L : LamSite) : Prop where
  kind : L.scope.kind = .function
  co : L.scope.isCoroutine = false
  gen : L.scope.isGenerator = false
  own : ∀ y ∈ L.scope.names, y.2 ≠ .local ∧ y.2 ≠ .cell
  ns : ∀ n ∈ L.ns, L.scope.names.lookup n = some .free
  bind : ∀ (cl : List (Str × Addr)) (pm cv ctv : Value), bindArgs (PySem.W.kla_fn "<lambda>" L.q L.params L.body L.scope cl pm cv ctv) ⟨[], []⟩ = pure []
def lamStB (L : LamSite) : Bool := decide (L.scope.kind = .function) && (!L.scope.isCoroutine && (!L.scope.isGenerator && ((L.scope.names.all fun y => !decide (y.2 = .local) && !decide (y.2 = .cell)) && L.ns.all fun n => decide (L.scope.names.lookup n = some .free))))
theorem lamSt_by {L : LamSite} (h : lamStB L = true) (hb : ∀ (cl : List (Str × Addr)) (pm cv ctv : Value), bindArgs (PySem.W.kla_fn "<lambda>" L.q L.params L.body L.scope cl pm cv ctv) ⟨[], []⟩ = pure []) : LamSt L := by
  unfold lamStB at h
  simp only [Bool.and_eq_true, Bool.not_eq_true', decide_eq_true_eq, decide_eq_false_iff_not, List.all_eq_true] at h
  obtain ⟨h1, h2, h3, h4, h5⟩ := h
  exact ⟨h1, h2, h3, h4, h5, hb⟩
abbrev lamE (L : LamSite) (Lc f c' : Addr) (cl : List (Str × Addr)) : Env := PySem.W.envX L.q L.scope Lc f (.ref c') cl
def lamC (P : Program) (w : World) (K : PySem.W.Frag) (mg : Mg) (base : Heap) (L : LamSite) (A : Around) (outer : List Env) (s : Shared) (H : Hp) (E : XK) (f c' : Addr) (cl : List (Str × Addr)) : Cx :=
  { prog := P, w := w, K := K, mg := mg, base := base, A := A.deeper (lamE L s.heap.objs.size f c' cl), N := L.ns, s_0 := s, H_0 := H, env := lamE L s.heap.objs.size f c' cl, outer := outer, stack := lamE L s.heap.objs.size f c' cl :: outer, ex := [], fn := fun _ => false, calm := true, pn := [],
    xe := fun e s' => wpAny (model P w) (A.deeper (lamE L s.heap.objs.size f c' cl)) (leaving (lamE L s.heap.objs.size f c' cl) e) (fun _ s'' => L2.CX P w outer H s E e s'') (fun e' s'' => L2.CX P w outer H s E e' s'') s' }
section
variable {P : Program} {w : World} {K : PySem.W.Frag} {mg : Mg} {base : Heap} {A : Around} {outer : List Env} {s : Shared} {H : Hp} {E : XK} {Q : VK} {L : LamSite} {f c' : Addr} {cl : List (Str × Addr)} {pm ctv : Value} {vs : List V} {k : Nat} {T : List (Addr × Str)}
/-- the closure at a call -/
structure CloH (h : Heap) (H : Hp) (L : LamSite) (cl : List (Str × Addr)) (vs : List V) : Prop where
  no : ∀ y c, cl.lookup y = some c → H c = none ∧ ∃ v, h.IsCell c v
  inj : ∀ x y c, cl.lookup x = some c → cl.lookup y = some c → x = y
  has : ∀ y, L.scope.names.lookup y = some .free → ∃ c, cl.lookup y = some c
  at_ : ∀ (j : Nat) (n : Str) (v : V), L.ns[j]? = some n → vs[j]? = some v → ∃ (c : Addr) (u : Value), cl.lookup n = some c ∧ h.IsCell c (some u) ∧ RelV v u
  len : vs.length = L.ns.length
theorem lam_inv (S : LamSt L) (hd : A.handled = none) (e0 : Env0 P w K mg base A outer s H) (C : CloH s.heap H L cl vs) {h₁ : Heap} {tk : Nat} (hns : h₁.Ns s.heap.objs.size fun y => ([] : List (Str × Value)).reverse.lookup y) (kp : ∀ b o, s.heap.get? b = some o → h₁.get? b = some o) :
    Inv (lamC P w K mg base L A outer s H E f c' cl) [] (vs.map some) H { s with heap := h₁, toks := tk } where
  ok := ⟨e0.mod, S.kind, rfl, rfl, Nat.le_refl _, C.inj, fun y hy => by
      have hy : L.scope.names.lookup y = some .cell ∨ L.scope.names.lookup y = some .free := hy
      rcases hy with hy | hy
      · exact absurd rfl (S.own _ (PySem.mem_of_lookup hy)).2
      · exact C.has y hy, fun y c z => absurd (show false = true from z) Bool.false_ne_true, fun _ => hd, Around.frames_deeper e0.frames, .inr ⟨rfl, rfl⟩, fun b z => (nomatch (show b ∈ ([] : List Addr) from z)), e0.bs, e0.bsz, fun b _ _ z => (nomatch (show b ∈ ([] : List Addr) from z)),
    fun b z => (nomatch (show b ∈ ([] : List Addr) from z)), e0.funs, e0.frf⟩
  os := rfl
  bare := e0.bare
  base := Un.kept kp
  loc := ⟨_, hns, fun i y v h1 h2 h3 => by
    have h1 : L.ns[i]? = some y := h1
    rw [List.getElem?_map] at h2
    have h2 : vs[i]? = some v := by
      cases q : vs[i]? with
      | none => rw [q] at h2; cases h2
      | some u => rw [q] at h2; cases h2; rfl
    obtain ⟨c, u, a1, ⟨o, a2, a3⟩, a4⟩ := C.at_ i y v h1 h2
    exact ⟨u, a4, .inr ⟨.inr (S.ns y (List.mem_of_getElem? h1)), c, a1, o, kp _ _ a2, a3⟩⟩⟩
  cell := fun y c e => by
    obtain ⟨v, o, a1, a2⟩ := (C.no y c e).2
    exact ⟨v, o, kp _ _ a1, a2⟩
  free := e0.hok.fresh (Nat.le_refl _)
  freeC := fun y c e => (C.no y c e).1
  pin := fun q hq => nomatch (show q ∈ ([] : List (Addr × Obj)) ++ [] from hq)
  hok := e0.hok.kept kp
  len := (List.length_map ..).trans C.len
theorem lam_run (S : LamSt L) (hr : Room (k + 1) A) (e0 : Env0 P w K mg base A outer s H) (C : CloH s.heap H L cl vs) (hf : s.heap.get? f = some (PySem.W.kla_obj "<lambda>" L.q L.params L.body L.scope cl pm c' ctv)) (hc : s.heap.CodeRec (.ref c') L.q)
    (hb : Room k (A.deeper (lamE L s.heap.objs.size f c' cl)) → ∃ t, PE (lamC P w K mg base L A outer s H E f c' cl) L.body t ∧ t (vs.map some) H Q) : codeAny (model P w) A (.call (.ref f) ⟨[], []⟩) (CR (L2.CX P w) outer P w H s Q E) s := by
  have lim : s.heap.NoLimit := e0.mod.nolimit.keeps fun b o e => (e0.bs b o e).1
  refine PySem.W.kla_callFunE hr.depth hf rfl S.co S.gen rfl hc ?_
  rw [S.bind]
  refine wpAny_pure (wpAny_newFunctionEnv (fun y hy => (S.own y hy).2) (fun y hy => nomatch hy) (fun h₁ hns hsb => ⟨lim.fresh _ hsb, ?_⟩) S.kind)
  show codeAny _ _ (.expr L.body (lamE L s.heap.objs.size f c' cl)) _ _
  have kp : ∀ b o, s.heap.get? b = some o → h₁.get? b = some o := fun b o e => hsb.extBut b o (Nat.ne_of_lt (Heap.lt_size e)) (Heap.get?_push_of_some _ e)
  obtain ⟨t, ht, hq⟩ := hb (hr.deeper _)
  have J := lam_inv (E := E) (f := f) (c' := c') (tk := s.toks + ([] : List (Str × Value)).length) S hr.hd e0 C hns kp
  refine PySem.W.kla_codeExpr (wpAny_mono (ht.run [] _ _ H Q J hq) (fun v s' hv => ?_) fun e s' hv => hv)
  obtain ⟨u, H', J', rv, q⟩ := hv
  exact ⟨u, H', J'.os, J'.bare, J'.base, J'.hok, rv, q⟩
theorem rep_lam {dr : Option (Addr × Addr)} {F : Hp} {cs : List D} (k : FOk K T dr F H) (r : RpL K mg F vs cs) : Rep K mg T ⟨dr, F, H⟩ (cs.map fun d => some (.d d)) F (vs.map some) H where
  len := by rw [List.length_map, List.length_map, r.length]
  ok := k
  gr := Grw.refl
  dat := fun i d e => by
    rw [List.getElem?_map] at e
    cases q : cs[i]? with
    | none => rw [q] at e; cases e
    | some x =>
      rw [q] at e
      cases e
      obtain ⟨v, h1, h2⟩ := r.get q
      exact ⟨v, by rw [List.getElem?_map, h1] <;> rfl, h2⟩
  drs := fun i e => by
    rw [List.getElem?_map] at e
    cases q : cs[i]? with
    | none => rw [q] at e; cases e
    | some x => rw [q] at e; cases e
  own := fun i c e => by
    rw [List.getElem?_map] at e
    cases q : cs[i]? with
    | none => rw [q] at e; cases e
    | some x => rw [q] at e; cases e
  lam := fun i L cs' e => by
    rw [List.getElem?_map] at e
    cases q : cs[i]? with
    | none => rw [q] at e; cases e
    | some x => rw [q] at e; cases e
  dis := fun i j c c'' p e => by
    rw [List.getElem?_map] at e
    cases q : cs[i]? with
    | none => rw [q] at e; cases e
    | some x => rw [q] at e; cases e
structure LamOk (P : Program) (w : World) (K : PySem.W.Frag) (mg : Mg) (base : Heap) (T : List (Addr × Str)) (k : Nat) (L : LamSite) (pt : LPt) : Prop where
  run : ∀ (A : Around) (outer : List Env) (s : Shared) (H : Hp) (f c' : Addr) (cl : List (Str × Addr)) (pm ctv : Value) (vs : List V) (Q : VK) (E : XK), Room k A → Env0 P w K mg base A outer s H → CloH s.heap H L cl vs →
    s.heap.get? f = some (PySem.W.kla_obj "<lambda>" L.q L.params L.body L.scope cl pm c' ctv) → s.heap.CodeRec (.ref c') L.q → SpL K mg T pt vs H Q E → codeAny (model P w) A (.call (.ref f) ⟨[], []⟩) (CR (L2.CX P w) outer P w H s Q E) s
theorem lam_ok {pt : LPt} {te : DTE} (S : LamSt L) (hb : ∀ (A : Around) (outer : List Env) (s : Shared) (H : Hp) (E : XK) (f c' : Addr) (cl : List (Str × Addr)) (Z : Zx), Room k (A.deeper (lamE L s.heap.objs.size f c' cl)) → QE (lamC P w K mg base L A outer s H E f c' cl) T Z L.body te)
    (hp : ∀ cs R er, pt cs R er → te (cs.map fun d => some (.d d)) (fun d _ => R d) er) : LamOk P w K mg base T (k + 1) L pt :=
  ⟨fun A outer s H f c' cl pm ctv vs Q E hr e0 C hf hc ⟨F, dr, cs, R, er, kk, r, h, hq, he⟩ => lam_run S hr e0 C hf hc fun hr' => ⟨_, hb A outer s H E f c' cl ⟨dr, F, H⟩ hr', _, F, er, _, rep_lam kk r, by
    refine Takes.imp (takes_of (X := lamC P w K mg base L A outer s H E f c' cl) (E := E) rfl rfl rfl rfl) ?_
    rintro cls dd σ' H' ⟨ρ', F', e, rep', ea, hE⟩
    exact he cls dd H' F' e rep'.gr rep'.ok ea hE, hp cs R er h, fun v H' F' d ρ' _ rep' rv hR => hq v H' F' d rep'.gr rep'.ok rv hR⟩⟩
theorem LamOk.mono {pt : LPt} {j : Nat} (h : LamOk P w K mg base T j L pt) (l : j ≤ k) : LamOk P w K mg base T k L pt := ⟨fun A outer s H f c' cl pm ctv vs Q E hr => h.run A outer s H f c' cl pm ctv vs Q E (hr.mono l)⟩
end
/-! ### x(), x a lambda -/
def dLam (LT : List (LamSite × LPt)) (i : Nat) : DTE := fun ρ R er => match ρ[i]? with
  | some (some (.d (.lam L cs))) => ∃ pt, (L, pt) ∈ LT ∧ cs.length = L.ns.length ∧ (∀ c ∈ cs, D.plainX c = true) ∧ pt cs (fun d => R d ρ) er
  | _ => False
section
variable {X : Cx} {T : List (Addr × Str)} {Z : Zx} {LT : List (LamSite × LPt)} {k j : Nat}
theorem pin_of {F : Hp} {L : LamSite} {cl : List (Str × Addr)} (C : CloAt F L cl) : Pin ((cl.map (·.1)).filterMap (cl.lookup ·)) F := fun b m => by
  obtain ⟨y, _, h2⟩ := List.mem_filterMap.mp m
  obtain ⟨o, u, a1, _⟩ := C.held y b h2
  exact ⟨o, a1⟩
theorem mem_clo {cl : List (Str × Addr)} {y : Str} {c : Addr} (h : cl.lookup y = some c) : c ∈ (cl.map (·.1)).filterMap (cl.lookup ·) :=
  List.mem_filterMap.mpr ⟨y, List.mem_map.mpr ⟨(y, c), PySem.mem_of_lookup h, rfl⟩, h⟩
theorem qe_lam (i : Nat) {a : Str} {p1 p2 : Pos} (LO : ∀ p ∈ LT, LamOk X.prog X.w X.K X.mg X.base T k p.1 p.2) (hr : Room j X.A) (hkj : k ≤ j) (hN : X.N[i]? = some a := by rfl)
    (hv : Vis X.env.scope a := by first | exact Or.inl rfl | exact Or.inr (Or.inl rfl) | exact Or.inr (Or.inr rfl)) (hd : (a == ("__debug__" : Str)) = false := by decide) (hcd : (a == ("__classdict__" : Str)) = false := by decide) :
    QE X T Z (.Call (.Name a p1) [] [] p2) (dLam LT i) := by
  refine ⟨fun pins s σ H Q I ⟨ρ, F, er, R, rep, tk, h, hk⟩ => ?_⟩
  unfold dLam at h
  split at h
  · rename_i L cs hi
    obtain ⟨pt, hm, hlen, hpl, h⟩ := h
    obtain ⟨v, hs, rv⟩ := rep.dat i _ hi
    cases rv with
    | lam h1 h2 h3 h4 h5 =>
      rename_i f c' cl pm ctv vs
      refine wpAny_Call_Name_kw (thn ((pe_var (pos := p1) (i := i) hN hv hd hcd).run pins s σ H (fun v H1 => v = .ref f ∧ H1 = H) I ⟨.ref f, hs, rfl, rfl⟩) fun u s1 ⟨v, H1, I1, r1, q1⟩ => ?_)
      obtain ⟨ev, eH⟩ := q1
      subst ev
      rw [eH] at I1
      obtain rfl : u = Value.ref f := r1
      have hF : s1.heap.get? f = some (PySem.W.kla_obj "<lambda>" L.q L.params L.body L.scope cl pm c' ctv) := (I1.hok f _ (rep.ok.sub _ _ h1)).1
      refine PySem.W.callWith_F0 ⟨_, _, _, _, hF⟩ ?_
      obtain ⟨⟨oc, ws, t, hoc, hdc, hvc⟩, _, _⟩ := I1.hok c' _ (rep.ok.sub _ _ h2)
      generalize hl : (cl.map (·.1)).filterMap (cl.lookup ·) = l
      have pF : Pin l F := hl ▸ pin_of h3
      have pH : Pin l H := fun b m => by
        obtain ⟨o, q⟩ := pF b m
        exact ⟨o, rep.ok.sub _ _ q⟩
      have nf : ∀ b ∈ l, b ∉ frs X.stack := fun b m hb => by
        obtain ⟨o, q⟩ := pH b m
        rw [I1.stkFree b hb] at q
        cases q
      have inl : ∀ {y c}, cl.lookup y = some c → c ∈ l := fun {y c} e => hl ▸ mem_clo e
      have clo : CloH s1.heap (cutL l H) L cl vs := ⟨fun y c e => by
          obtain ⟨o, u, a1, a2⟩ := h3.held y c e
          exact ⟨cutL_in (inl e), u, o, (I1.hok c _ (rep.ok.sub _ _ a1)).1, a2⟩, h3.inj, h3.has, fun j n v e1 e2 => by
          obtain ⟨c, o, u, a1, a2, a3, a4⟩ := h4 j n v e1 e2
          exact ⟨c, u, a1, ⟨o, (I1.hok c _ (rep.ok.sub _ _ a2)).1, a3⟩, a4⟩, h5.length.trans hlen⟩
      have rc := (LO _ hm).run X.A X.stack s1 (cutL l H) f c' cl pm ctv vs (fun v H' => (∀ b ∈ l, H' b = none) → Q v (putL l H H')) (fun cls d H' => (∀ b ∈ l, H' b = none) → Wer X.K X.mg T Z er cls d σ (putL l H H')) (hr.mono hkj) (pH.env0 I1.env0) clo hF ⟨c', oc, ws, t, rfl, hoc, hdc, hvc⟩ ?_
      · refine wpAny_call (codeAny_mono rc fun r s' rc => ?_)
        have rc2 := cr_cut_put (Q' := Q) (E' := WE (Wer X.K X.mg T Z er) σ) (r := r) (s' := s') pH I1.hok nf (fun v H' fr q => q fr) (fun cls d H' fr q => q fr) rc
        have hq := rc2
        cases r with
        | error e => exact passAt tk σ pins H s1 e s' I1 hq
        | ok fl =>
          cases fl with
          | ret u => exact I1.after hq
          | next => exact False.elim hq
          | brk => exact False.elim hq
          | cont => exact False.elim hq
      · have back : ∀ {H' F' : Hp}, Grw T Z.dr (cutL l F) (cutL l H) F' H' → FOk X.K T Z.dr F' H' → (∀ b ∈ l, H' b = none) → Grw T Z.dr F H (putL l F F') (putL l H H') ∧ FOk X.K T Z.dr (putL l F F') (putL l H H') ∧ Fx F' (putL l F F') := fun {H' F'} g kk fr => by
          have hFn : ∀ b ∈ l, F' b = none := fun b m => by
            cases q : F' b with
            | none => rfl
            | some o =>
              have z := kk.sub _ _ q
              rw [fr b m] at z
              cases z
          have nAm : ∀ b ∈ l, ¬ Am T Z.dr b := fun b m am => by
            obtain ⟨o, q⟩ := pF b m
            rw [rep.ok.ntb b am] at q
            cases q
          have xH : Fx H' (putL l H H') := fun b o e => by
            have m : b ∉ l := fun m => by
              rw [fr b m] at e
              cases e
            exact (putL_out m).trans e
          have xF : Fx F' (putL l F F') := fun b o e => by
            have m : b ∉ l := fun m => by
              rw [hFn b m] at e
              cases e
            exact (putL_out m).trans e
          refine ⟨⟨fun b o e am => ?_, fun b o e => ?_, fun b o e => ?_⟩, kk.grow xF (fun b o e => ?_) xH (fun b am => ?_) (fun b ps e => ?_), xF⟩
          · by_cases m : b ∈ l
            · exact (putL_in m).trans e
            · rw [putL_out m]
              exact g.hh b o ((cutL_out m).trans e) am
          · by_cases m : b ∈ l
            · exact (putL_in m).trans e
            · rw [putL_out m]
              exact g.ff b o ((cutL_out m).trans e)
          · by_cases m : b ∈ l
            · rw [putL_in m] at e
              exact .inl e
            · rw [putL_out m] at e
              rcases g.new b o e with z | z | z
              · rw [cutL_out m] at z
                exact .inl z
              · rw [cutL_out m] at z
                exact .inr (.inl z)
              · exact .inr (.inr z)
          · by_cases m : b ∈ l
            · rw [putL_in m] at e ⊢
              exact rep.ok.sub _ _ e
            · rw [putL_out m] at e ⊢
              exact kk.sub _ _ e
          · by_cases m : b ∈ l
            · exact absurd am (nAm b m)
            · rw [putL_out m]
              exact kk.ntb b am
          · by_cases m : b ∈ l
            · rw [putL_in m] at e
              obtain ⟨o, q⟩ := pH b m
              rw [q] at e
              cases e
            · rw [putL_out m] at e
              exact kk.tbT b ps e
        refine ⟨cutL l F, Z.dr, cs, fun d => R d ρ, er, pF.fok pH rep.ok, h5.cutX pF hpl, h, ?_, ?_⟩
        · rintro v H' F' d g kk rv hR fr
          obtain ⟨g1, k1, x1⟩ := back g kk fr
          exact hk v _ _ d ρ g1.ff (rep.step g1 k1) (rv.mono x1) hR
        · rintro cls dd H' F' e g kk ea he fr
          obtain ⟨g1, k1, x1⟩ := back g kk fr
          exact ⟨ρ, _, e, rep.step g1 k1, ea.mono x1, he⟩
  · exact h.elim
end
end DL
set_option Elab.async false
set_option linter.all false
set_option maxRecDepth 100000
set_option maxHeartbeats 2000000
namespace DL
open PySem PySem.Spec PyProof.Rows L2
/-! ### x(lambda: ..) -/
def dMk (L : LamSite) (ix : List Nat) (pt : Pt) : DTE := fun ρ R er => ∃ cs : List D, ix.map (ρ[·]?) = cs.map (fun d => some (some (DV.d d))) ∧ (∀ c ∈ cs, D.plainX c = true) ∧ pt [.d (.lam L cs)] (fun d => d.plainX = true ∧ R d ρ) (fun e => e.pl = true ∧ er e)
section
variable {X : Cx} {T : List (Addr × Str)} {Z : Zx}
theorem lam_cells {pins : List (Addr × Obj)} {σ : L2.St} {H : Hp} {s : Shared} {L : LamSite} (I : Inv X pins σ H s) (S : LamSt L) (hfree : ∀ y ∈ L.scope.names, y.2 = .free → X.env.scope.names.lookup y.1 = some .cell ∨ X.env.scope.names.lookup y.1 = some .free) :
    (∀ y c, (cloFrom X.env.cells L.scope.names []).lookup y = some c → X.env.cells.lookup y = some c) ∧ (∀ y, L.scope.names.lookup y = some .free → ∃ c, (cloFrom X.env.cells L.scope.names []).lookup y = some c) := by
  have hl : ∀ y ∈ L.scope.names, y.2 = .free → ∃ c, X.env.cells.lookup y.1 = some c := fun y hy e => by
    rcases hfree y hy e with k | k
    · exact I.ok.has _ (.inl k)
    · exact I.ok.has _ (.inr k)
  refine ⟨fun y c e => ?_, fun y e => ?_⟩
  · rcases cloFrom_mem (PySem.mem_of_lookup e) with hm | ⟨h1, h2⟩
    · cases hm
    · obtain ⟨c1, hc⟩ := hl _ h1 rfl
      have hc : X.env.cells.lookup y = some c1 := hc
      have e2 : c = c1 := by
        rw [h2, hc] <;> rfl
      rw [e2]
      exact hc
  · have hy : (y, NameKind.free) ∈ L.scope.names := PySem.mem_of_lookup e
    exact mem_lookup (cloFrom_has (cells := X.env.cells) (acc := []) hy)
theorem ix_one {ρ : DEnv} : ∀ {ix : List Nat} {cs : List D} {ns : List Str} {N : List Str}, ix.map (ρ[·]?) = cs.map (fun d => some (some (DV.d d))) → ix.map (N[·]?) = ns.map some →
    cs.length = ns.length ∧ ∀ (j : Nat) (n : Str), ns[j]? = some n → ∃ (i : Nat) (d : D), N[i]? = some n ∧ ρ[i]? = some (some (DV.d d)) ∧ cs[j]? = some d
  | [], [], [], _, _, _ => ⟨rfl, fun j n e => by simp at e⟩
  | [], _ :: _, _, _, h, _ => by cases h
  | _ :: _, [], _, _, h, _ => by cases h
  | [], [], _ :: _, _, _, h => by cases h
  | _ :: _, _ :: _, [], _, _, h => by cases h
  | i :: ix, c :: cs, m :: ns, N, h1, h2 => by
    simp only [List.map_cons, List.cons.injEq] at h1 h2
    obtain ⟨q1, q2⟩ := ix_one (ix := ix) (cs := cs) (ns := ns) (N := N) h1.2 h2.2
    refine ⟨by rw [List.length_cons, List.length_cons, q1], fun j n e => ?_⟩
    cases j with
    | zero =>
      simp at e
      subst e
      exact ⟨i, c, h2.1, h1.1, rfl⟩
    | succ j =>
      obtain ⟨i', d, a1, a2, a3⟩ := q2 j n (by simpa using e)
      exact ⟨i', d, a1, a2, by simpa using a3⟩
theorem vals_of {P : Nat → V → D → Prop} : ∀ (cs : List D), (∀ j d, cs[j]? = some d → ∃ v, P j v d) → ∃ vs : List V, vs.length = cs.length ∧ ∀ j v d, vs[j]? = some v → cs[j]? = some d → P j v d
  | cs, h => by
    induction cs generalizing P with
    | nil => exact ⟨[], rfl, fun j v d e => by simp at e⟩
    | cons c cs ih =>
      obtain ⟨v, hv⟩ := h 0 c rfl
      obtain ⟨vs, hl, hq⟩ := ih (P := fun j => P (j + 1)) fun j d e => h (j + 1) d (by simpa using e)
      refine ⟨v :: vs, by rw [List.length_cons, List.length_cons, hl], fun j w d e1 e2 => ?_⟩
      cases j with
      | zero =>
        simp at e1 e2
        subst e1 e2
        exact hv
      | succ j => exact hq j w d (by simpa using e1) (by simpa using e2)
theorem rpl_of {K : PySem.W.Frag} {mg : Mg} {F : Hp} : ∀ {vs : List V} {cs : List D}, vs.length = cs.length → (∀ (j : Nat) v d, vs[j]? = some v → cs[j]? = some d → Rp K mg F v d) → RpL K mg F vs cs
  | [], [], _, _ => .nil
  | [], _ :: _, h, _ => by cases h
  | _ :: _, [], h, _ => by cases h
  | v :: vs, c :: cs, h, q => .cons (q 0 v c rfl rfl) (rpl_of (by simpa using h) fun j v d e1 e2 => q (j + 1) v d (by simpa using e1) (by simpa using e2))
/-- the lambda is made, and it is new -/
theorem lam_new {pins : List (Addr × Obj)} {σ : L2.St} {H : Hp} {s : Shared} {c P : Addr} {params : Arguments} {body : PySem.Expr} {scope : Scope} {pos : Pos} {q : Str} {E Q : Value → Shared → Prop} (I : Inv X pins σ H s) (TB : LamX.TabB X.base X.mg c P) (hcode : X.env.code = .ref c) (hq : X.env.qual ++ "<lambda>" = q)
    (hm : (P, q) ∈ T) (hu : ∀ p ∈ T, p.1 = P → p.2 = q) (hT : LamX.Tabs T H) (hdef : defaultsOf params X.env = ([], [])) (hfree : ∀ y ∈ scope.names, y.2 = .free → ∃ c, X.env.cells.lookup y.1 = some c)
    (h : ∀ (f c' : Addr) (pm ctv : Value) (H1 : Hp) (s' : Shared), Inv X pins σ H1 s' → LamX.ExtN H H1 → LamX.Tabs T H1 → s'.heap.get? f = some (PySem.W.kla_obj "<lambda>" q params body scope (cloFrom X.env.cells scope.names []) pm c' ctv) → H1 f = none → s.heap.objs.size ≤ f →
      (∀ b ps, H1 b = some (.tbl ps) → ∃ ps', H b = some (.tbl ps')) → H1 c' = some (LamX.CodeO c' q) → Q (.ref f) s') :
    wpAny (model X.prog X.w) X.A (eval (.Lambda params body scope pos) X.env) Q E s := by
  subst hq
  obtain ⟨ps, hP, ht, ha⟩ := hT _ hm
  have bP : s.heap.BuiltinsAt X.mg P := TB.bm.keeps I.bk
  have hP' : s.heap.get? P = some { cls := .none, data := .fields ps } := I.hok P _ hP
  refine PySem.W.kla_eval hdef ?_
  cases hc : codeAmong pos ps.toList with
  | some cv =>
    obtain ⟨c', e, hco⟩ := ha pos cv hc
    subst e
    refine PySem.W.kla_makeFunctionHit (mg := X.mg) (c := c) (P := P) (ps := ps) (closure_ok hfree) I.ok.glob (I.mod.glob.keeps I.bk) hcode (TB.code.keeps I.bk) hP' ht hc bP fun ctv h' tk hx hsz => ?_
    have J := I.kept (t' := tk) (h' := h'.push (PySem.W.kla_obj "<lambda>" (X.env.qual ++ "<lambda>") params body scope (cloFrom X.env.cells scope.names []) ((X.mg "__name__").getD .none) c' ctv)) fun b o e => Heap.get?_push_of_some _ (hx b o e)
    exact h h'.objs.size c' ((X.mg "__name__").getD .none) ctv H _ J (LamX.ExtN.refl H) hT (Heap.get?_push_size _ rfl) (I.hok.fresh hsz) hsz (fun b ps e => ⟨ps, e⟩) hco
  | none =>
    refine PySem.W.kla_makeFunction (mg := X.mg) (c := c) (P := P) (ps := ps) (closure_ok hfree) I.ok.glob (I.mod.glob.keeps I.bk) hcode (TB.code.keeps I.bk) hP' ht hc TB.gP bP fun c' ctv h' tk hx hge hlt hrec htb => ?_
    obtain ⟨c2, oc, vs, t, e2, hoc, hd, hv⟩ := hrec
    cases e2
    have nC : H c' = none := I.hok.fresh hge
    have big : s.heap.objs.size ≤ h'.objs.size := Nat.le_trans hge (Nat.le_of_lt hlt)
    have J := LamX.inv_table (t' := tk) (more := #[rawInt pos.line, rawInt pos.col, .ref c']) (q := X.env.qual ++ "<lambda>") (h' := h'.push (PySem.W.kla_obj "<lambda>" (X.env.qual ++ "<lambda>") params body scope (cloFrom X.env.cells scope.names []) ((X.mg "__name__").getD .none) c' ctv)) I hP
      (fun b o hb e => Heap.get?_push_of_some _ (hx b o hb e)) (Heap.get?_push_of_some _ htb) hge ⟨oc, vs, t, Heap.get?_push_of_some _ hoc, hd, hv⟩
    generalize hH : upd (upd H P (HO.tbl (ps ++ #[rawInt pos.line, rawInt pos.col, .ref c']))) c' (LamX.CodeO c' (X.env.qual ++ "<lambda>")) = H1 at J
    have Pc : P ≠ c' := ne_of_none hP nC
    have atc : H1 c' = some (LamX.CodeO c' (X.env.qual ++ "<lambda>")) := by
      rw [← hH]
      exact upd_same
    have atP : H1 P = some (.tbl (ps ++ #[rawInt pos.line, rawInt pos.col, .ref c'])) := by
      rw [← hH, upd_ne Pc]
      exact upd_same
    have oth : ∀ b, b ≠ P → b ≠ c' → H1 b = H b := fun b h1 h2 => by
      rw [← hH, upd_ne h2, upd_ne h1]
    have hE : LamX.ExtN H H1 := fun b o e n => (oth b (fun z => n ps (by rw [z, hP] at e; exact (Option.some.inj e).symm)) (ne_of_none e nC)).trans e
    have eL : (ps ++ #[rawInt pos.line, rawInt pos.col, .ref c']).toList = ps.toList ++ [rawInt pos.line, rawInt pos.col, .ref c'] := by simp
    have n1 : h'.objs.size ≠ c' := Nat.ne_of_gt hlt
    have n2 : h'.objs.size ≠ P := Nat.ne_of_gt (Nat.lt_of_lt_of_le (Heap.lt_size hP') big)
    refine h h'.objs.size c' ((X.mg "__name__").getD .none) ctv H1 _ J hE (fun p hp => ?_) (Heap.get?_push_size _ rfl) ((oth _ n2 n1).trans (I.hok.fresh big)) big (fun b qs e => ?_) atc
    · by_cases hb : p.1 = P
      · rw [hu p hp hb, hb]
        refine ⟨_, atP, by rw [eL]; exact PySem.TriplesOk_snoc _ _ _ _ ht, fun p' cv hcv => ?_⟩
        rw [eL] at hcv
        rcases LamX.among_app _ ht hcv with z | z
        · obtain ⟨c0, e1, e2⟩ := ha p' cv z
          exact ⟨c0, e1, hE _ _ e2 LamX.codeO_ne⟩
        · exact ⟨c', z, atc⟩
      · obtain ⟨ps', a1, a2, a3⟩ := hT p hp
        refine ⟨ps', (oth _ hb (ne_of_none a1 nC)).trans a1, a2, fun p' cv hcv => ?_⟩
        obtain ⟨c0, e1, e2⟩ := a3 p' cv hcv
        exact ⟨c0, e1, hE _ _ e2 LamX.codeO_ne⟩
    · by_cases hb : b = P
      · rw [hb]
        exact ⟨ps, hP⟩
      · have hbc : b ≠ c' := fun z => by
          rw [z, atc] at e
          exact LamX.codeO_ne qs (Option.some.inj e)
        exact ⟨qs, (oth b hb hbc).symm.trans e⟩
theorem qe_mkLam {L : LamSite} {x : Str} {st : Stmt} {ps : List Str} {ix : List Nat} {k j : Nat} {pt : Pt} {c P : Addr} {p lpos pos : Pos} (O : Fo X.prog X.w X.K X.mg X.base x st ps k (SpF X.K X.mg T pt)) (hr : Room j X.A) (hkj : k ≤ j) (hg : Gl X x) (S : LamSt L)
    (hq : X.env.qual ++ "<lambda>" = L.q) (TB : LamX.TabB X.base X.mg c P) (hcode : X.env.code = .ref c) (hmT : (P, L.q) ∈ T) (hu : ∀ p ∈ T, p.1 = P → p.2 = L.q) (hfree : ∀ y ∈ L.scope.names, y.2 = .free → X.env.scope.names.lookup y.1 = some .cell ∨ X.env.scope.names.lookup y.1 = some .free)
    (hix : ix.map (X.N[·]?) = L.ns.map some) (hfn : ∀ y, X.fn y = true := by exact fun _ => rfl) (hdef : defaultsOf L.params X.env = ([], []) := by rfl) (hdb : (x == ("__debug__" : Str)) = false := by decide) :
    QE X T Z (.Call (.Name x p) [.Lambda L.params L.body L.scope lpos] [] pos) (dMk L ix pt) := by
  obtain ⟨g, fd, hm, F0, hb, ok⟩ := O.ex
  refine ⟨fun pins s σ H Q I ⟨ρ, F, er, R, rep, tk, ⟨cs, hcs, hpl, h⟩, hk⟩ => ?_⟩
  refine wpAny_Call_Name_kw (ld_glob I hg hm ?_ hdb)
  refine PySem.W.callWith_K (h₀ := X.base) I.ok.mod.kin F0.kp ?_ (by rfl) (by rfl)
  show wpAny _ _ (spliced ((false, eval (.Lambda L.params L.body L.scope lpos) X.env) :: backTo pos (starEach [] X.env))) _ _ s
  refine Calls.spliced_cons (lam_new I TB hcode hq hmT hu rep.ok.tabs hdef (fun y hy e => by
    rcases hfree y hy e with k | k
    · exact I.ok.has _ (.inl k)
    · exact I.ok.has _ (.inr k)) fun f c' pm ctv H1 s' I1 eN T1 hf hfn1 hfs tbb hco => ?_)
  refine Calls.spliced_nil ⟨I1.kIn, ?_⟩
  -- the state with the lambda made
  have notT : ∀ b o, F b = some o → ∀ qs, o ≠ .tbl qs := fun b o e qs z => by
    obtain ⟨q, hT⟩ := rep.ok.tbT b qs (z ▸ rep.ok.sub b o e)
    rw [rep.ok.ntb b (.inl ⟨q, hT⟩)] at e
    cases e
  have drN : ∀ b o, H b = some o → ¬ (∃ q, (b, q) ∈ T) → H1 b = some o := fun b o e n => eN b o e fun qs z => n (rep.ok.tbT b qs (z ▸ e))
  obtain ⟨clo1, clo2⟩ := lam_cells I1 S hfree
  generalize hcl : cloFrom X.env.cells L.scope.names [] = cl at clo1 clo2 hf
  have sub1 : Fx F H1 := fun b o e => eN b o (rep.ok.sub b o e) (notT b o e)
  obtain ⟨len, at1⟩ := ix_one hcs hix
  obtain ⟨m, hns, hloc⟩ := id I1.loc
  obtain ⟨vs, vl, va⟩ := vals_of (P := fun j v d => Rp X.K X.mg F v d ∧ ∀ n, L.ns[j]? = some n → ∃ c u, cl.lookup n = some c ∧ s'.heap.IsCell c (some u) ∧ RelV v u) cs fun j d e => by
    have hj : j < L.ns.length := len ▸ (List.getElem?_eq_some_iff.mp e).1
    obtain ⟨i, d', a1, a2, a3⟩ := at1 j _ (List.getElem?_eq_getElem hj)
    rw [a3] at e
    cases e
    obtain ⟨v, s1, r1⟩ := rep.dat i _ a2
    refine ⟨v, r1, fun n hn => ?_⟩
    rw [List.getElem?_eq_getElem hj] at hn
    cases hn
    have hfl := S.ns _ (List.getElem_mem hj)
    have hvis := hfree _ (PySem.mem_of_lookup hfl) rfl
    obtain ⟨u, ru, q⟩ := hloc i _ v a1 s1 (.inr hvis)
    obtain ⟨cc, hcc⟩ := clo2 _ hfl
    have hX := clo1 _ _ hcc
    rcases q with ⟨k', _⟩ | ⟨_, c3, e', z⟩
    · have k' : X.env.scope.names.lookup _ = some .local := k'
      rcases hvis with k2 | k2 <;> rw [k2] at k' <;> cases k'
    · rw [hX] at e'
      cases e'
      exact ⟨cc, u, hcc, z, ru⟩
  -- what is known for the time of the call
  generalize hG : (fun b => (s'.heap.get? b).map fun o => HO.frz o (.own b) : Hp) = G
  generalize hl : f :: (cl.map (·.1)).filterMap (cl.lookup ·) = l
  have inl : ∀ {y c}, cl.lookup y = some c → c ∈ l := fun {y c} e => hl ▸ List.mem_cons_of_mem _ (mem_clo e)
  have cell_ : ∀ {y c}, cl.lookup y = some c → ∃ o u, s'.heap.get? c = some o ∧ o.data = .cell u ∧ G c = some (.frz o (.own c)) := fun {y c} e => by
    obtain ⟨v, o, a1, a2⟩ := I1.cell y c (clo1 y c e)
    exact ⟨o, v, a1, a2, by rw [← hG]; show (s'.heap.get? c).map _ = _; rw [a1]; rfl⟩
  have each : ∀ b ∈ l, b = f ∨ ∃ y, cl.lookup y = some b := fun b m => by
    rw [← hl] at m
    rcases List.mem_cons.mp m with e | m
    · exact .inl e
    · obtain ⟨y, _, h2⟩ := List.mem_filterMap.mp m
      exact .inr ⟨y, h2⟩
  have trk : Trk l G H1 s'.heap := ⟨fun b m => by
    rcases each b m with e | ⟨y, e⟩
    · rw [e]
      exact hfn1
    · exact I1.freeC y b (clo1 y b e), fun b m => by
    rcases each b m with e | ⟨y, e⟩
    · subst e
      exact ⟨_, by rw [← hG]; show (s'.heap.get? _).map _ = _; rw [hf]; rfl, hf⟩
    · obtain ⟨o, u, a1, a2, a3⟩ := cell_ e
      exact ⟨o, a3, a1⟩⟩
  have nfr : ∀ b ∈ l, b ∉ frs X.stack := fun b m hb => by
    rcases each b m with e | ⟨y, e⟩
    · rcases List.mem_cons.mp (I.stkSub b hb) with z | z
      · exact absurd I.lt (by rw [← z, e]; exact Nat.not_lt.mpr hfs)
      · exact I.nofs hfs (e ▸ z)
    · rcases List.mem_cons.mp (I1.stkSub b hb) with z | z
      · exact I1.cne y b (clo1 y b e) z
      · obtain ⟨_, o, ho, _⟩ := I1.ok.funs.mem z
        exact absurd (Nat.lt_of_lt_of_le (Heap.lt_size ho) (I1.ok.cab y b (hfn y) (clo1 y b e))) (Nat.lt_irrefl _)
  have nbs : ∀ b ∈ l, X.base.get? b = none := fun b m => by
    cases q : X.base.get? b with
    | none => rfl
    | some o =>
      exfalso
      have q1 := I1.bk b o q
      rcases each b m with e | ⟨y, e⟩
      · exact absurd (Nat.lt_of_lt_of_le (Heap.lt_size (I.bk b o q)) (e ▸ hfs)) (Nat.lt_irrefl _)
      · have q2 := (I1.ok.bs b o q).1
        exact absurd (Nat.lt_of_lt_of_le (Heap.lt_size q2) (I1.ok.cab y b (hfn y) (clo1 y b e))) (Nat.lt_irrefl _)
  have rF : Rp X.K X.mg (putL l G (upd F c' (LamX.CodeO c' L.q))) (.ref f) (.lam L cs) := by
    have xF : Fx F (putL l G (upd F c' (LamX.CodeO c' L.q))) := fun b o e => by
      have m : b ∉ l := trk.out (sub1 b o e)
      rw [putL_out m]
      by_cases hb : b = c'
      · subst hb
        rw [upd_same]
        exact hco.symm.trans (sub1 _ _ e)
      · rw [upd_ne hb]
        exact e
    have nc : c' ∉ l := trk.out hco
    have fl : f ∈ l := hl ▸ List.mem_cons_self
    refine .lam ((putL_in fl).trans (by rw [← hG]; show (s'.heap.get? _).map _ = _; rw [hf]; rfl)) ((putL_out nc).trans upd_same) ⟨fun y c e => ?_, fun x y c e1 e2 => I1.ok.inj x y c (clo1 x c e1) (clo1 y c e2), clo2⟩ (fun j n v e1 e2 => ?_) (rpl_of vl fun j v d e1 e2 => ((va j v d e1 e2).1).mono xF)
    · obtain ⟨o, u, a1, a2, a3⟩ := cell_ e
      exact ⟨o, u, (putL_in (inl e)).trans a3, a2⟩
    · have hj : j < cs.length := vl ▸ (List.getElem?_eq_some_iff.mp e2).1
      obtain ⟨c, u, a1, ⟨o, a2, a3⟩, a4⟩ := (va j v _ e2 (List.getElem?_eq_getElem hj)).2 n e1
      exact ⟨c, o, u, a1, (putL_in (inl a1)).trans (by rw [← hG]; show (s'.heap.get? _).map _ = _; rw [a2]; rfl), a3, a4⟩
  have tb1 : ∀ b ps, H1 b = some (.tbl ps) → ∃ q, (b, q) ∈ T := fun b ps e => by
    obtain ⟨ps', e'⟩ := tbb b ps e
    exact rep.ok.tbT b ps' e'
  have nAl : ∀ b ∈ l, ¬ Am T Z.dr b := fun b m => by
    rintro (⟨q, hT⟩ | ⟨a, l', e, z⟩)
    · obtain ⟨ps, h1, _⟩ := T1 _ hT
      rw [trk.no b m] at h1
      cases h1
    · obtain ⟨c, r, t, big, cells, h1, h2, _⟩ := (rep.ok.drw a l' e).at_
      have g1 := eN _ _ h1 fun _ z => nomatch z
      have g2 := eN _ _ h2 fun _ z => nomatch z
      rcases z with z | z
      · rw [← z, trk.no b m] at g1
        cases g1
      · rw [← z, trk.no b m] at g2
        cases g2
  have nAc : ¬ Am T Z.dr c' := by
    rintro (⟨q, hT⟩ | ⟨a, l', e, z⟩)
    · obtain ⟨ps, h1, _⟩ := T1 _ hT
      rw [hco] at h1
      exact LamX.codeO_ne ps (Option.some.inj h1)
    · obtain ⟨c, r, t, big, cells, h1, h2, _⟩ := (rep.ok.drw a l' e).at_
      have g1 := eN _ _ h1 fun _ z => nomatch z
      have g2 := eN _ _ h2 fun _ z => nomatch z
      rcases z with z | z
      · rw [← z, hco] at g1
        cases g1
      · rw [← z, hco] at g2
        cases g2
  have drw1 : ∀ a l', Z.dr = some (a, l') → DrawAt X.K F H1 a l' := fun a l' e => by
    obtain ⟨c, r, t, big, cells, h1, h2, _⟩ := (rep.ok.drw a l' e).at_
    exact (rep.ok.drw a l' e).mono (Fx.refl F) ((eN _ _ h1 fun _ z => nomatch z).trans h1.symm) ((eN _ _ h2 fun _ z => nomatch z).trans h2.symm)
  have k1 : FOk X.K T Z.dr F H1 := ⟨sub1, rep.ok.ntb, T1, drw1, tb1⟩
  have g01 : Grw T Z.dr F H F H1 := ⟨fun b o e m => eN b o e fun qs z => by
      obtain ⟨q, hT⟩ := rep.ok.tbT b qs (z ▸ e)
      exact m (.inl ⟨q, hT⟩), Fx.refl F, fun b o e => .inl e⟩
  have ks : FOk X.K T Z.dr (putL l G (upd F c' (LamX.CodeO c' L.q))) (putL l G H1) := by
    have xH : ∀ b o, H1 b = some o → putL l G H1 b = some o := fun b o e => (putL_out (trk.out e)).trans e
    refine k1.grow (fun b o e => ?_) (fun b o e => ?_) xH (fun b am => ?_) (fun b ps e => ?_)
    · rw [putL_out (trk.out (sub1 b o e))]
      by_cases hb : b = c'
      · subst hb
        rw [upd_same]
        exact hco.symm.trans (sub1 _ _ e)
      · rw [upd_ne hb]
        exact e
    · by_cases m : b ∈ l
      · rw [putL_in m] at e ⊢
        exact e
      · rw [putL_out m] at e ⊢
        by_cases hb : b = c'
        · subst hb
          rw [upd_same] at e
          exact hco.trans e
        · rw [upd_ne hb] at e
          exact sub1 b o e
    · have m : b ∉ l := fun m => nAl b m am
      have hb : b ≠ c' := fun z => nAc (z ▸ am)
      rw [putL_out m, upd_ne hb]
      exact rep.ok.ntb b am
    · by_cases m : b ∈ l
      · rw [putL_in m] at e
        obtain ⟨o, q, _⟩ := trk.at_ b m
        rw [q] at e
        cases e
      · rw [putL_out m] at e
        exact tb1 b ps e
  have back : ∀ {H' F' : Hp}, Grw T Z.dr (putL l G (upd F c' (LamX.CodeO c' L.q))) (putL l G H1) F' H' → FOk X.K T Z.dr F' H' → Pin l H' → Grw T Z.dr F H1 (cutL l F') (cutL l H') ∧ FOk X.K T Z.dr (cutL l F') (cutL l H') ∧ Pin l F' := fun {H' F'} g kk pn => by
    have pF : Pin l F' := fun b m => by
      obtain ⟨o, q, _⟩ := trk.at_ b m
      exact ⟨o, g.ff b _ ((putL_in m).trans q)⟩
    refine ⟨⟨fun b o e am => ?_, fun b o e => ?_, fun b o e => ?_⟩, pF.fok pn kk, pF⟩
    · have m := trk.out e
      rw [cutL_out m]
      exact g.hh b o ((putL_out m).trans e) am
    · have m := trk.out (sub1 b o e)
      rw [cutL_out m]
      refine g.ff b o ((putL_out m).trans ?_)
      by_cases hb : b = c'
      · subst hb
        rw [upd_same]
        exact hco.symm.trans (sub1 _ _ e)
      · rw [upd_ne hb]
        exact e
    · by_cases m : b ∈ l
      · rw [cutL_in m] at e
        cases e
      · rw [cutL_out m] at e
        rcases g.new b o e with z | z | z
        · rw [putL_out m] at z
          by_cases hb : b = c'
          · subst hb
            rw [upd_same] at z
            exact .inr (.inr ⟨_, (Option.some.inj z).symm⟩)
          · rw [upd_ne hb] at z
            exact .inl z
        · rw [putL_out m] at z
          exact .inr (.inl z)
        · exact .inr (.inr z)
  have hb1 := hb s' [.ref f] I1.kIn (by
    have z := ok.len [V.ref f] _ (fun _ _ => True) (fun _ _ _ => True) ⟨_, Z.dr, [.d (.lam L cs)], _, _, ks, .cons rF .nil, h, fun _ _ _ _ _ _ _ _ => trivial, fun _ _ _ _ _ _ _ _ _ => trivial⟩
    simpa using z)
  rw [List.append_nil] at hb1
  refine wpAny_call (codeAny_mono (ok.run X.A X.stack s' (putL l G H1) ⟨[.ref f], []⟩ [.ref f] [.ref f] (fun v H' => Pin l H' → Q v (cutL l H')) (fun cls d H' => Pin l H' → Wer X.K X.mg T Z er cls d σ (cutL l H')) (hr.mono hkj) (trk.env0 I1.env0 nfr nbs) hb1 (.cons rfl .nil) ?_) fun r s2 rc => ?_)
  · refine ⟨_, Z.dr, [.d (.lam L cs)], _, _, ks, .cons rF .nil, h, fun v H' F' d g kk rv hR pn => ?_, fun cls dd H' F' e g kk ea he pn => ?_⟩
    · obtain ⟨g1, k2, pF⟩ := back g kk pn
      exact hk v _ _ d ρ g1.ff (rep.step (g01.trans g1 k2.ntb) k2) (rv.cutX pF hR.1) hR.2
    · obtain ⟨g1, k2, pF⟩ := back g kk pn
      exact ⟨ρ, _, e, rep.step (g01.trans g1 k2.ntb) k2, ea.cut pF he.1, he.2⟩
  · have hq2 := cr_put_cut (r := r) (s' := s2) (Q' := Q) (E' := WE (Wer X.K X.mg T Z er) σ) trk nfr (fun v H' pn q => q pn) (fun cls d H' pn q => q pn) rc
    cases r with
    | error e => exact passAt tk σ pins H1 s' e s2 I1 hq2
    | ok fl =>
      cases fl with
      | ret u => exact I1.after hq2
      | next => exact False.elim hq2
      | brk => exact False.elim hq2
      | cont => exact False.elim hq2
end
end DL
set_option Elab.async false
set_option linter.all false
set_option maxRecDepth 100000
set_option maxHeartbeats 2000000
/-! errors whose __init__ says super().__init__('..') and sets one field -/
namespace DL
namespace XI
open PySem PySem.W PySem.Calls PyProof.Rows PySem.HandSPX
abbrev iSc (fld : Str) : Scope := { kind := .function, names := [(PySem.Str.ofString "self", .local), (fld, .local), (PySem.Str.ofString "__class__", .free), (PySem.Str.ofString "super", .globalImplicit)], isGenerator := false, isCoroutine := false, more := [] }
theorem callee_line {o : PySem.Expr} {name : Str} {apos pos : Pos} {args : List PySem.Expr} {env : Env} (hp : apos.endLine = pos.line) (hn : methodCallForm (args.length + ([] : List Keyword).length) (backTo pos (starEach args env)) (backToKw pos (keywordEach [] env)) = true) : eval (.Call (.Attribute o name apos) args [] pos) env = (do
      let ov ← attributeBase o name env (eval o env)
      standAt apos.atName
      let (f, first) ← holding [ov] (getMethod ov name (do return (← importBound o env).getD true))
      callWith pos f first (backTo pos (starEach args env)) []) := by
  have hb : (apos.endLine == pos.line) = true := by simp [hp]
  show (do
      let ov ← attributeBase o name env (eval o env)
      standAt apos.atName
      methodCall o name apos pos env ov (args.length + ([] : List Keyword).length) (backTo pos (starEach args env)) (backToKw pos (keywordEach [] env))) = _
  unfold methodCall methodCallPos
  rw [hn, hb]
  simp only [Bool.or_true, if_true, pure_bind]
  rfl
/-- what the written part says of such a class, at C; its __init__ at fI -/
structure Txt (P : Program) (K : Frag) (C : Addr) (x fld msg : Str) (fI : Addr) : Prop where
  made : excInitIn K C [.type "ValueError", .type "Exception", .type "BaseException", .type "object"] "ValueError.__new__" = true
  cls : ∃ cd, clsIn K C = some cd ∧ refsVE cd.mro = true ∧ cd.hasDict = true
  sa : findIn K (.ref C) "__setattr__" = some (some (.builtin "object.__setattr__"))
  noN : findIn K (.ref C) fld = some none
  iC : findIn K (.ref C) "__init__" = some (some (.ref fI))
  tC : typeIn K (.ref fI) = some (.type "function")
  sup : ks_superIn K C C "__init__" = some (some (.builtin "ValueError.__init__"))
  own : mroIn K C (.ref C) = some true
  isV : subIn K (.ref C) (.type "ValueError") = some true
  noO : nsIn K cStatics "thirdparty.any" = some none
  noS : nsIn K mainGlobals "super" = some none
  top : (P.main.scope.names.lookup ("super" : Str)).isSome = false
  fn : ∃ (q : Str) (params : Arguments) (dV kV doc pm ct oc : Value) (an od : Option Addr) (osl : Array (Option Value)) (cc cda : Addr) (p0 p1 p2 p3 p4 p5 q1 q2 q3 q4 : Pos) (j : Nat) (ar : Arg),
    K.lookup fI = some ⟨oc, od, .func (ksFn "__init__" q params [.Expr (.Call (.Attribute (.Call (.Name "super" p0) [] [] p1) "__init__" p2) [.Constant (.str msg) j p3] [] p4) p5, .Assign [.Attribute (.Name "self" q1) fld q2] (.Name fld q3) q4] (iSc fld) dV kV doc pm an (.ref cda) ct cc), osl⟩ ∧
    codeIn K (.ref cda) q = true ∧ (params.posonlyargs ++ params.args).head? = some ar ∧ ar.arg = "self" ∧
    (∀ a b : Value, bindArgs (ksFn "__init__" q params [.Expr (.Call (.Attribute (.Call (.Name "super" p0) [] [] p1) "__init__" p2) [.Constant (.str msg) j p3] [] p4) p5, .Assign [.Attribute (.Name "self" q1) fld q2] (.Name fld q3) q4] (iSc fld) dV kV doc pm an (.ref cda) ct cc) ⟨[a, b], []⟩ = pure [(("self" : Str), a), (fld, b)]) ∧
    (∃ ccl cdd vs ccs file tf, K.lookup cda = some ⟨ccl, cdd, .fields vs, ccs⟩ ∧ vs[2]? = some (.str file tf) ∧ ((P.main.file : Str) == file) = true) ∧ (∃ cl cld csl, K.lookup cc = some ⟨cl, cld, .cell (some (.ref C)), csl⟩) ∧
    (iSc fld).names.lookup fld = some .local ∧ (iSc fld).names.lookup ("super" : Str) = some .globalImplicit ∧ (iSc fld).names.lookup ("__class__" : Str) = some .free ∧
    (("self" : Str) == fld) = false ∧ (fld == ("__debug__" : Str)) = false ∧ p2.endLine = p4.line
structure InitEnd (h h' : Heap) (x C dx t1 : Addr) (fld : Str) (v : Value) : Prop where
  keep : ∀ b o, b ≠ x → h.get? b = some o → h'.get? b = some o
  obj : h'.get? x = some { cls := .ref C, dict := some dx, data := .fields #[.ref t1, .none, .none, .none, .bool false, .none] }
  dbig : h.objs.size ≤ dx
  dne : dx ≠ x
  ns : h'.Ns1 dx (fun y => if y = fld then some v else none)
structure OwnMade (h h' : Heap) (e C d : Addr) (fld : Str) (v : Value) : Prop where
  keep : ∀ b o, h.get? b = some o → h'.get? b = some o
  new : h.objs.size ≤ e
  obj : ∃ oe vs, h'.get? e = some oe ∧ oe.cls = .ref C ∧ oe.dict = some d ∧ oe.data = .fields vs ∧ vs[1]? = some .none
  dbig : h.objs.size ≤ d
  dne : d ≠ e
  ns : h'.Ns1 d (fun y => if y = fld then some v else none)
section
variable {P : Program} {w : World} {A : Around} {R : Result → Shared → Prop} {s : Shared} {K : Frag} {mg mb : Str → Option Value} {C fI : Addr} {cn fld msg : Str}
theorem in_but {h h' : Heap} {x : Addr} (X : K.In h) (hx : K.lookup x = none) (k : ∀ b o, b ≠ x → h.get? b = some o → h'.get? b = some o) : K.In h' := fun a o e =>
  k a o (fun z => by rw [z, hx] at e; cases e) (X a o e)
theorem call_mw {E : Value → Shared → Prop} {hp : Heap} {g : Array GenState} {d : Drawn} {t : Nat} {os : OsState} {u e t0 : Addr} {rest : List Value} {Q : Value → Shared → Prop} (T : Txt P K C cn fld msg fI) (X : K.In hp) (he : hp.get? e = some (excO C t0)) (hu : hp.get? u = some (kxs_mw "ValueError.__init__" e)) (hz : rest.length ≤ sizeLine)
    (hq : ∀ h' t1, (∀ b o, b ≠ e → hp.get? b = some o → h'.get? b = some o) → h'.get? e = some (excO C t1) → Q .none ⟨h', g, d, t, os⟩) : wpAny (model P w) A (call (.ref u) rest) Q E ⟨hp, g, d, t, os⟩ := by
  obtain ⟨nm, N', qn, bs, bm, hdct, sn, sub, ab, col, dd, k0, k1, k2, k3, k5, hC, hT⟩ := excInit_of X T.made
  have FB := PySem.F.excBase_ValueError
  refine wpAny_call (codeAny_of_tree (show wpAny _ A.in1 (callAny (.ref u) ⟨rest, []⟩) _ _ _ from ?_))
  simp only [callAny]
  refine wpAny_bind (wpAny_load hu ?_)
  simp only [kxs_mw, show (Value.type "method-wrapper" == Value.type "method" || Value.type "method-wrapper" == Value.type "builtin_function_or_method" || Value.type "method-wrapper" == Value.type "method-wrapper") = true by decide, if_true]
  refine KFB.if_so (by decide) (wpAny_bind (check_bound_init FB.toExcCallFacts hC he rfl (wpAny_bind (wpAny_pure (wpAny_pure ⟨plainId_quiet FB.init.plain _, codeAny_builtin FB.initEntry ?_⟩)))))
  exact exc_init_tree (cls := .ref C) (t0 := t0) (dv := none) (c2 := .none) (c3 := .none) (b4 := .bool false) he hz fun h' k' e' _ => hq h' _ k' e'
theorem init_walk (T : Txt P K C cn fld msg fI) {x t0 : Addr} {v : Value} (X : K.In s.heap) (hlim : s.heap.NoLimit) (G : s.heap.Ns mainGlobals mg) (B : s.heap.Ns builtinsNs mb) (hmb : mb "super" = some (.type "super")) (hx : s.heap.get? x = some (excO C t0)) (hnx : K.lookup x = none) (hroom : A.depth < recursionLimit)
    (hmz : msg.length ≤ sizeLine) (hq : ∀ h' tk dx t1, InitEnd s.heap h' x C dx t1 fld v → R (.ok (.ret .none)) { s with heap := h', toks := tk }) :
    codeAny (model P w) A (.call (.ref fI) ⟨[.ref x, v], []⟩) R s := by
  obtain ⟨q, params, dV, kV, doc, pm, ct, oc, an, od, osl, cc, cda, p0, p1, p2, p3, p4, p5, q1, q2, q3, q4, j, ar, ho, hcd, har, hself, hbind, ⟨ccl, cdd, vs, ccs, file, tf, hcda, hvs, hfile⟩, ⟨cl, cld, csl, hcc⟩, hl2, hl3, hl4, hnf, hdb, hpos⟩ := T.fn
  have hl1 : (iSc fld).names.lookup ("self" : Str) = some .local := rfl
  obtain ⟨cdD, hcdD, hmro, hhd⟩ := T.cls
  have hself2 : (("self" : Str) == ("__debug__" : Str)) = false := by decide
  refine ks_codeAny_call_defAt (binds := [("self", .ref x), (fld, v)]) hroom (X _ _ ho) rfl hlim (codeRec_of X hcd) rfl (BindsTo.of_eq (hbind _ _)) (fun y hy => ?_) (fun y hy => ?_) (fun h₁ hns hk₁ => ?_)
  · rcases List.mem_cons.mp hy with rfl | hy
    · exact nofun
    rcases List.mem_cons.mp hy with rfl | hy
    · exact nofun
    rcases List.mem_cons.mp hy with rfl | hy
    · exact nofun
    rcases List.mem_cons.mp hy with rfl | hy
    · exact nofun
    cases hy
  · rcases List.mem_cons.mp hy with e | hy
    · rw [e]
      exact hl1
    · rcases List.mem_cons.mp hy with e | hy
      · rw [e]
        exact hl2
      · cases hy
  have X₁ : K.In h₁ := X.keeps hk₁
  have hx₁ := hk₁ _ _ hx
  have hD : ∃ oD, h₁.get? C = some oD ∧ oD.data = .cls cdD := by
    unfold clsIn at hcdD
    split at hcdD
    · rename_i c d cd' sl hoD
      cases hcdD
      exact ⟨_, X₁ _ _ hoD, rfl⟩
    · cases hcdD
  obtain ⟨oD, hD1, hD2⟩ := hD
  have v1 : ([((("self" : Str)), Value.ref x), (fld, v)].reverse).lookup ("self" : Str) = some (.ref x) := by
    show List.lookup ("self" : Str) [(fld, v), (("self" : Str), Value.ref x)] = _
    rw [List.lookup_cons, hnf]
    rfl
  have v2 : ([((("self" : Str)), Value.ref x), (fld, v)].reverse).lookup fld = some v := by
    show List.lookup fld [(fld, v), (("self" : Str), Value.ref x)] = _
    rw [List.lookup_cons, beq_self_eq_true]
  refine ks_wpAt_execs_cons ?_
  refine ks_wpAt_Expr_any ?_
  refine ks_wpAt_MethodCall ?_ (callee_line hpos rfl)
  refine ks_wpAt_super_base (env := ksEnv q (iSc fld) s.heap.objs.size fI (.ref cda) cc) hl3 hl4 (by decide) rfl (X₁ _ _ ho) rfl har rfl (X₁ _ _ hcda) rfl hvs hfile T.top ?_
  refine ks_loadName_global (env := ksEnv q (iSc fld) s.heap.objs.size fI (.ref cda) cc) rfl hl3 (Calls.loadGlobal_builtin (env := ksEnv q (iSc fld) s.heap.objs.size fI (.ref cda) cc) (G.keeps hk₁) (mg_none_of X G T.noS) (B.keeps hk₁) hmb ⟨rfl, ?_⟩)
  refine wpAny_loadName_free (env := ksEnv q (iSc fld) s.heap.objs.size fI (.ref cda) cc) rfl hl4 rfl ⟨_, X₁ _ _ hcc, rfl⟩ ?_
  rw [hself]
  refine wpAny_loadName_local (env := ksEnv q (iSc fld) s.heap.objs.size fI (.ref cda) cc) rfl hl1 hns v1 (ks_wpAny_isType_cls hD1 hD2 ⟨rfl, ?_⟩)
  refine ks_wpAny_call_super hD1 hD2 hx₁ rfl (fun c e => by cases e) (looks_mroIn X₁ T.own) (fun h₂ hso k₂ => ?_)
  have X₂ : K.In h₂ := X₁.keeps k₂
  have hx₂ := k₂ _ _ hx₁
  have xC : x ≠ C := fun z => by
    rw [z, hD1] at hx₁
    cases hx₁
    cases hD2
  have I₂ : InstAt h₂ x (excO C t0) C none := ⟨hx₂, rfl, rfl, trivial⟩
  have hsu := T.sup
  unfold ks_superIn at hsu
  rw [hcdD] at hsu
  refine kxs_getMethod kxs_ValueError hso (looks_opaque X₂ T.noO) (l₀ := cdD.mro) (fun A Q E s k q => wpAny_bind ((looks_clsIn X₂ hcdD) A _ E s k (wpAny_pure q))) rfl X₂ hsu (I₂.type.andThen (looks_subIn X₂ T.isV)) xC (by decide) ?_
  have k₃ : ∀ b o, h₂.get? b = some o → (h₂.push (kxs_mw "ValueError.__init__" x)).get? b = some o := fun b o e => Heap.get?_push_of_some _ e
  have hu : (h₂.push (kxs_mw "ValueError.__init__" x)).get? h₂.objs.size = some (kxs_mw "ValueError.__init__" x) := Heap.get?_push_at rfl rfl
  refine kxs_callWith (i := "ValueError.__init__") (x := x) (first := []) rfl (evalArgs_plain ?_)
  show wpAny _ _ (spliced ((false, eval (.Constant (.str msg) j p3) (ksEnv q (iSc fld) s.heap.objs.size fI (.ref cda) cc)) :: backTo p4 (starEach [] (ksEnv q (iSc fld) s.heap.objs.size fI (.ref cda) cc)))) _ _ _
  refine Calls.spliced_cons (Calls.Constant_str (Calls.spliced_nil ⟨hu, ?_⟩))
  refine call_mw T (X₂.keeps k₃) (k₃ _ _ hx₂) hu (by show 1 ≤ sizeLine; rw [sizeLine_eq]; decide) fun h₄ t1 k₄ hx₄ => ?_
  have k₀₄ : ∀ b o, b ≠ x → h₁.get? b = some o → h₄.get? b = some o := fun b o hb e => k₄ b o hb (k₃ _ _ (k₂ _ _ e))
  have X₄ : K.In h₄ := in_but X₁ hnx k₀₄
  have Lx : s.heap.objs.size ≠ x := Nat.ne_of_gt (Heap.lt_size hx)
  have hn₄ : h₄.Ns s.heap.objs.size fun y => [((("self" : Str)), Value.ref x), (fld, v)].reverse.lookup y := by
    obtain ⟨oL, es, ep, hoL, r⟩ := hns
    exact ⟨oL, es, ep, k₀₄ _ _ Lx hoL, r⟩
  show _root_.PySem.wpAt _ _ _ (execs [.Assign [.Attribute (.Name "self" q1) fld q2] (.Name fld q3) q4] (ksEnv q (iSc fld) s.heap.objs.size fI (.ref cda) cc)) _ _ _
  refine ks_wpAt_execs_cons ?_
  refine ks_wpAt_Assign_Attr (wpAt_of_wpAny (wpAny_Name (wpAny_loadName_local rfl hl2 hn₄ v2 (wpAny_Name (wpAny_loadName_local rfl hl1 hn₄ v1 ?_) rfl)) hdb))
  refine set_plain X₄ (ox := excO C t1) (od := none) ⟨hx₄, rfl, rfl, trivial⟩ T.sa ?_
  refine exc_osa X₄ hx₄ hcdD hmro hhd T.noN (fun h₅ tk₅ dx k₅ dn dne hx₅ hn₅ => ?_)
  have big : s.heap.objs.size ≤ dx := by
    have z : s.heap.objs.size < h₄.objs.size := hn₄.lt
    exact Nat.le_of_lt (Nat.lt_of_lt_of_le z dn)
  exact wpAt_of_wpAny (wpAny_execs_nil (hq h₅ tk₅ dx t1 ⟨fun b o hb e => k₅ b o hb (k₀₄ b o hb (hk₁ b o e)), hx₅, big, dne, hn₅⟩))
theorem made (T : Txt P K C cn fld msg fI) {v : Value} (X : K.In s.heap) (hlim : s.heap.NoLimit) (G : s.heap.Ns mainGlobals mg) (B : s.heap.Ns builtinsNs mb) (hmb : mb "super" = some (.type "super")) (hroom : A.depth + 1 < recursionLimit) (hmz : msg.length ≤ sizeLine)
    (hq : ∀ h' tk e d, OwnMade s.heap h' e C d fld v → R (.ok (.ret (.ref e))) { s with heap := h', toks := tk }) : codeAny (model P w) A (.call (.ref C) ⟨[v], []⟩) R s := by
  obtain ⟨nm, N', qn, bs, bm, hdct, sn, sub, ab, col, dd, k0, k1, k2, k3, k5, hC, hT⟩ := excInit_of X T.made
  obtain ⟨hp, g, dr, tk, os⟩ := s
  have k : ∀ b o, hp.get? b = some o → ((hp.push (kdv_tup [v])).push (excO C hp.objs.size)).get? b = some o := fun b o e => Heap.get?_push_of_some _ (Heap.get?_push_of_some _ e)
  have at1 : ((hp.push (kdv_tup [v])).push (excO C hp.objs.size)).get? (hp.objs.size + 1) = some (excO C hp.objs.size) := by heap_get
  have fresh : K.lookup (hp.objs.size + 1) = none := by
    cases e : K.lookup (hp.objs.size + 1) with
    | none => rfl
    | some o => exact absurd (Nat.lt_of_succ_lt (Heap.lt_size (show hp.get? (hp.objs.size + 1) = some o from X _ _ e))) (Nat.lt_irrefl _)
  refine call_own PySem.F.excBase_ValueError hT hC (looks_findIn X T.iC) (fun self => bind_fn X self T.tC) (by show 1 ≤ sizeLine; rw [sizeLine_eq]; decide) ?_
  refine init_walk (s := ⟨(hp.push (kdv_tup [v])).push (excO C hp.objs.size), g, dr, tk, os⟩) T (X.keeps k) (hlim.keeps k) (G.keeps k) (B.keeps k) hmb at1 fresh (by show A.depth + 1 < recursionLimit; exact hroom) hmz fun h' tk' dx t1 ⟨k', hx, dn, dne, hns⟩ => ?_
  have old : ∀ b o, hp.get? b = some o → h'.get? b = some o := fun b o e => k' b o (Nat.ne_of_lt (Nat.lt_succ_of_lt (Heap.lt_size e))) (k b o e)
  have z : hp.objs.size + 1 + 1 ≤ dx := by
    have q := dn
    rw [Heap.size_push, Heap.size_push] at q
    exact q
  exact ⟨rfl, hq h' tk' (hp.objs.size + 1) dx ⟨old, Nat.le_succ _, ⟨_, _, hx, rfl, rfl, rfl, rfl⟩, (by show hp.objs.size ≤ dx; omega), dne, hns⟩⟩
end
end XI
end DL
set_option Elab.async false
set_option linter.all false
set_option maxRecDepth 100000
set_option maxHeartbeats 2000000
namespace DL
open PySem PySem.Spec PyProof.Rows L2
/-! ### raise -/
section
variable {X : Cx} {T : List (Addr × Str)} {Z : Zx} {C fI : Addr} {x fld msg : Str} {a : PySem.Expr} {te : DTE} {p pos pos2 : Pos}
theorem relO_fld {v : V} {v' : Value} (r : RelV v v') (f : Str) : RelO (List.lookup f [(fld, v)]) (if f = fld then some v' else none) := by
  by_cases hw : f = fld
  · subst hw
    rw [if_pos rfl, List.lookup_cons, beq_self_eq_true]
    exact r
  · have e : List.lookup f [(fld, v)] = none := by
      rw [List.lookup_cons, show (f == fld) = false by simpa using hw]
      rfl
    rw [if_neg hw, e]
    trivial
def tMkF (C : Addr) (fld : Str) (ta : TA) : L2.St → Hp → XK → Prop := fun σ H Q => ta σ H fun vs H1 => ∃ v, vs = [v] ∧ ∀ d, H1 d = none → Q (.ref C) (some d) (upd H1 d (.xd [(fld, v)]))
theorem pmk_fld {ta : TA} {k : Nat} (Tx : XI.Txt X.prog X.K C x fld msg fI) (hm : X.mg x = some (.ref C)) (kC : PySem.W.keepIn X.K (.ref C) = true) (rz : Raises X (.ref C)) (hr : Room k X.A) (ha : PA X [a] ta) (hg : Gl X x) (hmz : msg.length ≤ sizeLine) (hdb : (x == ("__debug__" : Str)) = false := by decide)
    (he : starEach [a] X.env = (false, eval a X.env) :: starEach [] X.env := by rfl) : PMk X (.Call (.Name x p) [a] [] pos) (tMkF C fld ta) := by
  intro pins s σ H Q I h
  refine wpAny_Call_Name_kw (ld_glob I hg hm ?_ hdb)
  refine PySem.W.callWith_K (h₀ := X.base) I.ok.mod.kin kC (thn (ha.run pos pins s σ H _ I h) fun us s1 hh => ?_) he (by rfl)
  obtain ⟨vs, H1, I1, r1, v, ev, q1⟩ := hh
  subst ev
  refine ⟨I1.kIn, ?_⟩
  cases r1 with
  | cons rv rn =>
    rename_i v' us'
    cases rn
    show wpAny _ _ (call (.ref C) [v']) _ _ _
    have hlim := I1.nolimit
    obtain ⟨mb, B1, B2⟩ := I1.mod.blt
    have G1 := I1.mod.glob.keeps I1.bk
    have B3 := B1.keeps I1.bk
    have kx := I1.kIn
    obtain ⟨hp, g, dr, tk, os⟩ := s1
    refine wpAny_call (XI.made Tx kx hlim G1 B3 ((B2 _ (by decide)).trans (by decide +kernel)) (by have := hr.dp; omega) hmz fun h' tk' e d M => ?_)
    show MkP X pins σ Q (.ref e) ⟨h', g, dr, tk', os⟩
    obtain ⟨oe, fv, hoe, hc, hd, hdat, h1⟩ := M.obj
    have hns := M.ns
    obtain ⟨G', g1, g2⟩ := restrict h' fun b => decide (b ≠ e)
    have gk : ∀ b, b ≠ e → G'.get? b = h'.get? b := fun b hb => g1 b (decide_eq_true hb)
    have ge : G'.get? e = none := g2 e (by simp)
    have old : ∀ b o, hp.get? b = some o → G'.get? b = some o := fun b o q => (gk b (Nat.ne_of_lt (Nat.lt_of_lt_of_le (Heap.lt_size q) M.new))).trans (M.keep b o q)
    have ob : ObjOk X.prog X.w (upd H1 d (.xd [(fld, v)])) G' d (.xd [(fld, v)]) := ⟨_, hns.at (fun o q => (gk d M.dne).trans q), fun f => relO_fld rv f⟩
    have J : Inv X pins σ (upd H1 d (.xd [(fld, v)])) ⟨G', g, dr, tk', os⟩ := I1.laid (t' := tk') old M.dbig ob
    refine ⟨e, oe, fv, ⟨G', g, dr, tk', os⟩, _, .ref C, some d, rfl, J, fun b o q => ?_, ge, hoe, ⟨hc, hd⟩, hdat, h1, ?_, rfl, I1.bare, rz, q1 d (I1.hok.fresh M.dbig)⟩
    · by_cases hb : b = e
      · have q' : G'.get? b = some o := q
        rw [hb, ge] at q'
        cases q'
      · exact (gk b hb).symm.trans q
    · rw [upd_ne (Ne.symm M.dne)]
      exact I1.hok.fresh M.new
def dRaiseF (x fld : Str) (te : DTE) : DTS := fun ρ E er => te ρ (fun d _ => er ⟨x, some (fld, d)⟩) er
def dRaise0 (x : Str) : DTS := fun ρ E er => er ⟨x, none⟩
theorem qs_raiseF {k : Nat} (hc : X.calm = true) (Tx : XI.Txt X.prog X.K C x fld msg fI) (hm : X.mg x = some (.ref C)) (kC : PySem.W.keepIn X.K (.ref C) = true) (rz : Raises X (.ref C)) (hr : Room k X.A) (ha : QE X T Z a te) (hg : Gl X x) (hmz : msg.length ≤ sizeLine) (hdb : (x == ("__debug__" : Str)) = false := by decide)
    (he : starEach [a] X.env = (false, eval a X.env) :: starEach [] X.env := by rfl) : QS X T Z (.Raise (some (.Call (.Name x p) [a] [] pos)) none pos2) (dRaiseF x fld te) := by
  refine ⟨fun pins s σ H E I ⟨ρ, F, er, De, rep, tk, h, hn, hr2, hb, hc2⟩ => ?_⟩
  refine (ps_raise hc tk (pmk_fld (p := p) (pos := pos) Tx hm kC rz hr (pa_cons ha pa_nil he) hg hmz hdb he)).run pins s σ H E I ?_
  refine ⟨ρ, F, er, _, rep, tk, h, fun v H1 F1 d ρ1 e1 rep1 rv h1 => ?_⟩
  refine ⟨v, rfl, fun dd hd => ?_⟩
  obtain ⟨k1, g1⟩ := rep1.ok.laid (o := .xd [(fld, v)]) hd
  exact ⟨ρ1, _, ⟨x, some (fld, d)⟩, rep1.step g1 k1, ⟨C, hm, rfl, dd, v, rfl, upd_same, rv.mono g1.ff⟩, h1⟩
theorem qs_raise0 {m : Str} {j : Nat} {p2 : Pos} {bmB : List Value} {B newId initId : String} (hc : X.calm = true) (Fx : ExcBaseFacts B newId initId bmB) (q : PySem.W.excIn X.K C bmB newId = true) (hm : X.mg x = some (.ref C)) (kC : PySem.W.keepIn X.K (.ref C) = true) (rz : Raises X (.ref C)) (hg : Gl X x)
    (hdb : (x == ("__debug__" : Str)) = false := by decide) : QS X T Z (.Raise (some (.Call (.Name x p) [.Constant (.str m) j p2] [] pos)) none pos2) (dRaise0 x) := by
  refine ⟨fun pins s σ H E I ⟨ρ, F, er, De, rep, tk, h, hn, hr2, hb, hc2⟩ => ?_⟩
  exact (ps_raise hc tk (pmk_own (p := p) (pos := pos) Fx q hm kC rz hg hdb)).run pins s σ H E I ⟨ρ, F, ⟨x, none⟩, rep, ⟨C, hm, rfl, rfl⟩, h⟩
end
/-! ### a caught error, known as an object -/
section
variable {X : Cx} {pins : List (Addr × Obj)} {σ : L2.St} {H : Hp} {s : Shared}
theorem inv_track {a : Addr} {o : HO} (I : Inv X pins σ H s) (na : H a = none) (n0 : X.s_0.heap.get? a = none) (nL : X.env.locals ≠ a) (nC : ∀ x c, X.env.cells.lookup x = some c → c ≠ a) (np : ∀ p ∈ X.pn ++ pins, p.1 ≠ a) (new : ObjOk X.prog X.w (upd H a o) s.heap a o) : Inv X pins σ (upd H a o) s where
  ok := I.ok
  os := I.os
  bare := I.bare
  base := ⟨fun b ob e n hb hx => I.base.keep b ob e n hb hx, fun b ob e n hb hx => I.base.slot b ob e n hb hx, fun b ob e n hx => by
    have hb : b ≠ a := fun z => by
      rw [z, n0] at e
      cases e
    rw [upd_ne hb]
    exact I.base.free b ob e n hx, I.base.there, fun b xs e => by
    have z := I.base.tups b xs e
    rw [upd_ne (ne_of_none z na)]
    exact z, fun b ob u e => by
    have z := I.base.frzs b ob u e
    rw [upd_ne (ne_of_none z na)]
    exact z, fun b ps e => by
    obtain ⟨more, z⟩ := I.base.tbls b ps e
    exact ⟨more, by rw [upd_ne (ne_of_none z na)]; exact z⟩⟩
  loc := I.loc
  cell := I.cell
  free := by
    rw [upd_ne nL]
    exact I.free
  freeC := fun y c e => by
    rw [upd_ne (nC y c e)]
    exact I.freeC y c e
  pin := fun p hp => by
    obtain ⟨h1, h2, h3⟩ := I.pin p hp
    exact ⟨h1, by rw [upd_ne (np p hp)]; exact h2, h3⟩
  hok := fun b ob e => by
    by_cases hb : b = a
    · subst hb
      rw [upd_same] at e
      cases e
      exact new
    · rw [upd_ne hb] at e
      exact (I.hok b ob e).stay (fun _ _ _ q => q) (fun c q => by rw [upd_ne (ne_of_none q na)]; exact q) fun c xs q => by rw [upd_ne (ne_of_none q na)]; exact q
  len := I.len
theorem excO_ok {P : Program} {w : World} {h : Heap} {a C : Addr} {dd : Option Addr} {oe : Obj} {vs : Array Value} (e : h.get? a = some oe) (z : Zc (.ref C) dd oe) (d : oe.data = .fields vs) : ObjOk P w H h a (ExcO a C dd) :=
  ⟨⟨oe, vs, e, z.1, z.2, d⟩, ⟨oe, e⟩, fun h1 h2 ⟨o, ws, a1, a2⟩ st => ⟨o, ws, st _ a1, a2⟩⟩
end
def wKp (K : PySem.W.Frag) (N : Nat) (c : Value) (i j : Nat) (D : Ends) : WX := fun cls d σ H => PySem.W.exmOne K cls c = some true ∧ ∃ C, cls = .ref C ∧ ∀ a, H a = none → σ.length = N → D.nx (((σ.set i (some (.ref a))).set j (some (.ref a))).set i none) (upd H a (ExcO a C d))
section
variable {X : Cx} {x n y : Str} {c : Value} {i j : Nat} {body : List Stmt} {np np2 yp ap pos pos' : Pos} {tb : WX → TS}
theorem ps_keep (hex : X.ex = []) (hs : X.stack = X.env :: X.outer) (hf : X.env.frame = some X.env.locals) (hN : X.N.Nodup) (hi : X.N[i]? = some n) (hj : X.N[j]? = some y) (hln : X.env.kindOf n = some .local) (hly : X.env.kindOf y = some .local) (hc : Names X x c) (hnd : (n == ("__debug__" : Str)) = false) (hnc : (n == ("__classdict__" : Str)) = false)
    (hsw : swapsWith (.Name n np2) (some (.Name y yp)) ap.line X.env = pure false)
    (hb : ∀ (W : WX) (pn : List (Addr × Obj)) (xe : Value → Shared → Prop), Takes (X.tr pn xe) W → PassesOwn (model X.prog X.w) X.A X.env xe → PSs (X.tr pn xe) body (tb W)) :
    PS X (.Try body [.ExceptHandler (some (.Name x np)) (some n) [.Assign [.Name y yp] (.Name n np2) ap] pos'] [] [] pos) (fun D σ H => tb (wKp X.K X.N.length c i j D) D σ H) := by
  constructor
  intro pins s σ H D I h
  have ok := I.ok
  have frs_ : X.A.frames = some (X.env :: X.outer) := ok.frames.trans (congrArg some hs)
  apply wpAny_Try_except
  refine wpAny_mono ((hb (wKp X.K X.N.length c i j D) (X.pn ++ pins) (fun e t₁ => wpAny (model X.prog X.w) X.A (noteFrame e X.env) (fun _ t₂ => wpAny (model X.prog X.w) X.A (setFlight e none) (fun _ t₃ =>
    wpAny (model X.prog X.w) X.A (handleBy e X.env [.ExceptHandler (some (.Name x np)) (some n) [.Assign [.Name y yp] (.Name n np2) ap] pos']) (SP X pins D) X.xe t₃) X.xe t₂) X.xe t₁) (fun u t xx => ?_) PassesOwn.looking).run [] s σ H D (I.toTry _) h) (fun f s1 hsp => ?_) (fun e s1 he => he)
  · obtain ⟨a, B, sI, pI, σ', H', cls, d, rfl, J', nb, up, sky, na, os, ag, hm, C, rfl, hnx⟩ := xx
    have J : Inv X pins σ' H' sI := J'.ofTry ok
    have sky' : Sky B (X.env :: X.outer) a (Zc (.ref C) d) X.env.locals t.heap := hs ▸ sky
    show wpAny (model X.prog X.w) X.A (noteFrame (.ref a) X.env) _ _ _
    refine Sky.land Zc.steady frs_ hf sky' fun h3 fl3 up3 => ?_
    have J3 : Inv X pins σ' H' { t with heap := h3 } := J.landed nb fl3.1 (up.trans up3) os ag
    obtain ⟨oe3, vs3, he3, hz3, hd3⟩ := fl3.there
    have nfr : a ∉ frs (X.env :: X.outer) := fun hin => by
      obtain ⟨_, o', e', hnf⟩ := fl3.2.2.1.mem hin
      rw [he3] at e'
      cases e'
      exact hnf _ hd3
    have nL : a ≠ X.env.locals := fun z => nfr (List.mem_filterMap.mpr ⟨X.env, List.mem_cons_self, by rw [hf, z]⟩)
    have nF : a ∉ X.fs := fun hin => by
      obtain ⟨e, he, q⟩ := List.mem_filterMap.mp hin
      exact nfr (List.mem_filterMap.mpr ⟨e, List.mem_cons_of_mem _ he, q⟩)
    have nI : sI.heap.get? a = none := by
      cases q : sI.heap.get? a with
      | none => rfl
      | some o =>
        have z := nb a o q (hs ▸ nfr)
        rw [fl3.2.1] at z
        cases z
    have n0 : X.s_0.heap.get? a = none := by
      cases q : X.s_0.heap.get? a with
      | none => rfl
      | some o =>
        obtain ⟨o', z⟩ := J.base.there a o q (by rw [hex]; exact fun z => nomatch z)
        rw [nI] at z
        cases z
    have np_ : ∀ p ∈ X.pn ++ pins, p.1 ≠ a := fun p hp z => by
      have q := (J.pin p hp).1
      rw [z, nI] at q
      cases q
    refine wpAny_handleBy_cons (codeAny_handlers_test ?_) (by intro q; cases q)
    have LT : PySem.W.Looks (model X.prog X.w) h3 (typeOf (.ref a)) (.ref C) := fun A Q E s k q => wpAny_typeOf_ref (k _ _ he3) (by rw [hz3.1]; exact q)
    have LM := PySem.W.exm_one (M := model X.prog X.w) (J3.kIn) LT hm
    have S3 := J3.suite he3 hd3 na nL nF
    have test : ∀ {Q : Value → Shared → Prop} {E : Value → Shared → Prop}, Q c { t with heap := h3 } → wpAny (model X.prog X.w) (X.A.mark (some (.ref a))) (eval (.Name x np) X.env) Q E { t with heap := h3 } := fun {Q E} q => by
      obtain ⟨hg, hdbg, z | ⟨z, hv, hnn⟩⟩ := hc
      · exact ld_glob (X := X.suite a ((a, oe3) :: (X.pn ++ pins))) S3 hg z q hdbg
      · exact ld_blt (X := X.suite a ((a, oe3) :: (X.pn ++ pins))) S3 hg z hv q hnn hdbg
    refine test (LM.here (codeAny_handlers_suite_as ?_))
    refine HandSPX.lands_againZ fl3 fun h4 fl4 up4 => ?_
    have J4 : Inv X pins σ' H' { t with heap := h4 } := J.landed nb fl4.1 ((up.trans up3).trans up4) os ag
    obtain ⟨oe4, vs4, he4, hz4, hd4⟩ := fl4.there
    have S4 := J4.suite he4 hd4 na nL nF
    refine store_ok (X := X.suite a ((a, oe4) :: (X.pn ++ pins))) (v := .ref a) S4 hN hi (.inl hln) rfl (fun s5 S5 => ?_) (.inr hln)
    have hil : i < σ'.length := by
      rw [J.len]
      exact (List.getElem?_eq_some_iff.mp hi).1
    have st := ps_set (X := X.suite a ((a, oe4) :: (X.pn ++ pins))) (pos := ap) (pos' := yp) hN hj (.inl hly) (pe_var (X := X.suite a ((a, oe4) :: (X.pn ++ pins))) (pos := np2) (i := i) hi (.inl hln) hnd hnc) (hf := .inr hly) hsw
    refine wpAny_mono ((pss_one st).run [] s5 _ H' { nx := fun σ6 H6 => σ6 = (σ'.set i (some (.ref a))).set j (some (.ref a)) ∧ H6 = H', rt := fun _ _ => False, bk := fun _ _ => False, ct := fun _ _ => False } S5 ⟨.ref a, List.getElem?_set_self hil, rfl, rfl⟩) (fun f s6 hsp => ?_) (fun _ _ z => False.elim z)
    cases f with
    | next =>
      obtain ⟨σ6, H6, S6, e6, e7⟩ := hsp
      subst e6 e7
      have at6 : s6.heap.get? a = some oe4 := (S6.pin (a, oe4) (List.mem_append_left _ List.mem_cons_self)).1
      have J6 := S6.unsuite ok
      have J7 := inv_track (o := ExcO a C d) J6 na n0 (Ne.symm nL) (fun y c e z => by
        obtain ⟨v, o, a1, a2⟩ := J6.cell y c e
        rw [z, at6] at a1
        cases a1
        rw [hd4] at a2
        cases a2) np_ (excO_ok at6 hz4 hd4)
      exact gone_ok J7 hN hi hln fun s7 J8 => ⟨_, _, J8, hnx a na J.len⟩
    | brk =>
      obtain ⟨_, _, _, z⟩ := hsp
      exact z.elim
    | cont =>
      obtain ⟨_, _, _, z⟩ := hsp
      exact z.elim
    | ret u =>
      obtain ⟨_, _, _, _, _, z⟩ := hsp
      exact z.elim
  · cases f with
    | next =>
      obtain ⟨σ', H', J', q⟩ := hsp
      exact wpAny_execs_nil ⟨σ', H', J'.ofTry ok, q⟩
    | ret u =>
      obtain ⟨v, σ', H', J', r, q⟩ := hsp
      exact ⟨v, σ', H', J'.ofTry ok, r, q⟩
    | _ =>
      obtain ⟨σ', H', J', q⟩ := hsp
      exact ⟨σ', H', J'.ofTry ok, q⟩
end
end DL
set_option Elab.async false
set_option linter.all false
set_option maxRecDepth 100000
set_option maxHeartbeats 2000000
namespace DL
open PySem PySem.Spec PyProof.Rows L2
/-! ### try: work() except E as n: y = n -/
/-- the classes that are caught -/
def CatOk (K : PySem.W.Frag) (mg : Mg) (c : Value) (cat : Str → Prop) : Prop := ∀ x C, cat x → mg x = some (.ref C) → PySem.W.exmOne K (.ref C) c = some true
def dKeep (N i j : Nat) (cat : Str → Prop) (ts : DTS) : DTS := fun ρ E er => ts (ρ.map noOwn) E fun e => cat e.cls ∧ E.nx ((List.replicate N none).set j (some (.d (.exc e.cls e.fld))))
section
variable {X : Cx} {T : List (Addr × Str)} {Z : Zx} {x n y : Str} {c : Value} {i j : Nat} {body : List Stmt} {np np2 yp ap pos pos' : Pos} {ts : DTS} {cat : Str → Prop}
theorem exc_rp {K : PySem.W.Frag} {mg : Mg} {F : Hp} {a C : Addr} {dd : Option Addr} {e : Er} (h : ErAt K mg F (.ref C) dd e) (na : F a = none) : Rp K mg (upd F a (ExcO a C dd)) (.ref a) (.exc e.cls e.fld) := by
  obtain ⟨C', h1, h2, h3⟩ := h
  cases h2
  obtain ⟨cl, f⟩ := e
  cases f with
  | none =>
    cases h3
    exact .exc0 h1 upd_same
  | some f =>
    obtain ⟨f, d⟩ := f
    obtain ⟨d', v, e1, e2, e3⟩ := h3
    subst e1
    exact .exc h1 upd_same ((upd_ne (ne_of_none e2 na)).trans e2) (e3.mono (Fx.new na))
theorem Rep.unbase {K : PySem.W.Frag} {mg : Mg} {ρ ρ' : DEnv} {F H F' H' : Hp} {σ σ' : L2.St} (r : Rep K mg T Z ρ F σ H) (r' : Rep K mg T ⟨Z.dr, F, H⟩ ρ' F' σ' H') : Rep K mg T Z ρ' F' σ' H' where
  len := r'.len
  ok := r'.ok
  gr := r.gr.trans r'.gr r'.ok.ntb
  dat := r'.dat
  drs := r'.drs
  own := fun i c e => by
    obtain ⟨p, h1, h2, h3, h4, h5⟩ := r'.own i c e
    refine ⟨p, h1, h2, h3, ?_, h5⟩
    cases q : Z.H0 p with
    | none => rfl
    | some o =>
      have z := r.gr.hh p o q h5
      rw [show H p = none from h4] at z
      cases z
  lam := r'.lam
  dis := r'.dis
theorem qs_keep (hex : X.ex = []) (hs : X.stack = X.env :: X.outer) (hf : X.env.frame = some X.env.locals) (hN : X.N.Nodup) (hi : X.N[i]? = some n) (hj : X.N[j]? = some y) (hij : i ≠ j) (hln : X.env.kindOf n = some .local) (hly : X.env.kindOf y = some .local) (hc : Names X x c) (hct : CatOk X.K X.mg c cat) (hlen : X.N.length = N)
    (hb : ∀ (pn : List (Addr × Obj)) (xe : Value → Shared → Prop) (Z : Zx), PassesOwn (model X.prog X.w) X.A X.env xe → QSs (X.tr pn xe) T Z body ts) (hnd : (n == ("__debug__" : Str)) = false := by decide) (hnc : (n == ("__classdict__" : Str)) = false := by decide)
    (hsw : swapsWith (.Name n np2) (some (.Name y yp)) ap.line X.env = pure false := by rfl) : QS X T Z (.Try body [.ExceptHandler (some (.Name x np)) (some n) [.Assign [.Name y yp] (.Name n np2) ap] pos'] [] [] pos) (dKeep N i j cat ts) := by
  constructor
  rintro pins s σ H E I ⟨ρ, F, er, De, rep, tk, h, hn, hr, hbk, hct2⟩
  refine (ps_keep (tb := fun W E σ H => ∃ ρ F er De, Rep X.K X.mg T ⟨Z.dr, F, H⟩ ρ F σ H ∧ (∀ cls dd σ' H', Wer X.K X.mg T ⟨Z.dr, F, H⟩ er cls dd σ' H' → W cls dd σ' H') ∧ ts ρ De er ∧
      (∀ σ' H' F' ρ', Fx F F' → Rep X.K X.mg T ⟨Z.dr, F, H⟩ ρ' F' σ' H' → De.nx ρ' → E.nx σ' H') ∧ (∀ v σ' H' F' ρ' d, Fx F F' → Rep X.K X.mg T ⟨Z.dr, F, H⟩ ρ' F' σ' H' → Rp X.K X.mg F' v d → De.rt d → E.rt v H') ∧
      (∀ σ' H' F' ρ', Fx F F' → Rep X.K X.mg T ⟨Z.dr, F, H⟩ ρ' F' σ' H' → De.bk ρ' → E.bk σ' H') ∧ (∀ σ' H' F' ρ', Fx F F' → Rep X.K X.mg T ⟨Z.dr, F, H⟩ ρ' F' σ' H' → De.ct ρ' → E.ct σ' H'))
    hex hs hf hN hi hj hln hly hc hnd hnc hsw fun W pn xe tk po => ⟨fun pins s σ H E I ⟨ρ, F, er, De, rep, hW, h, hn, hr, hbk, hct⟩ => (hb pn xe ⟨Z.dr, F, H⟩ po).run pins s σ H E I ⟨ρ, F, er, De, rep, tk.imp hW, h, hn, hr, hbk, hct⟩⟩).run pins s σ H E I ?_
  refine ⟨ρ.map noOwn, F, _, De, rep.rebase, ?_, h, fun σ' H' F' ρ' e r' => hn σ' H' F' ρ' e (rep.unbase r'), fun v σ' H' F' ρ' d e r' => hr v σ' H' F' ρ' d e (rep.unbase r'), fun σ' H' F' ρ' e r' => hbk σ' H' F' ρ' e (rep.unbase r'), fun σ' H' F' ρ' e r' => hct2 σ' H' F' ρ' e (rep.unbase r')⟩
  rintro cls dd σ' H' ⟨ρ', F', e, rep', ea, hcat, hnx⟩
  obtain ⟨C, h1, h2, h3⟩ := id ea
  subst h2
  refine ⟨hct _ _ hcat h1, C, rfl, fun a na hl => ?_⟩
  obtain ⟨k1, g1⟩ := rep'.ok.laid (o := ExcO a C dd) na
  have nF : F' a = none := by
    cases q : F' a with
    | none => rfl
    | some o =>
      rw [rep'.ok.sub a o q] at na
      cases na
  have r1 := (rep.unbase rep').step g1 k1
  have r2 : Rep X.K X.mg T Z (List.replicate N none) (upd F' a (ExcO a C dd)) ((σ'.set i (some (.ref a))).set i none) (upd H' a (ExcO a C dd)) := r1.forget (by rw [List.length_replicate, List.length_set, List.length_set, hl, hlen]) fun i x e => by
    rw [List.getElem?_replicate] at e
    split at e <;> cases e
  have r3 := r2.set (i := j) (exc_rp ea nF)
  have es : ((σ'.set i (some (.ref a))).set j (some (.ref a))).set i none = ((σ'.set i (some (.ref a))).set i none).set j (some (.ref a)) := List.set_comm _ _ hij.symm
  rw [es]
  exact hn _ _ _ _ (rep'.gr.ff.trans (Fx.new nF)) r3 hnx
end
/-! ### a caught error asked -/
/-- what a class of errors must have for its instances to be asked -/
structure XOk (K : PySem.W.Frag) (C : Addr) : Prop where
  ga : PySem.W.findIn K (.ref C) "__getattribute__" = some (some (.builtin "BaseException.__getattribute__"))
  gg : PySem.W.findIn K (.ref C) "__getattr__" = some none
  exC : PySem.W.subIn K (.ref C) (.type "BaseException") = some true
  tyC : PySem.W.typeIn K (.ref C) = some (.type "type")
  hdC : PySem.W.hasDictIn K C = true
  cl : (PySem.W.clsIn K C).isSome = true
  ca : PySem.W.findIn K (.ref C) "__class__" = some (some (.builtin "object.__class__"))
  gn : PySem.W.specialIn K (.builtin "object.__class__") "__get__" = some (some (.builtin "getset_descriptor.__get__"))
  tk : PySem.W.takesIn K (.builtin "object.__class__") = some true
  ob : PySem.W.mroIn K C (.type "object") = some true
  kp : PySem.W.keepIn K (.ref C) = true
def xOkB (K : PySem.W.Frag) (C : Addr) : Bool := decide (PySem.W.findIn K (.ref C) "__getattribute__" = some (some (.builtin "BaseException.__getattribute__"))) && (decide (PySem.W.findIn K (.ref C) "__getattr__" = some none) && (decide (PySem.W.subIn K (.ref C) (.type "BaseException") = some true) &&
  (decide (PySem.W.typeIn K (.ref C) = some (.type "type")) && (PySem.W.hasDictIn K C && ((PySem.W.clsIn K C).isSome && (decide (PySem.W.findIn K (.ref C) "__class__" = some (some (.builtin "object.__class__"))) &&
  (decide (PySem.W.specialIn K (.builtin "object.__class__") "__get__" = some (some (.builtin "getset_descriptor.__get__"))) && (decide (PySem.W.takesIn K (.builtin "object.__class__") = some true) && (decide (PySem.W.mroIn K C (.type "object") = some true) && PySem.W.keepIn K (.ref C))))))))))
theorem xOk_by {K : PySem.W.Frag} {C : Addr} (h : xOkB K C = true) : XOk K C := by
  unfold xOkB at h
  simp only [Bool.and_eq_true, decide_eq_true_eq] at h
  obtain ⟨h1, h2, h3, h4, h5, h6, h7, h8, h9, h10, h11⟩ := h
  exact ⟨h1, h2, h3, h4, h5, h6, h7, h8, h9, h10, h11⟩
section
variable {X : Cx}
theorem xinst {P : Program} {w : World} {H : Hp} {h : Heap} {a C : Addr} {dd : Option Addr} (k : HOk P w H h) (ha : H a = some (ExcO a C dd)) (hd : ∀ d, dd = some d → ∃ fs, H d = some (.xd fs)) : ∃ oe od, PySem.W.InstAt h a oe C od ∧ ∃ vs, oe.data = .fields vs := by
  obtain ⟨⟨oe, vs, a1, a2, a3, a4⟩, _, _⟩ := k a _ ha
  cases dd with
  | none => exact ⟨oe, none, ⟨a1, a2, by unfold PySem.W.notCls; rw [a4] <;> rfl, by rw [a3]; trivial⟩, vs, a4⟩
  | some d =>
    obtain ⟨fs, hfs⟩ := hd d rfl
    obtain ⟨mA, hns, _⟩ := (show ObjOk P w H h d (.xd fs) from k d _ hfs)
    obtain ⟨od, ho, _⟩ := lookIn_ns hns
    exact ⟨oe, some od, ⟨a1, a2, by unfold PySem.W.notCls; rw [a4] <;> rfl, by rw [a3]; exact ho⟩, vs, a4⟩
def rIsiX (K : PySem.W.Frag) : List V → Hp → VK → Prop := fun xs H Q => ∃ (a C : Addr) (dd : Option Addr) (c : V) (u : Value) (b : Bool), xs = [.ref a, c] ∧ H a = some (ExcO a C dd) ∧ (∀ d, dd = some d → ∃ fs, H d = some (.xd fs)) ∧ XOk K C ∧ ClsV c u ∧ PySem.W.kitOne K (.ref C) u = some b ∧ Q (.bl b) H
theorem call_isiX : CallR X (.builtin "isinstance") (rIsiX X.K) := by
  intro pins s σ H xs us Q I r h
  obtain ⟨a, C, dd, c, u, b, rfl, ha, hd, xo, k, e, q⟩ := h
  obtain ⟨u1, u2, rfl, r1, r2⟩ := vals2 r
  have e2 := k.eq r2
  subst e2
  obtain rfl : u1 = Value.ref a := r1
  obtain ⟨oe, od, J, _⟩ := xinst I.hok ha hd
  exact PySem.W.kia_one (PySem.W.kitx_exc (ox := oe) (od := od) xo.cl xo.ga xo.gg xo.exC xo.ca xo.gn xo.tk xo.ob) I.kIn J e (fun z => nomatch z) fun tk => ⟨.bl b, H, I.tok tk, rfl, q⟩
/-! isinstance over data -/
def tyD : D → Option String
  | .non => some "NoneType"
  | .bl _ => some "bool"
  | .int _ => some "int"
  | .str _ => some "str"
  | .lst _ => some "list"
  | .tup _ => some "tuple"
  | .scr _ => some "list"
  | .dic _ => some "dict"
  | _ => none
/-- for which classes of errors an answer is known: is one of the first one of the second; what is no error is one of none -/
structure XTab (K : PySem.W.Frag) (mg : Mg) (sub : Str → Str → Option Bool) (non : Str → Prop) : Prop where
  err : ∀ x y b, sub x y = some b → ∃ C Y, mg x = some (.ref C) ∧ mg y = some (.ref Y) ∧ XOk K C ∧ PySem.W.kitOne K (.ref C) (.ref Y) = some b
  no : ∀ y, non y → ∃ Y, mg y = some (.ref Y) ∧ ∀ t ∈ ["NoneType", "bool", "int", "str", "list", "tuple", "dict"], PySem.W.kitOne K (.type t) (.ref Y) = some false
def gIsi (sub : Str → Str → Option Bool) (non : Str → Prop) : List D → (D → Prop) → Prop
  | [d, .ty c], R => match tyD d with
    | some t => ∃ b, kitB t c = some b ∧ R (.bl b)
    | none => False
  | [.exc x _, .fn y], R => match sub x y with
    | some b => R (.bl b)
    | none => False
  | [d, .fn y], R => match tyD d with
    | some _ => non y ∧ R (.bl false)
    | none => False
  | _, _ => False
theorem Rp.ty_ {K : PySem.W.Frag} {mg : Mg} {F H : Hp} {v : V} {d : D} {t : String} (s : Fx F H) (r : Rp K mg F v d) (h : tyD d = some t) : TyX K H v (.type t) := by
  cases r with
  | non => cases h; exact .base .non
  | bl b => cases h; exact .base (.bl b)
  | int b => cases h; exact .base (.int b)
  | str b => cases h; exact .base (.str b)
  | lst h1 h2 => cases h; exact .base (.lst (s _ _ h1))
  | tup h1 h2 =>
    cases h
    rcases h1 with (h1 | ⟨o, h1⟩) | h1
    · exact .base (.tup (s _ _ h1))
    · exact .fTuple (s _ _ h1)
    · obtain ⟨o, its, n, e, c, _⟩ := h1
      exact .kTuple e c
  | scr h1 h2 =>
    cases h
    rcases h1 with (h1 | ⟨o, h1⟩) | h1
    · exact .base (.lst (s _ _ h1))
    · exact .base (.frz (s _ _ h1))
    · obtain ⟨o, its, n, e, c, _⟩ := h1
      exact .kList e c
  | dic h1 h2 => cases h; exact .base (.dK (s _ _ h1))
  | _ => cases h
variable {T : List (Addr × Str)} {Z : Zx} {a : PySem.Expr} {ta : DTA} {es : List PySem.Expr} {p pos : Pos} {sub : Str → Str → Option Bool} {non : Str → Prop}
theorem okB_isi (t : XTab X.K X.mg sub non) : OkB X T (fun xs H Q => rIsi X.K xs H Q ∨ rIsiX X.K xs H Q) (gIsi sub non) := okB_at fun dr F H vs ds R k rv h => by
  unfold gIsi at h
  split at h
  · rename_i d c
    obtain ⟨v, w, rfl, r1, r2⟩ := rv.two
    cases r2
    split at h
    · rename_i ty hty
      obtain ⟨b, hb, hR⟩ := h
      exact ⟨_, _, .bl b, hR, fun Q q => .inl ⟨v, .ty c, .type ty, .type c, b, rfl, .ty c, r1.ty_ k.sub hty, kit_ty hb, q⟩⟩
    · exact h.elim
  · rename_i x f y
    obtain ⟨v, w, rfl, r1, r2⟩ := rv.two
    split at h
    · rename_i b hb
      obtain ⟨C, Y, h1, h2, h3, h4⟩ := t.err x y b hb
      cases r2 with
      | fn q =>
        rw [h2] at q
        cases q
        cases r1 with
        | exc0 e1 e2 =>
          rw [h1] at e1
          cases e1
          exact ⟨_, _, .bl b, h, fun Q q => .inr ⟨_, C, none, _, _, b, rfl, k.sub _ _ e2, (fun d z => nomatch z), h3, .own Y, h4, q⟩⟩
        | exc e1 e2 e3 e4 =>
          rw [h1] at e1
          cases e1
          exact ⟨_, _, .bl b, h, fun Q q => .inr ⟨_, C, some _, _, _, b, rfl, k.sub _ _ e2, (fun d z => by cases z; exact ⟨_, k.sub _ _ e3⟩), h3, .own Y, h4, q⟩⟩
    · exact h.elim
  · rename_i d y _
    obtain ⟨v, w, rfl, r1, r2⟩ := rv.two
    split at h
    · rename_i ty hty
      obtain ⟨Y, h1, h2⟩ := t.no y h.1
      cases r2 with
      | fn q =>
        rw [h1] at q
        cases q
        have hm : ty ∈ ["NoneType", "bool", "int", "str", "list", "tuple", "dict"] := by
          cases d <;> first | (cases hty; simp; done) | cases hty
        exact ⟨_, _, .bl false, h.2, fun Q q => .inl ⟨v, .ref Y, .type ty, .ref Y, false, rfl, .own Y, r1.ty_ k.sub hty, h2 ty hm, q⟩⟩
    · exact h.elim
  · exact h.elim
theorem qe_isi (t : XTab X.K X.mg sub non) (hg : Gl X "isinstance") (hm : X.mg "isinstance" = none) (ha : QA X T Z (a :: es) ta)
    (he : starEach (a :: es) X.env = (false, eval a X.env) :: starEach es X.env := by rfl) (hpl : (backTo pos (starEach es X.env)).any (·.1) = false := by rfl) : QE X T Z (.Call (.Name "isinstance" p) (a :: es) [] pos) (dB (gIsi sub non) ta) :=
  qe_B (call_isi.or call_isiX) (okB_isi t) (by decide +kernel) hg hm ha (by decide) (by decide) he hpl
/-- the name of a built-in class, as a value -/
theorem qe_tyN {n : Str} {C : String} (hv : bootBuiltins n = some (.type C)) (hg : Gl X n) (hm : X.mg n = none) (hn : n ≠ "__name__" := by decide) (hd : (n == ("__debug__" : Str)) = false := by decide) : QE X T Z (.Name n pos) (dC (.ty C)) := qe_c (pe_bltn hg hm hv (v := .ty C) rfl hn hd) fun _ => .ty C
/-! ### the field of an error -/
def dFld (ok : Str → Prop) (f : Str) (te : DTE) : DTE := fun ρ R er => te ρ (fun d ρ1 => match d with
  | .exc x (some (g, v)) => ok x ∧ g = f ∧ R v ρ1
  | _ => False) er
theorem qe_fld {f : Str} {e : PySem.Expr} {te : DTE} (hx : ∀ x C, X.mg x = some (.ref C) → non x → XOk X.K C ∧ PySem.W.findIn X.K (.ref C) f = some none) (he : QE X T Z e te) (hb : attributeBase e f X.env (eval e X.env) = eval e X.env := by rfl) :
    QE X T Z (.Attribute e f pos) (dFld non f te) := by
  constructor
  rintro pins s σ H Q I ⟨ρ, F, er, R, rep, tk, h, hk⟩
  refine attr_of hb (thn (he.run pins s σ H (fun v H1 => ∃ F1 ρ1 d, Fx F F1 ∧ Rep X.K X.mg T Z ρ1 F1 σ H1 ∧ Rp X.K X.mg F1 v d ∧ (match d with
      | .exc x (some (g, v)) => non x ∧ g = f ∧ R v ρ1
      | _ => False)) I ⟨ρ, F, er, _, rep, tk, h, fun v H1 F1 d ρ1 e1 rep1 rv h1 => ⟨F1, ρ1, d, e1, rep1, rv, h1⟩⟩) fun u s1 hh => ?_)
  obtain ⟨v, H1, I1, ru, F1, ρ1, d, e1, rep1, rv, h1⟩ := hh
  cases rv with
  | exc m1 m2 m3 m4 =>
    rename_i a C dd x g w d'
    obtain ⟨hn, rfl, hR⟩ := h1
    obtain ⟨xo, hno⟩ := hx x C m1 hn
    obtain rfl : u = Value.ref a := ru
    have k := I1.hok
    obtain ⟨⟨oe, vs, a1, a2, a3, a4⟩, _, _⟩ := k a _ (rep1.ok.sub _ _ m2)
    obtain ⟨mA, hns, hr⟩ := (show ObjOk X.prog X.w H1 s1.heap dd (.xd [(g, w)]) from k dd _ (rep1.ok.sub _ _ m3))
    obtain ⟨od, ho, hl⟩ := lookIn_ns hns
    have lk : List.lookup g [(g, w)] = some w := by
      rw [List.lookup_cons, beq_self_eq_true]
    obtain ⟨u, hu, ru⟩ := RelO.some_of (v := w) (o := mA g) (by rw [← lk]; exact hr g)
    have J : PySem.W.InstAt s1.heap a oe C (some od) := ⟨a1, a2, by unfold PySem.W.notCls; rw [a4] <;> rfl, by rw [a3]; exact ho⟩
    exact HandSPX.exc_get I1.kIn J xo.ga xo.gg xo.exC (PySem.W.findObj_own xo.hdC hno rfl (by rw [hl, hu])) (handed_of ru) ⟨w, H1, I1.tok _, ru, hk w H1 F1 d' ρ1 e1 rep1 m4 hR⟩
  | exc0 m1 m2 => exact h1.elim
  | _ => exact h1.elim
end
end DL
set_option Elab.async false
set_option linter.all false
set_option maxRecDepth 100000
set_option maxHeartbeats 2000000
namespace DL
open PySem PySem.Spec PyProof.Rows L2
/-! ### the draws, as a slot whose numbers are not told -/
abbrev drD (l c : Addr) (r t : Int) : List (Key × V) := [(.inr "large", .ref l), (.inr "rest", .int r), (.inr "cells", .ref c), (.inr "turn", .int t)]
theorem dr_large (l c : Addr) (r t : Int) : valV (drD l c r t) (.inr "large") = some (.ref l) := by rfl
theorem dr_rest (l c : Addr) (r t : Int) : valV (drD l c r t) (.inr "rest") = some (.int r) := by rfl
theorem dr_cells (l c : Addr) (r t : Int) : valV (drD l c r t) (.inr "cells") = some (.ref c) := by rfl
theorem dr_turn (l c : Addr) (r t : Int) : valV (drD l c r t) (.inr "turn") = some (.int t) := by rfl
theorem dr_put_rest (l c : Addr) (r t v : Int) : putK (drD l c r t) (.inr "rest") (.int v) = drD l c v t := by rfl
theorem dr_put_turn (l c : Addr) (r t v : Int) : putK (drD l c r t) (.inr "turn") (.int v) = drD l c r v := by rfl
theorem dg_large {H : Hp} {a l c : Addr} {r t : Int} (h : H a = some (.dK (drD l c r t))) : DGet H a (.str "large") (some (.ref l)) := DGet.k (k := .inr "large") h
theorem dg_rest {H : Hp} {a l c : Addr} {r t : Int} (h : H a = some (.dK (drD l c r t))) : DGet H a (.str "rest") (some (.int r)) := DGet.k (k := .inr "rest") h
theorem dg_cells {H : Hp} {a l c : Addr} {r t : Int} (h : H a = some (.dK (drD l c r t))) : DGet H a (.str "cells") (some (.ref c)) := DGet.k (k := .inr "cells") h
theorem dg_turn {H : Hp} {a l c : Addr} {r t : Int} (h : H a = some (.dK (drD l c r t))) : DGet H a (.str "turn") (some (.int t)) := DGet.k (k := .inr "turn") h
theorem line4 : 4 < sizeLine := by
  rw [sizeLine_eq]
  decide
theorem dp_rest {H : Hp} {a l c : Addr} {r t v : Int} (h : H a = some (.dK (drD l c r t))) : DPut H a (.str "rest") (.int v) (upd H a (.dK (drD l c v t))) := DPut.k (k := .inr "rest") h line4
theorem dp_turn {H : Hp} {a l c : Addr} {r t v : Int} (h : H a = some (.dK (drD l c r t))) : DPut H a (.str "turn") (.int v) (upd H a (.dK (drD l c r v))) := DPut.k (k := .inr "turn") h line4
/-- the numbers that may be read -/
def dDrwI (i : Nat) : DTE := fun ρ R er => ρ[i]? = some (some .drw) ∧ ∀ r : Int, 0 ≤ r → R (.int r) ρ
def dDrwC (i : Nat) : DTE := fun ρ R er => ρ[i]? = some (some .drw) ∧ ∀ ns : List Int, (∀ n ∈ ns, 0 ≤ n) → R (.lst (ns.map D.int)) ρ
def dDrwPop (i : Nat) (te : DTE) : DTE := fun ρ R er => ρ[i]? = some (some .drw) ∧ (∀ r : Int, 0 ≤ r → R (.int r) ρ) ∧ te ρ R er
def dDrwSet (i : Nat) (te : DTE) : DTS := fun ρ E er => te ρ (fun d ρ1 => match d with
  | .int v => 0 ≤ v ∧ ρ1[i]? = some (some .drw) ∧ E.nx ρ1
  | _ => False) er
section
variable {K : PySem.W.Frag} {mg : Mg} {T : List (Addr × Str)} {Z : Zx} {ρ : DEnv} {F H : Hp} {σ : L2.St}
theorem Rep.drwUpd (r : Rep K mg T Z ρ F σ H) {a l b : Addr} {o : HO} (hd : Z.dr = some (a, l)) (hb : b = a ∨ b = l) (ho : ∀ ps, o ≠ .tbl ps) (new : DrawAt K F (upd H b o) a l) : Rep K mg T Z ρ F σ (upd H b o) := by
  have am : Am T Z.dr b := .inr ⟨a, l, hd, hb⟩
  have nt : ∀ c u, H c = some u → (∀ xs, u ≠ .lst xs) → (∀ ks, u ≠ .dK ks) → c ≠ b := fun c u e h1 h2 z => by
    obtain ⟨cc, r, t, big, cells, e1, e2, _⟩ := (r.ok.drw a l hd).at_
    rcases hb with y | y
    · rw [z, y, e1] at e
      cases e
      exact h2 _ rfl
    · rw [z, y, e2] at e
      cases e
      exact h1 _ rfl
  refine ⟨r.len, ⟨fun c u e => ?_, r.ok.ntb, LamX_tabs_of r.ok.tabs fun c u e h1 h2 => ?_, fun a' l' e => ?_, r.ok.tbN ho⟩, ⟨fun c u e m => ?_, r.gr.ff, r.gr.new⟩, r.dat, r.drs, fun i c e => ?_, r.lam, r.dis⟩
  · have hc : c ≠ b := fun z => by
      rw [z, r.ok.ntb b am] at e
      cases e
    rw [upd_ne hc]
    exact r.ok.sub c u e
  · rw [upd_ne (nt c u e h1 h2)]
    exact e
  · rw [hd] at e
    cases e
    exact new
  · rw [upd_ne (show c ≠ b from fun z => m (by rw [z]; exact am))]
    exact r.gr.hh c u e m
  · obtain ⟨q, h1, h2, h3, h4, h5⟩ := r.own i c e
    exact ⟨q, h1, h2.mono (Fx.refl F) (upd_ne (show q ≠ b from fun z => h5 (by rw [z]; exact am))), h3, h4, h5⟩
end
section
variable {X : Cx} {T : List (Addr × Str)} {Z : Zx} {x : Str} {e : PySem.Expr} {te : DTE} {p1 p2 pos pos' : Pos} {j : Nat}
theorem qe_drest (i : Nat) (hu : X.A.units + 64 < cLine) (hN : X.N[i]? = some x := by rfl) (hv : Vis X.env.scope x := by first | exact Or.inl rfl | exact Or.inr (Or.inl rfl) | exact Or.inr (Or.inr rfl)) (hd : (x == ("__debug__" : Str)) = false := by decide) (hcd : (x == ("__classdict__" : Str)) = false := by decide) :
    QE X T Z (.Subscript (.Name x p1) (.Constant (.str "rest") j p2) pos) (dDrwI i) :=
  pe_imp (pe_dget (by omega) (pe_var (i := i) hN hv hd hcd) pe_str (fun _ _ => rfl)) fun σ H Q ⟨ρ, F, er, R, rep, tk, ⟨hi, h⟩, hk⟩ => by
    obtain ⟨a, l, hz, hs⟩ := rep.drs i hi
    obtain ⟨⟨c, r, t, big, cells, h1, h2, h3, h4, h5, h6⟩, ne⟩ := rep.ok.drw a l hz
    exact ⟨.ref a, hs, a, .int r, rfl, dg_rest h1, hk _ H F _ ρ (Fx.refl F) rep (.int r) (h r h4)⟩
theorem qe_dturn (i : Nat) (hu : X.A.units + 64 < cLine) (hN : X.N[i]? = some x := by rfl) (hv : Vis X.env.scope x := by first | exact Or.inl rfl | exact Or.inr (Or.inl rfl) | exact Or.inr (Or.inr rfl)) (hd : (x == ("__debug__" : Str)) = false := by decide) (hcd : (x == ("__classdict__" : Str)) = false := by decide) :
    QE X T Z (.Subscript (.Name x p1) (.Constant (.str "turn") j p2) pos) (dDrwI i) :=
  pe_imp (pe_dget (by omega) (pe_var (i := i) hN hv hd hcd) pe_str (fun _ _ => rfl)) fun σ H Q ⟨ρ, F, er, R, rep, tk, ⟨hi, h⟩, hk⟩ => by
    obtain ⟨a, l, hz, hs⟩ := rep.drs i hi
    obtain ⟨⟨c, r, t, big, cells, h1, h2, h3, h4, h5, h6⟩, ne⟩ := rep.ok.drw a l hz
    exact ⟨.ref a, hs, a, .int t, rfl, dg_turn h1, hk _ H F _ ρ (Fx.refl F) rep (.int t) (h t h5)⟩
theorem qe_dcells (i : Nat) (hu : X.A.units + 64 < cLine) (hN : X.N[i]? = some x := by rfl) (hv : Vis X.env.scope x := by first | exact Or.inl rfl | exact Or.inr (Or.inl rfl) | exact Or.inr (Or.inr rfl)) (hd : (x == ("__debug__" : Str)) = false := by decide) (hcd : (x == ("__classdict__" : Str)) = false := by decide) :
    QE X T Z (.Subscript (.Name x p1) (.Constant (.str "cells") j p2) pos) (dDrwC i) :=
  pe_imp (pe_dget (by omega) (pe_var (i := i) hN hv hd hcd) pe_str (fun _ _ => rfl)) fun σ H Q ⟨ρ, F, er, R, rep, tk, ⟨hi, h⟩, hk⟩ => by
    obtain ⟨a, l, hz, hs⟩ := rep.drs i hi
    obtain ⟨⟨c, r, t, big, cells, h1, h2, h3, h4, h5, h6, h7⟩, ne⟩ := rep.ok.drw a l hz
    exact ⟨.ref a, hs, a, .ref c, rfl, dg_cells h1, hk _ H F _ ρ (Fx.refl F) rep (.lst h3 (RpL.ofInts cells)) (h cells h7)⟩
theorem qs_drest (i : Nat) (hu : X.A.units + 64 < cLine) (h : QE X T Z e te) (hN : X.N[i]? = some x := by rfl) (hv : Vis X.env.scope x := by first | exact Or.inl rfl | exact Or.inr (Or.inl rfl) | exact Or.inr (Or.inr rfl)) (hd : (x == ("__debug__" : Str)) = false := by decide) (hcd : (x == ("__classdict__" : Str)) = false := by decide)
    (hs : swapsWith e (some (.Subscript (.Name x p1) (.Constant (.str "rest") j p2) pos')) pos.line X.env = pure false := by rfl) : QS X T Z (.Assign [.Subscript (.Name x p1) (.Constant (.str "rest") j p2) pos'] e pos) (dDrwSet i te) :=
  ps_imp (ps_dput (by omega) (pe_var (i := i) hN hv hd hcd) pe_str h hs) fun E σ H ⟨ρ, F, er, De, rep, tk, h, hn, hr, hb, hc⟩ => ⟨ρ, F, er, _, rep, tk, h, fun v H1 F1 d ρ1 e1 rep1 rv h1 => by
    cases rv <;> try exact h1.elim
    rename_i v
    obtain ⟨hv0, hi, hE⟩ := h1
    obtain ⟨a, l, hz, hs⟩ := rep1.drs i hi
    obtain ⟨⟨c, r, t, big, cells, h1, h2, h3, h4, h5, h6, h7⟩, ne⟩ := rep1.ok.drw a l hz
    exact ⟨.ref a, hs, a, _, rfl, dp_rest h1, hn σ _ F1 ρ1 e1 (rep1.drwUpd hz (.inl rfl) (fun _ z => nomatch z) ⟨⟨c, v, t, big, cells, upd_same, (upd_ne (Ne.symm ne)).trans h2, h3, hv0, h5, h6, h7⟩, ne⟩) hE⟩⟩
theorem qs_dturn (i : Nat) (hu : X.A.units + 64 < cLine) (h : QE X T Z e te) (hN : X.N[i]? = some x := by rfl) (hv : Vis X.env.scope x := by first | exact Or.inl rfl | exact Or.inr (Or.inl rfl) | exact Or.inr (Or.inr rfl)) (hd : (x == ("__debug__" : Str)) = false := by decide) (hcd : (x == ("__classdict__" : Str)) = false := by decide)
    (hs : swapsWith e (some (.Subscript (.Name x p1) (.Constant (.str "turn") j p2) pos')) pos.line X.env = pure false := by rfl) : QS X T Z (.Assign [.Subscript (.Name x p1) (.Constant (.str "turn") j p2) pos'] e pos) (dDrwSet i te) :=
  ps_imp (ps_dput (by omega) (pe_var (i := i) hN hv hd hcd) pe_str h hs) fun E σ H ⟨ρ, F, er, De, rep, tk, h, hn, hr, hb, hc⟩ => ⟨ρ, F, er, _, rep, tk, h, fun v H1 F1 d ρ1 e1 rep1 rv h1 => by
    cases rv <;> try exact h1.elim
    rename_i v
    obtain ⟨hv0, hi, hE⟩ := h1
    obtain ⟨a, l, hz, hs⟩ := rep1.drs i hi
    obtain ⟨⟨c, r, t, big, cells, h1, h2, h3, h4, h5, h6, h7⟩, ne⟩ := rep1.ok.drw a l hz
    exact ⟨.ref a, hs, a, _, rfl, dp_turn h1, hn σ _ F1 ρ1 e1 (rep1.drwUpd hz (.inl rfl) (fun _ z => nomatch z) ⟨⟨c, r, v, big, cells, upd_same, (upd_ne (Ne.symm ne)).trans h2, h3, h4, hv0, h6, h7⟩, ne⟩) hE⟩⟩
theorem dps_ints {K : PySem.W.Frag} {H : Hp} : ∀ (ns : List Int), DpAll K H (ns.map V.int) (ns.map PyData.int)
  | [] => .nil
  | n :: ns => .cons (.int n) (dps_ints ns)
theorem shaped_ints : ∀ (ns : List Int), SeqAt.shaped (.list (ns.map PyData.int)) = true := fun ns => by
  have h1 : ∀ ns : List Int, PyData.canLayAll0 (ns.map PyData.int) = true := fun ns => by
    induction ns with
    | nil => rfl
    | cons n ns ih => exact ih
  have h2 : ∀ ns : List Int, PyData.depthAll (ns.map PyData.int) ≤ 1 := fun ns => by
    induction ns with
    | nil => simp [PyData.depthAll]
    | cons n ns ih => simp [PyData.depthAll, PyData.depth, ih]
  exact Bool.and_eq_true_iff.mpr ⟨h1 ns, decide_eq_true (by
    show PyData.depth (.list _) ≤ 64
    have := h2 ns
    simp only [PyData.depth]
    omega)⟩
theorem eqv_nil : ∀ (ns : List Int), PyData.eqv (.list (ns.map PyData.int)) (.list []) = ns.isEmpty
  | [] => rfl
  | _ :: _ => rfl
theorem qe_dpop (i : Nat) {p3 p4 p5 p6 p7 p8 p9 p10 p11 : Pos} {j2 j3 : Nat} (hu : X.A.units + 64 < cLine) (h : QE X T Z e te) (hN : X.N[i]? = some x := by rfl) (hv : Vis X.env.scope x := by first | exact Or.inl rfl | exact Or.inr (Or.inl rfl) | exact Or.inr (Or.inr rfl)) (hd : (x == ("__debug__" : Str)) = false := by decide) (hcd : (x == ("__classdict__" : Str)) = false := by decide)
    (hp : ∀ {o : PySem.Expr} {a : PySem.Expr} {to ta : TE}, PE X o to → PE X a ta → o = .Subscript (.Name x p1) (.Constant (.str "large") j p2) p3 → a = .Constant (.int 0) j2 p4 → PE X (.Call (.Attribute o "pop" p5) [a] [] p6) (tBM X.K "list" rPopAt to (tCons ta tNil))) :
    QE X T Z (.IfExp (.Compare (.Subscript (.Name x p7) (.Constant (.str "large") j3 p8) p9) [.NotEq] [.List [] p10] p11) (.Call (.Attribute (.Subscript (.Name x p1) (.Constant (.str "large") j p2) p3) "pop" p5) [.Constant (.int 0) j2 p4] [] p6) e pos) (dDrwPop i te) :=
  pe_imp (pe_ifExp (pt_cmpR (op_neD hu) (pe_dget (by omega) (pe_var (i := i) hN hv hd hcd) pe_str (fun _ _ => rfl)) (pe_lst pa_nil) (nomark _)) (hp (pe_dget (by omega) (pe_var (i := i) hN hv hd hcd) pe_str (fun _ _ => rfl)) pe_int rfl rfl) h) fun σ H Q ⟨ρ, F, er, R, rep, tk, ⟨hi, h1, h2⟩, hk⟩ => by
    obtain ⟨a, l, hz, hs⟩ := rep.drs i hi
    obtain ⟨⟨c, r, t, big, cells, a1, a2, a3, a4, a5, a6, a7⟩, ne⟩ := rep.ok.drw a l hz
    refine ⟨.ref a, hs, a, .ref l, rfl, dg_large a1, Nat.zero_le _, fun p hp => ?_⟩
    obtain ⟨k1, g1, f1⟩ := rep.ok.laidOwn (o := .lst []) hp
    have rep1 := rep.step g1 k1
    obtain ⟨⟨c, r, t, big, cells, b1, b2, b3, b4, b5, b6, b7⟩, ne⟩ := rep1.ok.drw a l hz
    refine ⟨_, _, .lst (SqL.of b2) (dps_ints big), .lst (SqL.of (show upd H p (.lst []) p = _ from upd_same)) .nil, shaped_ints big, rfl, ?_⟩
    rw [eqv_nil]
    refine ⟨_, rfl, ?_⟩
    cases big with
    | nil =>
      refine iteF ?_
      exact ⟨ρ, F, er, R, rep1, tk, h2, hk⟩
    | cons b bs =>
      refine iteT ?_
      refine ⟨.ref a, hs, a, .ref l, rfl, dg_large b1, .inl ⟨rfl, _, SqL.of b2⟩, l, _, 0, 0, .int b, rfl, rfl, b2, by decide, by decide, (by simp [seqIndex?]), rfl, ?_⟩
      exact hk _ _ F _ ρ (Fx.refl F) (rep1.drwUpd hz (.inr rfl) (fun _ z => nomatch z) ⟨⟨c, r, t, bs, cells, (upd_ne ne).trans b1, upd_same, b3, b4, b5, fun n hn => b6 n (List.mem_cons_of_mem _ hn), b7⟩, ne⟩) (.int b) (h1 b (b6 b List.mem_cons_self))
end
end DL
set_option Elab.async false
set_option linter.all false
set_option maxRecDepth 100000
set_option maxHeartbeats 2000000
namespace DL
open PySem PySem.Spec PyProof.Rows L2
/-! ### the draws begun -/
def tBeg (X : Cx) (T : List (Addr × Str)) (Z : Zx) (i : Nat) (tn : DTN) : TS := fun E σ H => ∃ ρ F er, Z.dr = none ∧ Rep X.K X.mg T Z ρ F σ H ∧ (∀ Z', Takes X (Wer X.K X.mg T Z' er)) ∧ (∃ big : List Int, ρ[i]? = some (some (.own (.lst (big.map D.int)))) ∧ ∀ b ∈ big, 0 ≤ b) ∧
  tn (ρ.map noOwn) (fun c _ => ∃ cells : List Int, c = .lst (cells.map D.int) ∧ ∀ b ∈ cells, 0 ≤ b) er ∧ (∀ a l H' F', Grw T none Z.F0 Z.H0 F' H' → FOk X.K T (some (a, l)) F' H' → Z.H0 a = none → Z.H0 l = none → E.rt (.ref a) H')
section
variable {X : Cx} {T : List (Addr × Str)} {Z : Zx} {x : Str} {e : PySem.Expr} {tn : DTN} {p1 p2 p3 p4 p5 p6 p7 pos pos2 : Pos} {j1 j2 j3 j4 j5 j6 : Nat}
theorem ps_begun (i : Nat) (hc : ∀ Z, QN X T Z e tn) (hN : X.N[i]? = some x := by rfl) (hv : Vis X.env.scope x := by first | exact Or.inl rfl | exact Or.inr (Or.inl rfl) | exact Or.inr (Or.inr rfl)) (hd : (x == ("__debug__" : Str)) = false := by decide) (hcd : (x == ("__classdict__" : Str)) = false := by decide) :
    PS X (.Return (some (.Dict [some (.Constant (.str "large") j1 p1), some (.Constant (.str "rest") j2 p2), some (.Constant (.str "cells") j3 p3), some (.Constant (.str "turn") j4 p4)] [.Name x p5, .Constant (.int 0) j5 p6, e, .Constant (.int 0) j6 p7] pos)) pos2) (tBeg X T Z i tn) := by
  refine ⟨fun pins s σ H E I ⟨ρ, F, er, hz, rep, tk, ⟨big, hbig, hb0⟩, h, hk⟩ => ?_⟩
  generalize hZ1 : (fun p : Addr => (⟨none, F, upd H p (.dK [])⟩ : Zx)) = Z1
  have key : PS X (.Return (some (.Dict [some (.Constant (.str "large") j1 p1), some (.Constant (.str "rest") j2 p2), some (.Constant (.str "cells") j3 p3), some (.Constant (.str "turn") j4 p4)] [.Name x p5, .Constant (.int 0) j5 p6, e, .Constant (.int 0) j6 p7] pos)) pos2)
      (tRet (tDisp [(tC (.str "large"), tVar i), (tC (.str "rest"), tC (.int 0)), (tC (.str "cells"), fun σ H Q => ∃ Z', upN X T Z' tn σ H Q), (tC (.str "turn"), tC (.int 0))])) :=
    ps_ret (pe_disp (pps_cons pe_str (pe_var hN hv hd hcd) (pps_cons pe_str pe_int (pps_cons pe_str ⟨fun pins s σ H Q I ⟨Z', u⟩ => (hc Z').run pins s σ H Q I u⟩ (pps_cons pe_str pe_int pps_nil)))) (by rfl) (by rfl) (fun z => by cases z) (by show 4 ≤ 15; decide))
  refine key.run pins s σ H E I fun p hp => ?_
  obtain ⟨l, hs, ⟨bx, hl, rbx⟩, fl, h0l, nAl⟩ := rep.own i _ hbig
  rw [hz] at nAl
  rw [RpL.ints rbx] at hl
  have dn : Z.dr = none := hz
  obtain ⟨k1, g1, fp⟩ := rep.ok.laidOwn (o := .dK []) hp
  have rep1 := (rep.step g1 k1).rebase
  rw [dn] at rep1 g1 k1
  have nAp : ¬ Am T none p := by
    have z := rep.ok.notAm hp
    rw [dn] at z
    exact z
  have lp : l ≠ p := ne_of_none hl hp
  refine ⟨.ref l, hs, ⟨none, F, upd H p (.dK [])⟩, _, F, er, _, rep1, tk _, h, fun c H2 F2 ow ρ2 e2 rep2 oa fc h0c nAc nOc hR => ?_⟩
  obtain ⟨cells, rfl, hc0⟩ := hR
  obtain ⟨cx, hcx, rcx⟩ := oa
  rw [RpL.ints rcx] at hcx
  have h0c : upd H p (.dK []) c = none := h0c
  have cp : c ≠ p := fun z => by
    rw [z, upd_same] at h0c
    cases h0c
  have cl : c ≠ l := fun z => by
    rw [z, upd_ne lp, hl] at h0c
    cases h0c
  have hHc : H c = none := by
    rw [upd_ne cp] at h0c
    exact h0c
  have at_p : H2 p = some (.dK []) := rep2.gr.hh p _ upd_same nAp
  have at_l : H2 l = some (.lst (big.map V.int)) := rep2.gr.hh l _ ((upd_ne lp).trans hl) nAl
  have f2p : F2 p = none := rep2.gr.un rep2.ok.sub (show upd H p (.dK []) p = some (.dK []) from upd_same) (fun _ z => nomatch z) nAp fp
  have f2l : F2 l = none := rep2.gr.un rep2.ok.sub (show upd H p (.dK []) l = some (.lst (big.map V.int)) from (upd_ne lp).trans hl) (fun _ z => nomatch z) nAl fl
  refine ⟨at_p, [(.inr "large", .ref l), (.inr "rest", .int 0), (.inr "cells", .ref c), (.inr "turn", .int 0)], rfl, (by show 4 ≤ 15; decide), ?_⟩
  show E.rt (.ref p) (upd H2 p (.dK (drD l c 0 0)))
  have g0 : Grw T none Z.F0 Z.H0 F H := by
    have z := rep.gr
    rw [dn] at z
    exact z
  have nH0 : ∀ {b}, H b = none → ¬ Am T none b → Z.H0 b = none := fun {b} hb na => by
    cases q : Z.H0 b with
    | none => rfl
    | some o =>
      have z := g0.hh b o q na
      rw [hb] at z
      cases z
  have x3 : Fx F2 (upd F2 c (.lst (cells.map V.int))) := Fx.new fc
  refine hk p l _ (upd F2 c (.lst (cells.map V.int))) ⟨fun b o q na => ?_, ?_, fun b o q => ?_⟩ ⟨fun b o q => ?_, fun b am => ?_, ?_, fun a l' q => ?_, fun b ps q => ?_⟩ (nH0 hp nAp) h0l
  · have bp : b ≠ p := fun z => by
      have y := g0.hh b o q na
      rw [z, hp] at y
      cases y
    rw [upd_ne bp]
    exact rep2.gr.hh b o ((upd_ne bp).trans (g0.hh b o q na)) na
  · exact g0.ff.trans (e2.trans x3)
  · by_cases hb : b = c
    · rw [hb]
      exact .inr (.inl (nH0 hHc nAc))
    · rw [upd_ne hb] at q
      rcases rep2.gr.new b o q with z | z | z
      · exact g0.new b o z
      · have z : upd H p (.dK []) b = none := z
        have bp : b ≠ p := fun y => by
          rw [y, upd_same] at z
          cases z
        rw [upd_ne bp] at z
        by_cases na : Am T none b
        · rw [rep2.ok.ntb b na] at q
          cases q
        · exact .inr (.inl (nH0 z na))
      · exact .inr (.inr z)
  · by_cases hb : b = c
    · rw [hb, upd_same] at q
      cases q
      rw [hb, upd_ne cp]
      exact hcx
    · rw [upd_ne hb] at q
      have bp : b ≠ p := fun y => by
        rw [y, f2p] at q
        cases q
      rw [upd_ne bp]
      exact rep2.ok.sub b o q
  · have bc : b ≠ c := fun y => by
      rcases am with ⟨q, hq⟩ | ⟨a, l', e', z⟩
      · exact nAc (.inl ⟨q, y ▸ hq⟩)
      · cases e'
        rcases z with z | z
        · exact cp (y.symm.trans z)
        · exact cl (y.symm.trans z)
    rw [upd_ne bc]
    rcases am with ⟨q, hq⟩ | ⟨a, l', e', z⟩
    · exact rep2.ok.ntb b (.inl ⟨q, hq⟩)
    · cases e'
      rcases z with z | z
      · rw [z]
        exact f2p
      · rw [z]
        exact f2l
  · refine LamX_tabs_of rep2.ok.tabs fun b u q n1 n2 => ?_
    have bp : b ≠ p := fun y => by
      rw [y, at_p] at q
      cases q
      exact n2 _ rfl
    rw [upd_ne bp]
    exact q
  · cases q
    exact ⟨⟨c, 0, 0, big, cells, upd_same, (upd_ne lp).trans at_l, upd_same, Int.le_refl 0, Int.le_refl 0, hb0, hc0⟩, Ne.symm lp⟩
  · exact rep2.ok.tbN (o := .dK (drD l c 0 0)) (fun _ z => nomatch z) b ps q
end
/-- the promise of the def that begins the draws -/
def SpB (K : PySem.W.Frag) (mg : Mg) (T : List (Addr × Str)) : Sp := fun vs H Q E => ∃ F v ns, vs = [v] ∧ ns.length ≤ 63 ∧ FOk K T none F H ∧ Rp K mg F v (.scr ns) ∧ ∀ a l H' F', Grw T none F H F' H' → FOk K T (some (a, l)) F' H' → H a = none → H l = none → Q (.ref a) H'
section
variable {P : Program} {w : World} {K : PySem.W.Frag} {mg : Mg} {base : Heap} {T : List (Addr × Str)} {x : Str} {st s1 s2 : Stmt} {f : Addr} {fd : FuncData} {N ps : List Str} {k : Nat} {ts : DTS} {tn : DTN} {i : Nat}
/-- .. keeps it: s1 makes the list of the great numbers, s2 is the return -/
theorem begun_ok (hm : mg x = some (.ref f)) (Fd : FunD K x x (defArgs st) (defBody st) (defScope st) [] [] f fd) (S : FnScope N ps (defScope st)) (hbd : Binds K fd ps []) (hps : ps.length = 1) (hbody : defBody st = [s1, s2])
    (h1 : ∀ (f : Addr) (cdv : Value) (A : Around) (outer : List Env) (s : Shared) (H : Hp) (E : XK) (Z : Zx), Room k (A.deeper (envOfC x (defScope st) s.heap.objs.size f cdv)) → QS (CxD P w K mg base N x st f cdv A outer s H E) T Z s1 ts)
    (h2 : ∀ (f : Addr) (cdv : Value) (A : Around) (outer : List Env) (s : Shared) (H : Hp) (E : XK) (Z : Zx), Room k (A.deeper (envOfC x (defScope st) s.heap.objs.size f cdv)) → PS (CxD P w K mg base N x st f cdv A outer s H E) s2 (tBeg (CxD P w K mg base N x st f cdv A outer s H E) T Z i tn))
    (hp : ∀ ns, ns.length ≤ 63 → ts (dStart N.length [.d (.scr ns)]) { nx := fun ρ => (∃ big : List Int, ρ[i]? = some (some (.own (.lst (big.map D.int)))) ∧ ∀ b ∈ big, 0 ≤ b) ∧ tn (ρ.map noOwn) (fun c _ => ∃ cells : List Int, c = .lst (cells.map D.int) ∧ ∀ b ∈ cells, 0 ≤ b) fun _ => False, rt := fun _ => False } fun _ => False) :
    Fo P w K mg base x st ps (k + 1) (SpB K mg T) := by
  refine ⟨f, fd, hm, Fd, hbd, Fd.ok S (fun vs H Q E ⟨F, v, ns, e, _⟩ => by rw [e, hps] <;> rfl) fun cdv A outer s H vs Q E hr ⟨F, v, ns, ev, hlen, kk, rv, hq⟩ => ?_⟩
  subst ev
  have tk0 : ∀ Z', Takes (CxD P w K mg base N x st f cdv A outer s H E) (Wer K mg T Z' fun _ => False) := fun Z' => takesF
  rw [hbody]
  refine ⟨_, pss_cons (h1 f cdv A outer s H E ⟨none, F, H⟩ hr) (pss_one (h2 f cdv A outer s H E ⟨none, F, H⟩ hr)), dStart N.length [.d (.scr ns)], F, fun _ => False, _, rep_start kk (.cons (show RpA K mg F none v (.d (.scr ns)) from rv) .nil), tk0 _, hp ns hlen, ?_, ?_, ?_, ?_⟩
  · rintro σ' H' F' ρ' e rep' ⟨hb, ht⟩
    exact ⟨ρ', F', fun _ => False, rfl, rep', tk0, hb, ht, fun a l H'' F'' g kk' ha hl => hq a l H'' F'' g kk' ha hl⟩
  · exact fun v σ' H' F' ρ' d _ _ _ z => z.elim
  · exact fun σ' H' F' ρ' _ _ z => z.elim
  · exact fun σ' H' F' ρ' _ _ z => z.elim
end
end DL
set_option Elab.async false
set_option linter.all false
set_option maxRecDepth 100000
set_option maxHeartbeats 2000000
namespace DL
open PySem PySem.Spec PyProof.Rows L2
/-! ### the law's def: the draws begun first -/
section
variable {K : PySem.W.Frag} {mg : Mg} {T : List (Addr × Str)}
theorem rep_begun {ρ : DEnv} {F F' H' : Hp} {σ : L2.St} {a l : Addr} {j : Nat} (hl : ρ.length = σ.length) (dat : ∀ (i : Nat) (d : D), ρ[i]? = some (some (.d d)) → ∃ v, σ[i]? = some (some v) ∧ Rp K mg F v d) (nd : ∀ i : Nat, ρ[i]? ≠ some (some .drw)) (no : ∀ (i : Nat) (c : Own), ρ[i]? ≠ some (some (.own c))) (nl : ∀ (i : Nat) (L : LamSite) (cs : List (Option D)), ρ[i]? ≠ some (some (.lam L cs))) (ff : Fx F F') (k : FOk K T (some (a, l)) F' H') :
    Rep K mg T ⟨some (a, l), F', H'⟩ (ρ.set j (some .drw)) F' (σ.set j (some (.ref a))) H' where
  len := by rw [List.length_set, List.length_set]; exact hl
  ok := k
  gr := Grw.refl
  dat := fun i d e => by
    by_cases hj : j = i
    · subst hj
      have hi : j < ρ.length := by
        have := (List.getElem?_eq_some_iff.mp e).1
        rwa [List.length_set] at this
      rw [List.getElem?_set_self hi] at e
      cases e
    · rw [List.getElem?_set_ne hj] at e ⊢
      obtain ⟨v, h1, h2⟩ := dat i d e
      exact ⟨v, h1, h2.mono ff⟩
  drs := fun i e => by
    by_cases hj : j = i
    · subst hj
      have hi : j < ρ.length := by
        have := (List.getElem?_eq_some_iff.mp e).1
        rwa [List.length_set] at this
      exact ⟨a, l, rfl, List.getElem?_set_self (hl ▸ hi)⟩
    · rw [List.getElem?_set_ne hj] at e
      exact absurd e (nd i)
  own := fun i c e => by
    by_cases hj : j = i
    · subst hj
      have hi : j < ρ.length := by
        have := (List.getElem?_eq_some_iff.mp e).1
        rwa [List.length_set] at this
      rw [List.getElem?_set_self hi] at e
      cases e
    · rw [List.getElem?_set_ne hj] at e
      exact absurd e (no i c)
  lam := fun i L cs e => by
    by_cases hj : j = i
    · subst hj
      have hi : j < ρ.length := by
        have := (List.getElem?_eq_some_iff.mp e).1
        rwa [List.length_set] at this
      rw [List.getElem?_set_self hi] at e
      cases e
    · rw [List.getElem?_set_ne hj] at e
      exact absurd e (nl i L cs)
  dis := fun i i' c c' p e => by
    by_cases hj : j = i
    · subst hj
      have hi : j < ρ.length := by
        have := (List.getElem?_eq_some_iff.mp e).1
        rwa [List.length_set] at this
      rw [List.getElem?_set_self hi] at e
      cases e
    · rw [List.getElem?_set_ne hj] at e
      exact absurd e (no i c)
end
/-- the law's promise -/
def SpLaw (K : PySem.W.Frag) (mg : Mg) (T : List (Addr × Str)) : Sp := fun vs H Q E => ∃ F v ns, vs = [v] ∧ ns.length ≤ 63 ∧ FOk K T none F H ∧ Rp K mg F v (.scr ns) ∧ ∀ H', Q (.bl true) H'
section
variable {P : Program} {w : World} {K : PySem.W.Frag} {mg : Mg} {base : Heap} {T : List (Addr × Str)} {x xb : Str} {st stb : Stmt} {f : Addr} {fd : FuncData} {N ps psb : List Str} {k kb : Nat} {ts : DTS} {j : Nat} {rest : List Stmt} {d sc : Str} {pd p psc pos pos2 : Pos}
theorem law_okG (hm : mg x = some (.ref f)) (Fd : FunD K x x (defArgs st) (defBody st) (defScope st) [] [] f fd) (S : FnScope N ps (defScope st)) (hbd : Binds K fd ps []) (hps : ps.length = 1) (hbody : defBody st = .Assign [.Name d pd] (.Call (.Name xb p) [.Name sc psc] [] pos) pos2 :: rest)
    (O : Fo P w K mg base xb stb psb kb (SpB K mg T)) (hkb : kb ≤ k)
    (h1 : ∀ (f : Addr) (cdv : Value) (A : Around) (outer : List Env) (s : Shared) (H : Hp) (E : XK) (t : TE), PE (CxD P w K mg base N x st f cdv A outer s H E) (.Call (.Name xb p) [.Name sc psc] [] pos) t → PS (CxD P w K mg base N x st f cdv A outer s H E) (.Assign [.Name d pd] (.Call (.Name xb p) [.Name sc psc] [] pos) pos2) (tAsg t (gName j)))
    (hcall : ∀ (f : Addr) (cdv : Value) (A : Around) (outer : List Env) (s : Shared) (H : Hp) (E : XK), Gl (CxD P w K mg base N x st f cdv A outer s H E) xb ∧ PE (CxD P w K mg base N x st f cdv A outer s H E) (.Name sc psc) (tVar 0) ∧ starEach [.Name sc psc] (CxD P w K mg base N x st f cdv A outer s H E).env = (false, eval (.Name sc psc) (CxD P w K mg base N x st f cdv A outer s H E).env) :: starEach [] (CxD P w K mg base N x st f cdv A outer s H E).env)
    (hdb : (xb == ("__debug__" : Str)) = false)
    (h2 : ∀ (f : Addr) (cdv : Value) (A : Around) (outer : List Env) (s : Shared) (H : Hp) (E : XK) (Z : Zx), Room k (A.deeper (envOfC x (defScope st) s.heap.objs.size f cdv)) → A.guards = some [] → QSs (CxD P w K mg base N x st f cdv A outer s H E) T Z rest ts)
    (hp : ∀ ns, ns.length ≤ 63 → (∀ n ∈ ns, Builtin.Int.intBits n ≤ 1048576) → ts ((dStart N.length [.d (.scr ns)]).set j (some .drw)) { nx := fun _ => False, rt := fun d => d = .bl true } fun _ => False) : Go P w K mg base x st ps (k + 1) (SpLaw K mg T) := by
  refine ⟨f, fd, hm, Fd, hbd, fun vs H Q E ⟨F, v, ns, e, _⟩ => by rw [e, hps] <;> rfl, fun A outer s H args us vs Q E hr hg e0 hbi r h => ?_⟩
  obtain ⟨F, v, ns, ev, hlen, kk, rv, hq⟩ := id h
  subst ev
  obtain ⟨oc, od, dV, kV, doc, pm, an, cdv, ct, osl, rfl, lk, hcd, hD, hK⟩ := Fd.ex
  refine LamX.run_ofS lk hcd S hr e0 hbi r (by rw [hps] <;> rfl) fun hr' => ?_
  obtain ⟨g, fdb, hmb, Fb, hbb, okb⟩ := O.ex
  obtain ⟨hgl, hpe, hst⟩ := hcall f cdv A outer s H E
  rw [hbody]
  have tk0 : ∀ {T' : List (Addr × Str)} {Z' : Zx}, Takes (CxD P w K mg base N x st f cdv A outer s H E) (Wer K mg T' Z' fun _ => False) := takesF
  have P1 := h1 f cdv A outer s H E _ (pe_callSD (p := p) (pos := pos) (E := WE (Wer K mg T ⟨none, F, H⟩ fun _ => False)) okb (hr'.mono hkb) hgl hmb Fb.kp hbb .nil (passAt tk0) (pa_cons hpe pa_nil hst) hdb hst (by rfl))
  have P2 : PSs (CxD P w K mg base N x st f cdv A outer s H E) rest (fun E' σ H' => ∃ Z', upS (CxD P w K mg base N x st f cdv A outer s H E) T Z' ts E' σ H') := ⟨fun pins s' σ H' E' I ⟨Z', u⟩ => (h2 f cdv A outer s H E Z' hr' hg).run pins s' σ H' E' I u⟩
  refine ⟨_, pss_cons P1 P2, ?_⟩
  have rp := rep_start (N := N) kk (.cons (show RpA K mg F none v (.d (.scr ns)) from rv) .nil)
  have hN : 0 < N.length := by
    have := congrArg List.length S.pre
    rw [List.length_take, hps] at this
    omega
  have h0 : (L2.start N [v])[0]? = some (some v) := rfl
  refine ⟨v, h0, F, v, ns, rfl, hlen, kk, rv, fun a l H1 F1 g1 k1 ha hl => ?_⟩
  have hbits : ∀ n ∈ ns, Builtin.Int.intBits n ≤ 1048576 := by
    cases rv with
    | scr _ h => exact h
  have none_ : ∀ (i : Nat) (y : DV), (dStart N.length [.d (.scr ns)])[i]? = some (some y) → y = .d (.scr ns) := fun i y e => by
    unfold dStart at e
    cases i with
    | zero =>
      cases e
      rfl
    | succ i =>
      rw [List.getElem?_append_right (by simp), List.getElem?_replicate] at e
      split at e <;> cases e
  have r1 := rep_begun (j := j) rp.len rp.dat (fun i e => by cases none_ i _ e) (fun i c e => by cases none_ i _ e) (fun i L cs e => by cases none_ i _ e) g1.ff k1
  refine ⟨⟨some (a, l), F1, H1⟩, _, F1, fun _ => False, _, r1, tk0, hp ns hlen hbits, fun _ _ _ _ _ _ z => z.elim, fun v σ' H' F' ρ' d _ _ rv e => ?_, fun _ _ _ _ _ _ z => z.elim, fun _ _ _ _ _ _ z => z.elim⟩
  subst e
  cases rv
  exact hq H'
end
end DL
set_option Elab.async false
set_option linter.all false
set_option maxRecDepth 100000
set_option maxHeartbeats 2000000
namespace DL
open PySem PySem.Spec PyProof.Rows L2
/-! ### the end: the law called at the head's heap, where no repr is under way -/
section
variable {P : Program} {w : World} {K : PySem.W.Frag} {mg mb : Mg} {k : Nat} {fa a : Addr} {cs : List (Addr × Addr)} {fd : FuncData} {x : Str} {sp : Sp} {t : Shared} {us : List Value} {ns : List Int}
/-- what stands at the head's heap -/
structure AtHead (K : PySem.W.Frag) (mg mb : Mg) (cs : List (Addr × Addr)) (t : Shared) : Prop where
  kin : K.In t.heap
  glo : t.heap.Ns mainGlobals mg
  blt : t.heap.Ns builtinsNs mb
  bb : ∀ x : Str, x ≠ "__name__" → mb x = bootBuiltins x
  lim : t.heap.NoLimit
  gen : t.gens = #[]
  tab : ∀ p ∈ cs, t.heap.get? p.2 = some { cls := .none, data := .fields #[] }
  out : ∀ p ∈ cs, K.lookup p.2 = none
  hd : ∀ p ∈ cs, PySem.W.CodeHd t.heap p.1 p.2
  bm : ∃ (bm : Addr) (ob : Obj), mg "__builtins__" = some (.ref bm) ∧ bm ≠ builtinsNs ∧ t.heap.get? bm = some ob ∧ ob.cls = .type "module" ∧ ob.dict = some builtinsNs ∧ ob.data = .plain
/-- what is tracked there: the script, the tables -/
structure Few (cs : List (Addr × Addr)) (a : Addr) (ns : List Int) (H : Hp) (K : PySem.W.Frag) : Prop where
  tab : ∀ p ∈ cs, H p.2 = some (.tbl #[])
  only : ∀ b o, H b = some o → b ∈ cs.map (·.2) ∨ (b = a ∧ ∃ ob, o = .frz ob (.lst (ns.map V.int)))
  scr : SqL K H a (ns.map V.int)
  notK : ∀ o, H a = some o → K.lookup a = none
theorem head_env (A : AtHead K mg mb cs t) {H : Hp} (aT : a ∉ cs.map (·.2)) (ha : t.heap.get? a = some { cls := .type "list", data := .seq us.toArray }) (f : Few cs a ns H K) (ok : HOk P w H t.heap) :
    Env0 P w K mg (hidT t.heap H) callerA [] t H ∧ ∀ p ∈ cs, LamX.TabB (hidT t.heap H) mg p.1 p.2 := by
  have keep : ∀ {b : Addr} {o : Obj}, t.heap.get? b = some o → (∀ vs n, o.data ≠ .seq vs n) → o.data ≠ .fields #[] → (hidT t.heap H).get? b = some o := fun {b o} e n1 n2 => by
    refine hidT_get e ?_
    cases q : H b with
    | none => rfl
    | some u =>
      exfalso
      rcases f.only b u q with m | ⟨m, _⟩
      · obtain ⟨p, hp, ep⟩ := List.mem_map.mp m
        have z := A.tab p hp
        rw [ep, e] at z
        cases z
        exact n2 rfl
      · rw [m, ha] at e
        cases e
        exact n1 _ _ rfl
  have keepNs : ∀ {b : Addr} {m : Mg}, t.heap.Ns b m → (hidT t.heap H).Ns b m := fun {b m} ⟨o, es, ep, e, d, r⟩ => ⟨o, es, ep, keep e (fun vs n z => by rw [d] at z; cases z) (fun z => by rw [d] at z; cases z), d, r⟩
  have kin : K.In (hidT t.heap H) := fun b o e => hidT_get (A.kin b o e) (by
    cases q : H b with
    | none => rfl
    | some u =>
      exfalso
      rcases f.only b u q with m | ⟨m, _⟩
      · obtain ⟨p, hp, ep⟩ := List.mem_map.mp m
        rw [← ep, A.out p hp] at e
        cases e
      · subst m
        rw [f.notK u q] at e
        cases e)
  obtain ⟨mc, c1, c2⟩ := A.lim
  refine ⟨⟨rfl, ⟨kin, keepNs A.glo, ⟨mb, keepNs A.blt, A.bb⟩, mc, keepNs c1, c2⟩, fun b o e => of_hidT e, Nat.le_of_eq (hidT_size _ _), trivial, fun b hb => (nomatch (show b ∈ ([] : List Addr) from hb)), ok, .of_eq A.gen⟩, fun p hp => ⟨?_, ?_, fun z => ?_⟩⟩
  · obtain ⟨o, fs, file, tf, flags, tg, inF, text, tt, e1, r1, r2, r3, rr⟩ := A.hd p hp
    exact ⟨o, fs, file, tf, flags, tg, inF, text, tt, keep e1 (fun vs n z => by rw [r2] at z; cases z) (fun z => by rw [r2] at z; cases z; simp at r3), r1, r2, r3, rr⟩
  · obtain ⟨bm, ob, b1, b2, b3, b4, b5, b6⟩ := A.bm
    refine ⟨bm, ob, b1, b2, fun q => ?_, fun q => ?_, keep b3 (fun vs n z => by rw [b6] at z; cases z) (fun z => by rw [b6] at z; cases z), b4, b5, b6⟩
    · obtain ⟨o, es, ep, e, d, _⟩ := A.glo
      rw [q, e] at b3
      cases b3
      rw [d] at b6
      cases b6
    · have z := A.tab p hp
      rw [← q, b3] at z
      cases z
      cases b6
  · obtain ⟨o, es, ep, e, d, _⟩ := A.glo
    have y := A.tab p hp
    rw [← z, e] at y
    cases y
    cases d
theorem end_few (A : AtHead K mg mb cs t) {H : Hp} (aT : a ∉ cs.map (·.2)) (ha : t.heap.get? a = some { cls := .type "list", data := .seq us.toArray }) (hr : Room k callerA) (hgd : callerA.guards = some [])
    (F : ∀ base : Heap, K.In base → base.Ns mainGlobals mg → (∀ p ∈ cs, LamX.TabB base mg p.1 p.2) → FnG P w K mg base k fa fd [x] sp) (hbind : ∀ (s : Shared) (u : Value), BindsTo s fd ⟨[u], []⟩ [(x, u)])
    (hsp : ∀ H, Few cs a ns H K → sp [.ref a] H (fun v _ => v = .bl true) fun _ _ _ => False) (f : Few cs a ns H K) (ok : HOk P w H t.heap) :
    codeAny (model P w) callerA (.call (.ref fa) ⟨[.ref a], []⟩) (fun r s' => r = .ok (.ret (.bool true)) ∧ OldK t.heap s'.heap ∧ s'.os = t.os ∧ AllBare s'.gens) t := by
  obtain ⟨e0, TB⟩ := head_env A aT ha f ok
  refine codeAny_mono ((F _ e0.mod.kin e0.mod.glob TB).run callerA [] t H ⟨[.ref a], []⟩ [.ref a] [.ref a] _ _ hr hgd e0 (hbind t (.ref a)) (.cons rfl .nil) (hsp H f)) fun r s' h => ?_
  cases r with
  | error e =>
    obtain ⟨_, _, _, _, _, _, _, _, _, _, _, _, z⟩ := h
    exact z.elim
  | ok fl =>
    cases fl with
    | ret u =>
      obtain ⟨v, H', os, bare, un, hok', r', q⟩ := h
      subst q
      obtain rfl : u = Value.bool true := r'
      have same : ∀ b o, b ∉ cs.map (·.2) → t.heap.get? b = some o → s'.heap.get? b = some o := fun b o nb e => by
        cases q : H b with
        | none => exact un.keep b o e q (fun z => (nomatch (show b ∈ ([] : List Addr) from z))) (fun z => (nomatch (show b ∈ ([] : List Addr) from z)))
        | some u =>
          rcases f.only b u q with m | ⟨m, ob, eo⟩
          · exact absurd m nb
          · subst eo
            have z1 := (ok b _ q).1
            have z2 := (hok' b _ (un.frzs b ob _ q)).1
            rw [e] at z1
            cases z1
            exact z2
      have tabs : ∀ p ∈ cs, ∃ more : Array Value, s'.heap.get? p.2 = some { cls := .none, data := .fields more } := fun p hp => by
        obtain ⟨more, z⟩ := un.tbls p.2 #[] (f.tab p hp)
        exact ⟨_, hok' p.2 _ z⟩
      refine ⟨rfl, ⟨fun b o e => ?_, fun b o e => ?_⟩, os, bare⟩
      · by_cases hb : b ∈ cs.map (·.2)
        · obtain ⟨p, hp, ep⟩ := List.mem_map.mp hb
          obtain ⟨more, hm⟩ := tabs p hp
          subst ep
          rw [A.tab p hp] at e
          cases e
          exact .inr (.inl ⟨((A.hd p hp).tab (A.tab p hp)).isCodeTable, rfl, #[], more, rfl, by rw [Array.empty_append]; exact hm⟩)
        · exact .inl (same b o hb e)
      · by_cases hb : b ∈ cs.map (·.2)
        · obtain ⟨p, hp, ep⟩ := List.mem_map.mp hb
          obtain ⟨more, hm⟩ := tabs p hp
          subst ep
          exact ⟨_, hm⟩
        · exact ⟨o, same b o hb e⟩
    | next => exact False.elim h
    | brk => exact False.elim h
    | cont => exact False.elim h
theorem end_law (A : AtHead K mg mb cs t) (ha : t.heap.get? a = some { cls := .type "list", data := .seq us.toArray }) (hi : IntsAre us ns) (hl : ns.length ≤ sizeLine) (hr : Room k callerA) (hgd : callerA.guards = some [])
    (F : ∀ base : Heap, K.In base → base.Ns mainGlobals mg → (∀ p ∈ cs, LamX.TabB base mg p.1 p.2) → FnG P w K mg base k fa fd [x] sp) (hbind : ∀ (s : Shared) (u : Value), BindsTo s fd ⟨[u], []⟩ [(x, u)])
    (hsp : ∀ H, Few cs a ns H K → sp [.ref a] H (fun v _ => v = .bl true) fun _ _ _ => False) :
    codeAny (model P w) callerA (.call (.ref fa) ⟨[.ref a], []⟩) (fun r s' => r = .ok (.ret (.bool true)) ∧ OldK t.heap s'.heap ∧ s'.os = t.os ∧ AllBare s'.gens) t := by
  have rv := vals_ints hi
  have aT : a ∉ cs.map (·.2) := fun z => by
    obtain ⟨p, hp, ep⟩ := List.mem_map.mp z
    have y := A.tab p hp
    rw [ep, ha] at y
    have y' : Data.seq us.toArray _ = Data.fields #[] := congrArg Obj.data (Option.some.inj y)
    cases y'
  have inT : ∀ p ∈ cs, p.2 ∈ cs.map (·.2) := fun p hp => List.mem_map.mpr ⟨p, hp, rfl⟩
  have tabOk : ∀ {b : Addr} {o : Obj}, b ∈ cs.map (·.2) → t.heap.get? b = some { cls := .none, data := .fields #[] } := fun {b o} m => by
    obtain ⟨p, hp, ep⟩ := List.mem_map.mp m
    rw [← ep]
    exact A.tab p hp
  cases hk : K.lookup a with
  | some o =>
    have e := A.kin a o hk
    rw [ha] at e
    cases e
    have lenU := hi.length
    refine end_few (H := fun b => if b ∈ cs.map (·.2) then some (.tbl #[]) else none) A aT ha hr hgd F hbind hsp ⟨fun p hp => if_pos (inT p hp), fun b o e => ?_, .inr ⟨_, us.toArray, _, hk, rfl, rfl, rfl, by rw [List.size_toArray, lenU]; exact hl, by simpa using rv⟩, fun o e => ?_⟩ fun b u e => ?_
    · by_cases m : b ∈ cs.map (·.2)
      · exact .inl m
      · have z := (if_neg m).symm.trans e
        cases z
    · have z := (if_neg aT).symm.trans e
      cases z
    · by_cases m : b ∈ cs.map (·.2)
      · have z := (if_pos m).symm.trans e
        cases z
        exact tabOk (o := default) m
      · have z := (if_neg m).symm.trans e
        cases z
  | none =>
    refine end_few (H := fun b => if b = a then some (.frz { cls := .type "list", data := .seq us.toArray } (.lst (ns.map V.int))) else if b ∈ cs.map (·.2) then some (.tbl #[]) else none) A aT ha hr hgd F hbind hsp
      ⟨fun p hp => (if_neg fun z => aT (by rw [← z]; exact inT p hp)).trans (if_pos (inT p hp)), fun b o e => ?_, .inl (.inr ⟨_, if_pos rfl⟩), fun _ _ => hk⟩ fun b u e => ?_
    · by_cases hb : b = a
      · have z := (if_pos hb).symm.trans e
        cases z
        exact .inr ⟨hb, _, rfl⟩
      · by_cases m : b ∈ cs.map (·.2)
        · exact .inl m
        · have z := ((if_neg hb).trans (if_neg m)).symm.trans e
          cases z
    · by_cases hb : b = a
      · have z := (if_pos hb).symm.trans e
        cases z
        subst hb
        exact ⟨ha, by rw [List.length_map]; exact hl, us, _, rv, ha⟩
      · by_cases m : b ∈ cs.map (·.2)
        · have z := ((if_neg hb).trans (if_pos m)).symm.trans e
          cases z
          exact tabOk (o := default) m
        · have z := ((if_neg hb).trans (if_neg m)).symm.trans e
          cases z
end
/-- the tables, by the name of what is made there -/
def tabsOf (cs : List (Addr × Addr)) (qs : List Str) : List (Addr × Str) := (cs.map (·.2)).zip qs
/-- .. and the data layer's begin -/
theorem few_ok {K : PySem.W.Frag} {mg : Mg} {cs : List (Addr × Addr)} {a : Addr} {ns : List Int} {H : Hp} {qs : List Str} (f : Few cs a ns H K) (hq : qs.length = cs.length) (hb : ∀ n ∈ ns, Builtin.Int.intBits n ≤ 1048576) :
    ∃ F, FOk K (tabsOf cs qs) none F H ∧ Rp K mg F (.ref a) (.scr ns) := by
  have memT : ∀ {p : Addr × Str}, p ∈ tabsOf cs qs → p.1 ∈ cs.map (·.2) := fun {p} h => (List.of_mem_zip h).1
  have onT : ∀ b ∈ cs.map (·.2), ∃ q, (b, q) ∈ tabsOf cs qs := fun b m => by
    obtain ⟨i, hi, e⟩ := List.mem_iff_getElem.mp m
    have hl : i < qs.length := by rw [hq]; simpa using hi
    refine ⟨qs[i], ?_⟩
    unfold tabsOf
    rw [List.mem_iff_getElem]
    exact ⟨i, by rw [List.length_zip]; omega, by rw [List.getElem_zip, e]⟩
  have tabH : ∀ b ∈ cs.map (·.2), H b = some (.tbl #[]) := fun b m => by
    obtain ⟨p, hp, ep⟩ := List.mem_map.mp m
    rw [← ep]
    exact f.tab p hp
  refine ⟨fun b => if b ∈ cs.map (·.2) then none else H b, ⟨fun b o e => ?_, fun b m => ?_, fun p hp => .nil (tabH _ (memT hp)), fun a l e => (nomatch e), fun b ps e => ?_⟩, .scr ?_ hb⟩
  · by_cases m : b ∈ cs.map (·.2)
    · have z := (if_pos m).symm.trans e
      cases z
    · exact (if_neg m).symm.trans e
  · rcases m with ⟨q, hq⟩ | ⟨a, l, e, _⟩
    · exact if_pos (memT hq)
    · cases e
  · rcases f.only b _ e with m | ⟨_, ob, z⟩
    · exact onT b m
    · cases z
  · rcases f.scr with (h | ⟨o, h⟩) | h
    · refine .inl (.inl ((if_neg fun m => ?_).trans h))
      rw [tabH a m] at h
      cases h
    · refine .inl (.inr ⟨o, (if_neg fun m => ?_).trans h⟩)
      rw [tabH a m] at h
      cases h
    · exact .inr h
end DL
set_option Elab.async false
set_option linter.all false
set_option maxRecDepth 100000
set_option maxHeartbeats 2000000
namespace DL
open PySem PySem.Spec PyProof.Rows L2
/-! ### small things for what a program prints -/
theorem hu64 {k : Nat} {A : Around} (hr : Room k A) : A.units + 64 < cLine := by
  have := hr.un
  omega
section
variable {X : Cx} {T : List (Addr × Str)} {Z : Zx} {es : List PySem.Expr} {pos : Pos} {t : DTA}
/-- a list that only its name will hold -/
def dLstN (ta : DTA) : DTN := fun ρ R er => ta ρ (fun ds ρ1 => match allD ds with
  | some xs => xs.length ≤ 1000 ∧ R (.lst xs) ρ1
  | none => False) er
theorem qn_lst (h : QA X T Z es t) : QN X T Z (.List es pos) (dLstN t) :=
  pe_imp (pe_lst h) fun σ H Q ⟨ρ, F, er, R, rep, tk, h, hk⟩ => ⟨ρ, F, er, _, rep, tk, h, fun vs H1 F1 ds ρ1 e1 rep1 rvs h1 => by
    split at h1
    · rename_i xs hx
      have r := rvs.all hx
      refine ⟨by rw [r.length]; exact line1000 h1.1, fun p hp => ?_⟩
      obtain ⟨k1, g1, f1⟩ := rep1.ok.laidOwn (o := .lst vs) hp
      have h0 : Z.H0 p = none := by
        cases q : Z.H0 p with
        | none => rfl
        | some o =>
          have z := rep1.gr.hh p o q (rep1.ok.notAm hp)
          rw [hp] at z
          cases z
      refine hk p _ F1 (.lst xs) ρ1 e1 (rep1.step g1 k1) ⟨vs, upd_same, r⟩ f1 h0 (rep1.ok.notAm hp) (fun i c e z => ?_) h1.2
      obtain ⟨q, a1, a2, _⟩ := rep1.own i c e
      rw [a1] at z
      cases z
      obtain ⟨o, ho, _⟩ := a2.some
      rw [hp] at ho
      cases ho
    · exact h1.elim⟩
/-- [] -/
theorem lc_pg {X : Cx} {i : Nat} {x : Str} {pos : Pos} (hN : X.N.Nodup) (hi : X.N[i]? = some x := by rfl) (hx : Loc X.env.scope x := by first | exact Or.inl rfl | exact Or.inr rfl) (hf : X.fn x = true ∨ X.env.scope.names.lookup x = some .local := by first | exact .inl rfl | exact .inr rfl) : PG X (.Name x pos) (gName i) := pg_name hN hi hx hf
/-! comparisons as tests -/
section
variable {a b c : PySem.Expr} {ta tb tc : DTE} {r r' : R2} {g g' : D → D → (D → Prop) → Prop}
theorem up2 (k : Ok2 X T r g) {σ : L2.St} {H : Hp} {Q : VK} : up X T Z (dBin g ta tb) σ H Q → tOp r (up X T Z ta) (up X T Z tb) σ H Q := fun ⟨ρ, F, er, R, rep, tk, h, hk⟩ =>
  ⟨ρ, F, er, _, rep, tk, h, fun v H1 F1 x ρ1 e1 rep1 rv h1 => ⟨ρ1, F1, er, _, rep1, tk, h1, fun w H2 F2 y ρ2 e2 rep2 rw_ h2 =>
    k Z.dr F2 H2 v w x y Q _ rep2.ok (rv.mono e2) rw_ h2 fun u H' F' d g1 k1 ru hR => hk u H' F' d ρ2 ((e1.trans e2).trans g1.ff) (rep2.step g1 k1) ru hR⟩⟩
theorem valUp {te : DTE} {σ : L2.St} {H : Hp} {Q : Bool → Hp → Prop} : upT X T Z (dVal te) σ H Q → up X T Z te σ H (fun x H' => ∃ k, x = .bl k ∧ Q k H') := fun ⟨ρ, F, er, R, rep, tk, h, hk⟩ => ⟨ρ, F, er, _, rep, tk, h, fun v H1 F1 x ρ1 e1 rep1 rv h1 => by
    cases rv <;> try exact h1.elim
    rename_i k
    exact ⟨k, rfl, hk _ H1 F1 ρ1 e1 rep1 h1⟩⟩
theorem qt_cmp {op : CmpOp} (ho : OpR X (compareOp op) r) (k : Ok2 X T r g) (hm : behindInMarks op b = false) (ha : QE X T Z a ta) (hb : QE X T Z b tb) : QT X T Z (.Compare a [op] [b] pos) (dVal (dBin g ta tb)) := pt_imp (pt_cmpR ho ha hb hm) fun σ H Q u => up2 k (valUp u)
theorem qt_lt (ha : QE X T Z a ta) (hb : QE X T Z b tb) : QT X T Z (.Compare a [.Lt] [b] pos) (dVal (dBin gLt ta tb)) := qt_cmp op_lt ok_lt (nomark _) ha hb
theorem qt_le (ha : QE X T Z a ta) (hb : QE X T Z b tb) : QT X T Z (.Compare a [.LtE] [b] pos) (dVal (dBin gLe ta tb)) := qt_cmp op_le ok_le (nomark _) ha hb
theorem qt_gt (ha : QE X T Z a ta) (hb : QE X T Z b tb) : QT X T Z (.Compare a [.Gt] [b] pos) (dVal (dBin gGt ta tb)) := qt_cmp op_gt ok_gt (nomark _) ha hb
theorem qt_ge (ha : QE X T Z a ta) (hb : QE X T Z b tb) : QT X T Z (.Compare a [.GtE] [b] pos) (dVal (dBin gGe ta tb)) := qt_cmp op_ge ok_ge (nomark _) ha hb
theorem qt_eq (hu : X.A.units + 64 < cLine) (ha : QE X T Z a ta) (hb : QE X T Z b tb) : QT X T Z (.Compare a [.Eq] [b] pos) (dVal (dBin gEq ta tb)) := qt_cmp (op_eq.or (op_eqD hu)) ok_eq (nomark _) ha hb
theorem qt_ne (hu : X.A.units + 64 < cLine) (ha : QE X T Z a ta) (hb : QE X T Z b tb) : QT X T Z (.Compare a [.NotEq] [b] pos) (dVal (dBin gNe ta tb)) := qt_cmp (op_ne.or (op_neD hu)) ok_ne (nomark _) ha hb
theorem qt_is (ha : QE X T Z a ta) (hb : QE X T Z b tb) : QT X T Z (.Compare a [.Is] [b] pos) (dVal (dBin gIs ta tb)) := qt_cmp op_isN ok_is (nomark _) ha hb
theorem qt_isnot (ha : QE X T Z a ta) (hb : QE X T Z b tb) : QT X T Z (.Compare a [.IsNot] [b] pos) (dVal (dBin gIsNot ta tb)) := qt_cmp op_notN ok_isnot (nomark _) ha hb
theorem chainUp (k : Ok2 X T r g) (k' : Ok2 X T r' g') {σ : L2.St} {H : Hp} {Q : VK} : up X T Z (dChain g g' ta tb tc) σ H Q → tChain r r' (up X T Z ta) (up X T Z tb) (up X T Z tc) σ H Q := fun ⟨ρ, F, er, R, rep, tk, h, hk⟩ => ⟨ρ, F, er, _, rep, tk, h, fun v H1 F1 x ρ1 e1 rep1 rv h1 => ⟨ρ1, F1, er, _, rep1, tk, h1, fun w H2 F2 y ρ2 e2 rep2 rw_ h2 =>
    k Z.dr F2 H2 v w x y _ _ rep2.ok (rv.mono e2) rw_ h2 fun u H3 F3 d g1 k1 ru hR => by
      cases ru <;> try exact hR.elim
      rename_i b
      refine ⟨b, rfl, ?_⟩
      cases b with
      | true =>
        rw [if_pos rfl]
        exact ⟨ρ2, F3, er, _, rep2.step g1 k1, tk, hR, fun z H4 F4 dz ρ4 e4 rep4 rz h4 => k' Z.dr F4 H4 w z y dz Q _ rep4.ok (rw_.mono (g1.ff.trans e4)) rz h4 fun u2 H5 F5 d2 g2 k2 ru2 hR2 =>
          hk u2 H5 F5 d2 ρ4 ((((e1.trans e2).trans g1.ff).trans e4).trans g2.ff) (rep4.step g2 k2) ru2 hR2⟩
      | false =>
        rw [if_neg Bool.false_ne_true]
        exact hk _ H3 F3 _ ρ2 ((e1.trans e2).trans g1.ff) (rep2.step g1 k1) (.bl false) hR⟩⟩
theorem qt_chain {op op' : CmpOp} (ho : OpR X (compareOp op) r) (ho' : OpR X (compareOp op') r') (k : Ok2 X T r g) (k' : Ok2 X T r' g')
    (hm : PT X (.Compare a [op, op'] [b, c] pos) (tTest (tChain r r' (up X T Z ta) (up X T Z tb) (up X T Z tc)))) : QT X T Z (.Compare a [op, op'] [b, c] pos) (dVal (dChain g g' ta tb tc)) := pt_imp hm fun σ H Q u => chainUp k k' (valUp u)
end
/-- x, y = a, b: plain local names -/
def dPar (i j : Nat) (ta : DTA) : DTS := fun ρ E er => ta ρ (fun ds ρ1 => match ds with
  | [.d x, .d y] => E.nx ((ρ1.set i (some (.d x))).set j (some (.d y)))
  | _ => False) er
theorem qs_par (i j : Nat) {x y : Str} {a b : PySem.Expr} {px py pt pt2 : Pos} {kt k2 : Nat} {ta : DTA} (hc : X.calm = true) (hN : X.N.Nodup) (hij : i ≠ j) (h : QA X T Z [a, b] ta) (hi : X.N[i]? = some x := by rfl) (hj : X.N[j]? = some y := by rfl)
    (hx : X.env.scope.names.lookup x = some .local := by rfl) (hy : X.env.scope.names.lookup y = some .local := by rfl) (hw : swappedStores [.Tuple [.Name x px, .Name y py] kt pt] (.Tuple [a, b] k2 pt2) X.env = pure (some [x, y]) := by rfl) :
    QS X T Z (.Assign [.Tuple [.Name x px, .Name y py] kt pt] (.Tuple [a, b] k2 pt2) pos) (dPar i j ta) :=
  ps_imp (ps_par hc hN hi hj hij hx hy h hw) fun E σ H ⟨ρ, F, er, De, rep, tk, h, hn, hr, hb, hc⟩ => ⟨ρ, F, er, _, rep, tk, h, fun vs H1 F1 ds ρ1 e1 rep1 rvs h1 => by
    match ds, rvs, h1 with
    | [.d x, .d y], rvs, h1 =>
      cases rvs with
      | cons r1 r2 =>
        cases r2 with
        | cons r2 r3 =>
          cases r3
          exact ⟨_, _, rfl, hn _ H1 F1 _ e1 ((rep1.set (i := i) r1).set (i := j) r2) h1⟩
    | [], _, h1 => exact h1.elim
    | [_], _, h1 => cases ‹DV› <;> exact h1.elim
    | .own _ :: _ :: _, _, h1 => exact h1.elim
    | .drw :: _ :: _, _, h1 => exact h1.elim
    | .lam _ _ :: _ :: _, _, h1 => exact h1.elim
    | .d _ :: .own _ :: _, _, h1 => exact h1.elim
    | .d _ :: .drw :: _, _, h1 => exact h1.elim
    | .d _ :: .lam _ _ :: _, _, h1 => exact h1.elim
    | .d _ :: .d _ :: _ :: _, _, h1 => exact h1.elim⟩
/-- x, y, z = a, b, c: plain local names -/
def dPar3 (i j k : Nat) (ta : DTA) : DTS := fun ρ E er => ta ρ (fun ds ρ1 => match ds with
  | [.d x, .d y, .d z] => E.nx (((ρ1.set k (some (.d z))).set j (some (.d y))).set i (some (.d x)))
  | _ => False) er
theorem ps_par3 {i j k : Nat} {x y z : Str} {a b c : PySem.Expr} {ta : TA} {px py pz pt pt2 pos : Pos} {kt k2 : Nat} (hc : X.calm = true) (hN : X.N.Nodup) (hi : X.N[i]? = some x) (hj : X.N[j]? = some y) (hk : X.N[k]? = some z)
    (hx : X.env.scope.names.lookup x = some .local) (hy : X.env.scope.names.lookup y = some .local) (hz : X.env.scope.names.lookup z = some .local) (ha : PA X [a, b, c] ta)
    (hw : swappedStores [.Tuple [.Name x px, .Name y py, .Name z pz] kt pt] (.Tuple [a, b, c] k2 pt2) X.env = pure (some [x, y, z])) (hs : swapsWithSole [.Tuple [.Name x px, .Name y py, .Name z pz] kt pt] (.Tuple [a, b, c] k2 pt2) pos.line X.env = pure false) :
    PS X (.Assign [.Tuple [.Name x px, .Name y py, .Name z pz] kt pt] (.Tuple [a, b, c] k2 pt2) pos) (fun D σ H => ta σ H fun vs H1 => ∃ u v w, vs = [u, v, w] ∧ D.nx (((σ.set k (some w)).set j (some v)).set i (some u)) H1) := by
  constructor
  intro pins s σ H D I h
  rw [exec_Assign_arm]
  refine wpAny_bind (wpAny_standAt ?_)
  rw [hs]
  refine wpAny_bind (wpAny_pure ?_)
  rw [if_neg (by decide)]
  refine wpAny_bind (Tuple_ (thn (ha.run _ pins s σ H _ I h) fun us s1 ⟨vs, H1, I1, r1, q1⟩ => ?_))
  obtain ⟨u, v, w, e1, q1⟩ := q1
  subst e1
  obtain ⟨u1, u2, u3, rfl, ru, rv, rw'⟩ : ∃ u1 u2 u3, us = [u1, u2, u3] ∧ RelV u u1 ∧ RelV v u2 ∧ RelV w u3 := by
    cases r1 with
    | cons p q =>
      cases q with
      | cons p' q' =>
        cases q' with
        | cons p2 q2 =>
          cases q2
          exact ⟨_, _, _, rfl, p, p', p2⟩
  refine wpAny_newObj_type ?_ (by show 3 ≤ sizeLine; decide)
  have I2 : Inv X pins σ H1 { s1 with heap := s1.heap.push { cls := .type "tuple", data := .seq [u1, u2, u3].toArray } } := I1.kept (t' := s1.toks) fun b o e => Heap.get?_push_of_some _ e
  rw [hw]
  refine wpAny_bind (wpAny_pure ?_)
  show wpAny (model X.prog X.w) X.A (do rule "assign.swapped-stores"; let items ← unpackItems (.ref s1.heap.objs.size) 3 none; assignInOrder [fun t => bindName X.env z t, fun t => bindName X.env y t, fun t => bindName X.env x t] items.reverse; pure Flow.next) _ _ _
  refine wpAny_bind (wpAny_rule (wpAny_bind (unpackItems_tuple (items := #[u1, u2, u3]) (I.ok.hd hc) (IsTup.new s1.heap _) fun h' hx' => ?_)))
  have I3 := I2.kept (h' := h') (t' := s1.toks) fun b o e => hx' b o (Nat.ne_of_lt (Heap.lt_size e)) e
  show wpAny _ _ (assignInOrder [fun t => bindName X.env z t, fun t => bindName X.env y t, fun t => bindName X.env x t] [u3, u2, u1] >>= fun _ => pure Flow.next) _ _ _
  refine wpAny_bind (assignInOrder_cons (wpAny_bindName (store_ok I3 hN hk (.inl hz) rw' (fun s2 I4 => ?_) (.inr hz))))
  refine assignInOrder_cons (wpAny_bindName (store_ok I4 hN hj (.inl hy) rv (fun s3 I5 => ?_) (.inr hy)))
  refine assignInOrder_cons (wpAny_bindName (store_ok I5 hN hi (.inl hx) ru (fun s4 I6 => assignInOrder_nil (wpAny_pure ?_)) (.inr hx)))
  exact ⟨_, H1, I6, q1⟩
theorem qs_par3 (i j k : Nat) {x y z : Str} {a b c : PySem.Expr} {px py pz pt pt2 : Pos} {kt k2 : Nat} {ta : DTA} (hc : X.calm = true) (hN : X.N.Nodup) (h : QA X T Z [a, b, c] ta) (hi : X.N[i]? = some x := by rfl) (hj : X.N[j]? = some y := by rfl) (hk : X.N[k]? = some z := by rfl)
    (hx : X.env.scope.names.lookup x = some .local := by rfl) (hy : X.env.scope.names.lookup y = some .local := by rfl) (hz : X.env.scope.names.lookup z = some .local := by rfl) (hw : swappedStores [.Tuple [.Name x px, .Name y py, .Name z pz] kt pt] (.Tuple [a, b, c] k2 pt2) X.env = pure (some [x, y, z]) := by rfl)
    (hs : swapsWithSole [.Tuple [.Name x px, .Name y py, .Name z pz] kt pt] (.Tuple [a, b, c] k2 pt2) pos.line X.env = pure false := by rfl) : QS X T Z (.Assign [.Tuple [.Name x px, .Name y py, .Name z pz] kt pt] (.Tuple [a, b, c] k2 pt2) pos) (dPar3 i j k ta) :=
  ps_imp (ps_par3 hc hN hi hj hk hx hy hz h hw hs) fun E σ H ⟨ρ, F, er, De, rep, tk, h, hn, hr, hb, hc⟩ => ⟨ρ, F, er, _, rep, tk, h, fun vs H1 F1 ds ρ1 e1 rep1 rvs h1 => by
    split at h1
    · cases rvs with
      | cons r1 r2 =>
        cases r2 with
        | cons r2 r3 =>
          cases r3 with
          | cons r3 r4 =>
            cases r4
            exact ⟨_, _, _, rfl, hn _ H1 F1 _ e1 (((rep1.set (i := k) r3).set (i := j) r2).set (i := i) r1) h1⟩
    · exact h1.elim⟩
end
abbrev PureB (n i : Nat) (ts : DTS) (tn : DTN) : Prop := ∀ ns, ns.length ≤ 63 → ts (dStart n [.d (.scr ns)]) { nx := fun ρ => (∃ big : List Int, ρ[i]? = some (some (.own (.lst (big.map D.int)))) ∧ ∀ b ∈ big, 0 ≤ b) ∧ tn (ρ.map noOwn) (fun c _ => ∃ cells : List Int, c = .lst (cells.map D.int) ∧ ∀ b ∈ cells, 0 ≤ b) fun _ => False, rt := fun _ => False } fun _ => False
/-! ### ways into a text -/
def stAt (l : List Stmt) (i : Nat) : Stmt := l.getD i (.Pass ⟨0, 0, 0, 0⟩)
def forBody : Stmt → List Stmt
  | .For _ _ b _ _ => b
  | .While _ b _ _ => b
  | .If _ b _ _ => b
  | _ => []
def asgVal : Stmt → PySem.Expr
  | .Assign _ e _ => e
  | .Return (some e) _ => e
  | _ => .Constant .none 0 ⟨0, 0, 0, 0⟩
def exprVal : Stmt → PySem.Expr
  | .Expr e _ => e
  | _ => .Constant .none 0 ⟨0, 0, 0, 0⟩
def listEl (e : PySem.Expr) (i : Nat) : PySem.Expr := match e with
  | .List es _ => es.getD i (.Constant .none 0 ⟨0, 0, 0, 0⟩)
  | .Tuple es _ _ => es.getD i (.Constant .none 0 ⟨0, 0, 0, 0⟩)
  | _ => .Constant .none 0 ⟨0, 0, 0, 0⟩
def callArg (e : PySem.Expr) (i : Nat) : PySem.Expr := match e with
  | .Call _ es _ _ => es.getD i (.Constant .none 0 ⟨0, 0, 0, 0⟩)
  | _ => .Constant .none 0 ⟨0, 0, 0, 0⟩
def lamAt : PySem.Expr → Arguments × PySem.Expr × Scope
  | .Lambda p b s _ => (p, b, s)
  | _ => ({ posonlyargs := [], args := [], vararg := none, kwonlyargs := [], kw_defaults := [], kwarg := none, defaults := [] }, .Constant .none 0 ⟨0, 0, 0, 0⟩, { kind := .function, names := [], isGenerator := false, isCoroutine := false, more := [] })
end DL
set_option Elab.async false
set_option linter.all false
set_option maxRecDepth 100000
set_option maxHeartbeats 2000000
namespace DL
open PySem PySem.Spec PyProof.Rows L2
/-! ### isinstance, told by kinds -/
section
variable {sub : Str → Str → Option Bool} {non : Str → Prop} {d : D} {R : D → Prop}
def isIntD : D → Bool
  | .int _ => true
  | .bl _ => true
  | _ => false
def isBoolD : D → Bool
  | .bl _ => true
  | _ => false
def isStrD : D → Bool
  | .str _ => true
  | _ => false
def isListD : D → Bool
  | .lst _ => true
  | .scr _ => true
  | _ => false
def isTupD : D → Bool
  | .tup _ => true
  | _ => false
theorem isi_int (hd : (tyD d).isSome = true) (hR : R (.bl (isIntD d))) : gIsi sub non [d, .ty "int"] R := by
  cases d <;> first | (cases hd; done) | exact ⟨true, by decide +kernel, hR⟩ | exact ⟨false, by decide +kernel, hR⟩
theorem isi_bool (hd : (tyD d).isSome = true) (hR : R (.bl (isBoolD d))) : gIsi sub non [d, .ty "bool"] R := by
  cases d <;> first | (cases hd; done) | exact ⟨true, by decide +kernel, hR⟩ | exact ⟨false, by decide +kernel, hR⟩
theorem isi_str (hd : (tyD d).isSome = true) (hR : R (.bl (isStrD d))) : gIsi sub non [d, .ty "str"] R := by
  cases d <;> first | (cases hd; done) | exact ⟨true, by decide +kernel, hR⟩ | exact ⟨false, by decide +kernel, hR⟩
theorem isi_list (hd : (tyD d).isSome = true) (hR : R (.bl (isListD d))) : gIsi sub non [d, .ty "list"] R := by
  cases d <;> first | (cases hd; done) | exact ⟨true, by decide +kernel, hR⟩ | exact ⟨false, by decide +kernel, hR⟩
theorem isi_tup (hd : (tyD d).isSome = true) (hR : R (.bl (isTupD d))) : gIsi sub non [d, .ty "tuple"] R := by
  cases d <;> first | (cases hd; done) | exact ⟨true, by decide +kernel, hR⟩ | exact ⟨false, by decide +kernel, hR⟩
theorem isi_exc {x y : Str} {f : Option (Str × D)} {b : Bool} (h : sub x y = some b) (hR : R (.bl b)) : gIsi sub non [.exc x f, .fn y] R := by
  show match sub x y with | some b => R (.bl b) | none => False
  rw [h]
  exact hR
theorem isi_no {i : Nat} {x y : Str} {f : Option (Str × D)} {ρ : DEnv} {E : DEnds} {er : Er → Prop} {ts u : DTS} (hρ : ρ[i]? = some (some (.d (.exc x f)))) (h : sub x y = some false) (hu : u ρ E er) : dSeqS (dIfS (dVal (dB (gIsi sub non) (dCons (dVar i) (dCons (dC (.fn y)) dNil)))) ts dNext) u ρ E er := by
  simp only [dSeqS, dIfS, dVal, dB, dCons, dVar, hρ, dC, dNil, allD, Option.map_some]
  exact isi_exc h hu
theorem isi_yes {i : Nat} {x y : Str} {f : Option (Str × D)} {ρ : DEnv} {E : DEnds} {er : Er → Prop} {ts u : DTS} (hρ : ρ[i]? = some (some (.d (.exc x f)))) (h : sub x y = some true) (hu : ts ρ { E with nx := fun ρ1 => u ρ1 E er } er) : dSeqS (dIfS (dVal (dB (gIsi sub non) (dCons (dVar i) (dCons (dC (.fn y)) dNil)))) ts dNext) u ρ E er := by
  simp only [dSeqS, dIfS, dVal, dB, dCons, dVar, hρ, dC, dNil, allD, Option.map_some]
  exact isi_exc h hu
/-- return "word " + error.field -/
theorem ret_fld {i : Nat} {x w fl g : Str} {ok : Str → Prop} {ρ : DEnv} {E : DEnds} {er : Er → Prop} {s z : Str} (hρ : ρ[i]? = some (some (.d (.exc x (some (g, .str s)))))) (hok : ok x) (hg : g = fl) (hl : w.length + s.length ≤ sizeLine) (hz : w ++ s = z) (hR : E.rt (.str z)) : dRet (dBin gAdd (dC (.str w)) (dFld ok fl (dVar i))) ρ E er := by
  subst hz
  simp only [dRet, dBin, dC, dFld, dVar, hρ, gAdd]
  exact ⟨hok, hg, hl, hR⟩
end
end DL
set_option Elab.async false
set_option linter.all false
set_option maxRecDepth 100000
set_option maxHeartbeats 2000000
namespace DL
open PySem PySem.Spec PyProof.Rows L2 He
/-! ### what the head tells -/
def iniF (K : PySem.W.Frag) (C : Addr) : Addr := match PySem.W.findIn K (.ref C) "__init__" with
  | some (some (.ref f)) => f
  | _ => 0
abbrev IniV : Type := Option (Str × Str × Arguments × FuncBody × Scope × Addr × Addr × List Str)
def iniV (K : PySem.W.Frag) (x : Str) : IniV := match K.lookup (iniF K (ga K x)) with
  | some ⟨_, _, .func fd, _⟩ => some (fd.name, fd.qualname, fd.params, fd.body, fd.scope, fd.globals, fd.builtins, fd.closure.map (·.1))
  | _ => none
abbrev AlH : Type := AlT × Bool × List IniV
def obsH (n : Nat) (fa : List Fa) (fn : List DefD) (tf : List Defn) (xs : List Str) (ex : PySem.W.Frag → Bool) (g : Addr → Option Obj) : AlH :=
  (obsT fa fn [] (frT g (cStatics :: asD g n)), ex (frT g (cStatics :: asD g n)) && tabsB g tf (frT g (cStatics :: asD g n)), xs.map (iniV (frT g (cStatics :: asD g n))))
structure SaysH (fa : List Fa) (fn : List DefD) (tf : List Defn) (xs : List Str) (vs : List IniV) (ex : PySem.W.Frag → Bool) (w : World) (h : Heap) (K : PySem.W.Frag) : Prop where
  t : SaysT fa fn [] w K
  more : ex K = true
  hd : ∀ p ∈ tf, PySem.W.codeHdIn K (cT K p).1 (cT K p).2 = true
  out : ∀ p ∈ tf, K.lookup (cT K p).2 = none
  empty : ∀ p ∈ tf, h.get? (cT K p).2 = some { cls := .none, data := .fields #[] }
  ini : xs.map (iniV K) = vs
theorem saysH_of {n : Nat} {fa : List Fa} {fn : List DefD} {tf : List Defn} {xs : List Str} {vs : List IniV} {ex : PySem.W.Frag → Bool} {w : World} {h : Heap} (e : obsH n fa fn tf xs ex h.get? = (valT fn [] w, true, vs)) : SaysH fa fn tf xs vs ex w h (frT h.get? (cStatics :: asD h.get? n)) := by
  unfold obsH at e
  generalize hK : frT h.get? (cStatics :: asD h.get? n) = K at e
  injection e with e1 e2
  injection e2 with e2 e3
  obtain ⟨h1, h2⟩ := Bool.and_eq_true_iff.mp e2
  have each : ∀ p ∈ tf, PySem.W.codeHdIn K (cT K p).1 (cT K p).2 = true ∧ ∃ o, h.get? (cT K p).2 = some o ∧ emptyTab o = true := fun p hp => by
    obtain ⟨h3, h4⟩ := Bool.and_eq_true_iff.mp (List.all_eq_true.mp h2 p hp)
    refine ⟨h3, ?_⟩
    cases q : h.get? (cT K p).2 with
    | none =>
      rw [q] at h4
      cases h4
    | some o =>
      rw [q] at h4
      exact ⟨o, rfl, h4⟩
  refine ⟨e1, h1, fun p hp => (each p hp).1, fun p hp => ?_, fun p hp => ?_, e3⟩
  · obtain ⟨_, o, q, z⟩ := each p hp
    subst hK
    exact frT_none q z
  · obtain ⟨_, o, q, z⟩ := each p hp
    rw [q, emptyTab_eq z]
def hookH (n : Nat) (fa : List Fa) (fn : List DefD) (tf : List Defn) (xs : List Str) (vs : List IniV) (ex : PySem.W.Frag → Bool) : PySem.W.Hook where
  α := AlH
  obs := fun s => obsH n fa fn tf xs ex s.heap.get?
  val := fun w => (valT fn [] w, true, vs)
  says := fun w h => ∃ K : PySem.W.Frag, K.In h ∧ SaysH fa fn tf xs vs ex w h K
  of := fun _ _ e => ⟨_, frT_in, saysH_of e⟩
  keeps := fun _ _ _ ⟨K, hK, c⟩ k => ⟨K, PySem.W.Frag.In.keeps hK k, ⟨c.t, c.more, c.hd, c.out, fun p hp => k _ _ (c.empty p hp), c.ini⟩⟩
theorem obsH_eq {n : Nat} {fa : List Fa} {fn : List DefD} {tf : List Defn} {xs : List Str} {vs : List IniV} {ex : PySem.W.Frag → Bool} {g : Addr → Option Obj} {s : Shared} (h : ∀ a, g a = s.heap.get? a) : obsH n fa fn tf xs ex g = (hookH n fa fn tf xs vs ex).obs s := by
  have e : g = s.heap.get? := funext h
  rw [e] <;> rfl
/-! the classes of errors -/
abbrev veB : List Value := [.type "ValueError", .type "Exception", .type "BaseException", .type "object"]
def txtB (P : Program) (K : PySem.W.Frag) (x fld : Str) : Bool :=
  PySem.W.excInitIn K (ga K x) veB "ValueError.__new__" && ((match PySem.W.clsIn K (ga K x) with
    | some cd => HandSPX.refsVE cd.mro && cd.hasDict
    | none => false) && (decide (PySem.W.findIn K (.ref (ga K x)) "__setattr__" = some (some (.builtin "object.__setattr__"))) && (decide (PySem.W.findIn K (.ref (ga K x)) fld = some none) && (decide (PySem.W.findIn K (.ref (ga K x)) "__init__" = some (some (.ref (iniF K (ga K x))))) &&
  (decide (PySem.W.typeIn K (.ref (iniF K (ga K x))) = some (.type "function")) && (decide (PySem.W.ks_superIn K (ga K x) (ga K x) "__init__" = some (some (.builtin "ValueError.__init__"))) && (decide (PySem.W.mroIn K (ga K x) (.ref (ga K x)) = some true) && (decide (PySem.W.subIn K (.ref (ga K x)) (.type "ValueError") = some true) &&
  (decide (PySem.W.nsIn K cStatics "thirdparty.any" = some none) && (decide (PySem.W.nsIn K mainGlobals "super" = some none) && (!(P.main.scope.names.lookup ("super" : Str)).isSome && (match K.lookup (iniF K (ga K x)) with
    | some ⟨_, _, .func fd, _⟩ => (match fd.defaults, fd.kwdefaults with
      | .none, .none => true
      | _, _ => false) && (PySem.W.codeIn K fd.code fd.qualname && ((match fd.code with
      | .ref cda => (match K.lookup cda with
        | some ⟨_, _, .fields vs, _⟩ => (match (vs[2]? : Option Value) with
          | some (.str file _) => ((P.main.file : Str) == file)
          | _ => false)
        | _ => false)
      | _ => false) && (match fd.closure with
      | [(_, cc)] => (match K.lookup cc with
        | some ⟨_, _, .cell (some (.ref D)), _⟩ => decide (D = ga K x)
        | _ => false)
      | _ => false)))
    | _ => false))))))))))))
theorem txt_of {P : Program} {K : PySem.W.Frag} {x fld msg q : Str} {params : Arguments} {body : List Stmt} {scope : Scope} {p0 p1 p2 p3 p4 p5 q1 q2 q3 q4 : Pos} {j : Nat} {ar : Arg} (hb : txtB P K x fld = true) (hv : iniV K x = (some (("__init__" : Str), q, params, FuncBody.stmts body, scope, mainGlobals, builtinsNs, ([("__class__" : Str)] : List Str)) : IniV))
    (hbody : body = [.Expr (.Call (.Attribute (.Call (.Name "super" p0) [] [] p1) "__init__" p2) [.Constant (.str msg) j p3] [] p4) p5, .Assign [.Attribute (.Name "self" q1) fld q2] (.Name fld q3) q4]) (hsc : scope = XI.iSc fld) (har : (params.posonlyargs ++ params.args).head? = some ar) (hself : ar.arg = "self")
    (hbind : ∀ (doc pm ct : Value) (an : Option Addr) (cda cc : Addr) (a b : Value), bindArgs (PySem.W.ksFn "__init__" q params body scope .none .none doc pm an (.ref cda) ct cc) ⟨[a, b], []⟩ = pure [(("self" : Str), a), (fld, b)])
    (hl2 : (XI.iSc fld).names.lookup fld = some .local) (hl3 : (XI.iSc fld).names.lookup ("super" : Str) = some .globalImplicit) (hl4 : (XI.iSc fld).names.lookup ("__class__" : Str) = some .free) (hnf : (("self" : Str) == fld) = false) (hdb : (fld == ("__debug__" : Str)) = false) (hpos : p2.endLine = p4.line) :
    XI.Txt P K (ga K x) x fld msg (iniF K (ga K x)) := by
  unfold txtB at hb
  simp only [Bool.and_eq_true, decide_eq_true_eq, Bool.not_eq_true'] at hb
  obtain ⟨b1, b2, b3, b4, b5, b6, b7, b8, b9, b10, b11, b12, b13⟩ := hb
  subst hsc hbody
  refine ⟨b1, ?_, b3, b4, b5, b6, b7, b8, b9, b10, b11, b12, ?_⟩
  · split at b2
    · rename_i cd e
      exact ⟨cd, e, (Bool.and_eq_true_iff.mp b2).1, (Bool.and_eq_true_iff.mp b2).2⟩
    · cases b2
  · unfold iniV at hv
    generalize iniF K (ga K x) = f at hv b13
    split at b13
    · rename_i oc od fd osl e
      rw [e] at hv
      simp only [Bool.and_eq_true] at b13
      obtain ⟨c0, c1, c2, c3⟩ := b13
      obtain ⟨nm, qn, pr, bd, sc, gl, clo, df, kd, doc, pm, an, code, ct, bl⟩ := fd
      have hv := Option.some.inj hv
      simp only [Prod.mk.injEq] at hv
      obtain ⟨rfl, rfl, rfl, rfl, rfl, rfl, rfl, hclo⟩ := hv
      have hdk : df = .none ∧ kd = .none := by
        cases df <;> cases kd <;> first | exact ⟨rfl, rfl⟩ | (cases c0; done)
      obtain ⟨rfl, rfl⟩ := hdk
      split at c2
      · rename_i cda hcode
        have hcode : code = .ref cda := hcode
        subst hcode
        split at c2
        · rename_i ccl cdd vs ccs hcda
          split at c2
          · rename_i file tf hvs
            split at c3
            · rename_i n cc hcl
              have hcl : clo = [(n, cc)] := hcl
              subst hcl
              have hn : n = "__class__" := by
                have z : [n] = [("__class__" : Str)] := hclo
                exact List.head_eq_of_cons_eq z
              subst hn
              split at c3
              · rename_i cl cld D csl hcc
                have hD := of_decide_eq_true c3
                subst hD
                exact ⟨_, _, _, _, _, _, _, _, _, _, _, cc, cda, p0, p1, p2, p3, p4, p5, q1, q2, q3, q4, j, ar, e, c1, har, hself, hbind _ _ _ _ _ _, ⟨_, _, _, _, _, _, hcda, hvs, c2⟩, ⟨_, _, _, hcc⟩, hl2, hl3, hl4, hnf, hdb, hpos⟩
              · cases c3
            · cases c3
          · cases c2
        · cases c2
      · cases c2
    · cases b13
def clsIni : Stmt → Stmt
  | .ClassDef _ _ _ (st :: _) _ _ _ _ _ _ _ => st
  | st => st
end DL
set_option Elab.async false
set_option linter.all false
set_option maxRecDepth 100000
set_option maxHeartbeats 2000000
namespace DL
open PySem PySem.Spec PyProof.Rows L2
/-! ### how long a text of plain data is -/
structure Rb (d : D) (n k : Nat) : Prop where
  plain : d.plain = true
  sh : d.py.showable = true
  len : d.py.shown.length ≤ n
  dep : d.py.depth ≤ k
theorem Rb.ok {d : D} {n k : Nat} (h : Rb d n k) (hn : n ≤ 5000) (hk : k ≤ 60) : ReprOk d :=
  ⟨h.plain, h.sh, by rw [sizeLine_eq]; have := h.len; omega, Nat.le_trans h.dep hk⟩
theorem Rb.mono {d : D} {n k n' k' : Nat} (h : Rb d n k) (hn : n ≤ n') (hk : k ≤ k') : Rb d n' k' := ⟨h.plain, h.sh, Nat.le_trans h.len hn, Nat.le_trans h.dep hk⟩
theorem rb_non : Rb .non 4 0 := ⟨rfl, rfl, by decide, by simp [D.py, PyData.depth]⟩
theorem rb_bl {b : Bool} : Rb (.bl b) 5 0 := ⟨rfl, rfl, by cases b <;> decide, by simp [D.py, PyData.depth]⟩
theorem rb_intN {i : Int} {m : Nat} (hm : 0 < m) (h : i.natAbs.log2 < m) (h2 : m < 1920) : Rb (.int i) (m + 1) 0 :=
  ⟨rfl, by show decide _ = true; exact decide_eq_true (by omega), by show (Str.ofString (toString i)).length ≤ _; rw [PySem.ofString_length]; exact int_text_length_le hm h, by simp [D.py, PyData.depth]⟩
theorem log2_of {n m : Nat} (hm : 0 < m) (h : n < 2 ^ m) : n.log2 < m := by
  by_cases h0 : n = 0
  · subst h0
    exact hm
  · exact (Nat.log2_lt h0).mpr h
theorem rb_int {i : Int} (h1 : -(2 ^ 400) < i) (h2 : i < 2 ^ 400) : Rb (.int i) 401 0 :=
  rb_intN (by decide) (log2_of (by decide) (by omega)) (by decide)
theorem textFrom_le : ∀ (ts : List Str) (k : Nat) (acc : Str) (n : Nat), (∀ t ∈ ts, t.length ≤ n) → (textFrom k acc ts).length ≤ acc.length + ts.length * (n + 2)
  | [], k, acc, n, _ => by
    show acc.length ≤ _
    omega
  | t :: r, k, acc, n, h => by
    have ih := textFrom_le r (k + 1) (acc ++ (if k > 0 then ", " else "" : String) ++ t) n fun u hu => h u (List.mem_cons_of_mem _ hu)
    have e : (acc ++ (if k > 0 then ", " else "" : String) ++ t).length = acc.length + (if k > 0 then 2 else 0) + t.length := by
      rw [strLen_append, strLen_append]
      split <;> rfl
    have ht := h t List.mem_cons_self
    have hz : (if k > 0 then 2 else 0 : Nat) ≤ 2 := by split <;> omega
    rw [e] at ih
    show (textFrom (k + 1) _ r).length ≤ acc.length + (r.length + 1) * (n + 2)
    rw [Nat.succ_mul]
    omega
theorem piled_le {ts : List Str} {n : Nat} (h : ∀ t ∈ ts, t.length ≤ n) : piled ts ≤ ts.length * (n + 2) := by
  induction ts with
  | nil => simp [piled]
  | cons t r ih =>
    rw [piled_cons, List.length_cons, Nat.succ_mul]
    have h1 := ih fun u hu => h u (List.mem_cons_of_mem _ hu)
    have h2 := h t List.mem_cons_self
    omega
theorem tupleText_le {ts : List Str} {n : Nat} (h : ∀ t ∈ ts, t.length ≤ n) : (tupleText ts).length ≤ 3 + ts.length * (n + 2) := by
  unfold tupleText
  rw [strLen_append, strLen_append]
  have e1 : ((("(" : String) : Str)).length = 1 := rfl
  have e3 : (((if ts.length == 1 then ",)" else ")" : String) : Str)).length ≤ 2 := by split <;> decide
  rw [e1]
  have hp := piled_le h
  by_cases hts : ts = []
  · subst hts
    have : (Str.join ", " []).length = 0 := rfl
    omega
  · have := join_length_add ts hts
    omega
theorem rb_all {n k : Nat} : ∀ {xs : List D}, (∀ x ∈ xs, Rb x n k) → plainL xs = true ∧ PyData.showableAll (pyL xs) = true ∧ (PyData.shownAll (pyL xs)).length = xs.length ∧ (∀ t ∈ PyData.shownAll (pyL xs), t.length ≤ n) ∧ PyData.depthAll (pyL xs) ≤ k
  | [], _ => ⟨rfl, by simp [pyL, PyData.showableAll], by simp [pyL, PyData.shownAll], by simp [pyL, PyData.shownAll], by simp [pyL, PyData.depthAll]⟩
  | x :: xs, h => by
    have h1 := h x List.mem_cons_self
    obtain ⟨a1, a2, a3, a4, a5⟩ := rb_all fun y hy => h y (List.mem_cons_of_mem x hy)
    refine ⟨by simp only [plainL, h1.plain, a1, Bool.and_self], by simp only [pyL, PyData.showableAll, h1.sh, a2, Bool.and_self], by simp only [pyL, PyData.shownAll, List.length_cons, a3], fun t ht => ?_, by simp only [pyL, PyData.depthAll]; exact Nat.max_le.mpr ⟨h1.dep, a5⟩⟩
    simp only [pyL, PyData.shownAll, List.mem_cons] at ht
    rcases ht with rfl | ht
    · exact h1.len
    · exact a4 t ht
theorem rb_lst {xs : List D} {n k : Nat} (h : ∀ x ∈ xs, Rb x n k) : Rb (.lst xs) (2 + xs.length * (n + 2)) (k + 1) := by
  obtain ⟨a1, a2, a3, a4, a5⟩ := rb_all h
  refine ⟨a1, a2, ?_, Nat.succ_le_succ a5⟩
  show (listText _).length ≤ _
  unfold listText
  rw [strLen_append]
  have h1 := textFrom_le _ 0 "[" n a4
  rw [a3] at h1
  have e1 : ((("[" : String) : Str)).length = 1 := rfl
  have e2 : ((("]" : String) : Str)).length = 1 := rfl
  omega
theorem rb_tup {xs : List D} {n k : Nat} (h : ∀ x ∈ xs, Rb x n k) : Rb (.tup xs) (3 + xs.length * (n + 2)) (k + 1) := by
  obtain ⟨a1, a2, a3, a4, a5⟩ := rb_all h
  refine ⟨a1, a2, ?_, Nat.succ_le_succ a5⟩
  have h1 := tupleText_le a4
  rw [a3] at h1
  exact h1
end DL
set_option Elab.async false
set_option linter.all false
set_option maxRecDepth 100000
set_option maxHeartbeats 2000000
namespace DL
open PySem PySem.Spec PyProof.Rows L2
section
variable {sp : Sp} {P : Program} {w : World} {K : PySem.W.Frag} {mg : Mg} {base : Heap} {T : List (Addr × Str)} {x xb : Str} {st stb : Stmt} {f : Addr} {fd : FuncData} {N ps psb : List Str} {k kb : Nat} {ts : DTS} {j : Nat} {rest : List Stmt} {d sc : Str} {pd p psc pos pos2 : Pos}
theorem law_okC {c : Addr} (hc : ∀ (oc : Value) (od : Option Addr) (fd' : FuncData) (osl : Array (Option Value)) (c' : Addr), K.lookup f = some ⟨oc, od, .func fd', osl⟩ → fd'.code = .ref c' → c' = c) (hm : mg x = some (.ref f)) (Fd : FunD K x x (defArgs st) (defBody st) (defScope st) [] [] f fd) (S : FnScope N ps (defScope st)) (hbd : Binds K fd ps []) (hps : ps.length = 1) (hbody : defBody st = .Assign [.Name d pd] (.Call (.Name xb p) [.Name sc psc] [] pos) pos2 :: rest)
    (O : Fo P w K mg base xb stb psb kb (SpB K mg T)) (hkb : kb ≤ k)
    (h1 : ∀ (f : Addr) (cdv : Value) (A : Around) (outer : List Env) (s : Shared) (H : Hp) (E : XK) (t : TE), PE (CxD P w K mg base N x st f cdv A outer s H E) (.Call (.Name xb p) [.Name sc psc] [] pos) t → PS (CxD P w K mg base N x st f cdv A outer s H E) (.Assign [.Name d pd] (.Call (.Name xb p) [.Name sc psc] [] pos) pos2) (tAsg t (gName j)))
    (hcall : ∀ (f : Addr) (cdv : Value) (A : Around) (outer : List Env) (s : Shared) (H : Hp) (E : XK), Gl (CxD P w K mg base N x st f cdv A outer s H E) xb ∧ PE (CxD P w K mg base N x st f cdv A outer s H E) (.Name sc psc) (tVar 0) ∧ starEach [.Name sc psc] (CxD P w K mg base N x st f cdv A outer s H E).env = (false, eval (.Name sc psc) (CxD P w K mg base N x st f cdv A outer s H E).env) :: starEach [] (CxD P w K mg base N x st f cdv A outer s H E).env)
    (hdb : (xb == ("__debug__" : Str)) = false)
    (h2 : ∀ (f : Addr) (A : Around) (outer : List Env) (s : Shared) (H : Hp) (E : XK) (Z : Zx), Room k (A.deeper (envOfC x (defScope st) s.heap.objs.size f (.ref c))) → A.guards = some [] → QSs (CxD P w K mg base N x st f (.ref c) A outer s H E) T Z rest ts)
    (hp : ∀ ns, ns.length ≤ 63 → (∀ n ∈ ns, Builtin.Int.intBits n ≤ 1048576) → ts ((dStart N.length [.d (.scr ns)]).set j (some .drw)) { nx := fun _ => False, rt := fun d => d = .bl true } fun _ => False) : Go P w K mg base x st ps (k + 1) (SpLaw K mg T) := by
  refine ⟨f, fd, hm, Fd, hbd, fun vs H Q E ⟨F, v, ns, e, _⟩ => by rw [e, hps] <;> rfl, fun A outer s H args us vs Q E hr hg e0 hbi r h => ?_⟩
  obtain ⟨F, v, ns, ev, hlen, kk, rv, hq⟩ := id h
  subst ev
  obtain ⟨oc, od, dV, kV, doc, pm, an, cdv, ct, osl, rfl, lk, hcd, hD, hK⟩ := Fd.ex
  obtain ⟨c', rfl⟩ := He.codeIn_ref hcd
  obtain rfl : c' = c := hc _ _ _ _ _ lk rfl
  refine LamX.run_ofS lk hcd S hr e0 hbi r (by rw [hps] <;> rfl) fun hr' => ?_
  obtain ⟨g, fdb, hmb, Fb, hbb, okb⟩ := O.ex
  obtain ⟨hgl, hpe, hst⟩ := hcall f _ A outer s H E
  rw [hbody]
  have tk0 : ∀ {T' : List (Addr × Str)} {Z' : Zx}, Takes (CxD P w K mg base N x st f (.ref c') A outer s H E) (Wer K mg T' Z' fun _ => False) := takesF
  have P1 := h1 f _ A outer s H E _ (pe_callSD (p := p) (pos := pos) (E := WE (Wer K mg T ⟨none, F, H⟩ fun _ => False)) okb (hr'.mono hkb) hgl hmb Fb.kp hbb .nil (passAt tk0) (pa_cons hpe pa_nil hst) hdb hst (by rfl))
  have P2 : PSs (CxD P w K mg base N x st f (.ref c') A outer s H E) rest (fun E' σ H' => ∃ Z', upS (CxD P w K mg base N x st f (.ref c') A outer s H E) T Z' ts E' σ H') := ⟨fun pins s' σ H' E' I ⟨Z', u⟩ => (h2 f A outer s H E Z' hr' hg).run pins s' σ H' E' I u⟩
  refine ⟨_, pss_cons P1 P2, ?_⟩
  have rp := rep_start (N := N) kk (.cons (show RpA K mg F none v (.d (.scr ns)) from rv) .nil)
  have hN : 0 < N.length := by
    have := congrArg List.length S.pre
    rw [List.length_take, hps] at this
    omega
  have h0 : (L2.start N [v])[0]? = some (some v) := rfl
  refine ⟨v, h0, F, v, ns, rfl, hlen, kk, rv, fun a l H1 F1 g1 k1 ha hl => ?_⟩
  have hbits : ∀ n ∈ ns, Builtin.Int.intBits n ≤ 1048576 := by
    cases rv with
    | scr _ h => exact h
  have none_ : ∀ (i : Nat) (y : DV), (dStart N.length [.d (.scr ns)])[i]? = some (some y) → y = .d (.scr ns) := fun i y e => by
    unfold dStart at e
    cases i with
    | zero =>
      cases e
      rfl
    | succ i =>
      rw [List.getElem?_append_right (by simp), List.getElem?_replicate] at e
      split at e <;> cases e
  have r1 := rep_begun (j := j) rp.len rp.dat (fun i e => by cases none_ i _ e) (fun i c e => by cases none_ i _ e) (fun i L cs e => by cases none_ i _ e) g1.ff k1
  refine ⟨⟨some (a, l), F1, H1⟩, _, F1, fun _ => False, _, r1, tk0, hp ns hlen hbits, fun _ _ _ _ _ _ z => z.elim, fun v σ' H' F' ρ' d _ _ rv e => ?_, fun _ _ _ _ _ _ z => z.elim, fun _ _ _ _ _ _ z => z.elim⟩
  subst e
  cases rv
  exact hq H'
theorem Go.at_ (O : Go P w K mg base x st ps k sp) (hm : mg x = some (.ref f)) (F : FunD K x x (defArgs st) (defBody st) (defScope st) [] [] f fd) : FnG P w K mg base k f fd ps sp := by
  obtain ⟨f', fd', hm', F', _, ok⟩ := O.ex
  rw [hm] at hm'
  cases hm'
  obtain ⟨_, _, _, _, _, _, _, _, _, _, _, lk, _⟩ := F.ex
  obtain ⟨_, _, _, _, _, _, _, _, _, _, _, lk', _⟩ := F'.ex
  rw [lk] at lk'
  cases lk'
  exact ok
end
end DL
set_option Elab.async false
set_option linter.all false
set_option maxRecDepth 100000
set_option maxHeartbeats 2000000
namespace DL
open PySem PySem.Spec PyProof.Rows L2
/-- [f(x) for x in .. if p(x)] -/
theorem lc_fm {wi : DTI} {i : Nat} {vs : List Nat} {tt : DTT} {te : DTE} {ρ : DEnv} {R : Own → DEnv → Prop} {er : Er → Prop} (p : D → Bool) (f : D → D) (hm : ∀ (Q Q' : List D → DEnv → Prop), (∀ ds ρ1, Q ds ρ1 → Q' ds ρ1) → wi ρ Q er → wi ρ Q' er)
    (h : wi ρ (fun ds ρ1 => ds.length ≤ sizeLine ∧ (∀ d ∈ ds, ∀ S : Bool → DEnv → Prop, S (p d) ((inE ρ1 vs).set i (some (.d d))) → tt ((inE ρ1 vs).set i (some (.d d))) S fun _ => False) ∧
      (∀ d ∈ ds, p d = true → ∀ S : D → DEnv → Prop, (∀ ρ2, S (f d) ρ2) → te ((inE ρ1 vs).set i (some (.d d))) S fun _ => False) ∧ R (.lst ((ds.filter p).map f)) ρ1) er) : dLc wi i vs tt te ρ R er := by
  refine hm _ _ (fun ds ρ1 ⟨hz, ht, hs, hR⟩ => ?_) h
  refine ⟨fun k acc => acc = ((ds.take k).filter p).map f, rfl, fun k d acc hd ha => ?_, fun acc ha => ?_⟩
  · have ha : acc = ((ds.take k).filter p).map f := ha
    have hk := (List.getElem?_eq_some_iff.mp hd).1
    have hmem := List.mem_of_getElem? hd
    have e1 : ds.take (k + 1) = ds.take k ++ [d] := by
      rw [List.take_succ, hd]
      rfl
    refine ht d hmem _ ?_
    cases z : p d with
    | true =>
      refine hs d hmem z _ fun ρ2 => ⟨?_, ?_⟩
      · have : ((ds.take k).filter p).length ≤ (ds.take k).length := List.length_filter_le ..
        rw [List.length_take] at this
        rw [ha, List.length_map]
        omega
      · show acc ++ [f d] = ((ds.take (k + 1)).filter p).map f
        rw [ha, e1, List.filter_append, List.map_append]
        simp [z]
    | false =>
      show acc = ((ds.take (k + 1)).filter p).map f
      rw [ha, e1, List.filter_append]
      simp [z]
  · have ha : acc = ((ds.take ds.length).filter p).map f := ha
    rw [ha, List.take_of_length_le (Nat.le_refl _)]
    exact hR
end DL
set_option Elab.async false
set_option linter.all false
set_option maxRecDepth 100000
set_option maxHeartbeats 2000000
namespace DL
open PySem PySem.Spec PyProof.Rows L2
/-! ### lists of integers compared -/
theorem ints_data : ∀ l : List Int, plainL (l.map D.int) = true ∧ PyData.canLayAll0 (pyL (l.map D.int)) = true ∧ PyData.depthAll (pyL (l.map D.int)) = 0
  | [] => ⟨rfl, by simp [pyL, PyData.canLayAll0], by simp [pyL, PyData.depthAll]⟩
  | x :: l => by
    obtain ⟨h1, h2, h3⟩ := ints_data l
    refine ⟨?_, ?_, ?_⟩
    · show (true && plainL (l.map D.int)) = true
      rw [h1]
      rfl
    · rw [List.map_cons]
      simp only [pyL, D.py, PyData.canLayAll0, PyData.canLay0, h2, Bool.and_self]
    · rw [List.map_cons]
      simp only [pyL, D.py, PyData.depthAll, PyData.depth, h3]
      rfl
theorem eqOk_ints (l m : List Int) : EqOk (.lst (l.map D.int)) (.lst (m.map D.int)) := by
  have key : ∀ l : List Int, SeqAt.shaped (D.lst (l.map D.int)).py = true := fun l => by
    obtain ⟨h1, h2, h3⟩ := ints_data l
    unfold SeqAt.shaped
    simp only [D.py, PyData.canLay0, PyData.depth, h2, h3]
    rfl
  exact ⟨(ints_data l).1, (ints_data m).1, key l, key m⟩
theorem eqv_intsNil (l : List Int) : PyData.eqv (D.lst (l.map D.int)).py (D.lst []).py = l.isEmpty := by
  cases l with
  | nil => simp [D.py, pyL, PyData.eqv, PyData.eqvAll]
  | cons x l => simp [D.py, pyL, PyData.eqv, PyData.eqvAll]
end DL
set_option Elab.async false
set_option linter.all false
set_option maxRecDepth 100000
set_option maxHeartbeats 2000000
namespace DL
open PySem PySem.Spec PyProof.Rows L2
/-! ### name op= e, whole numbers -/
section
variable {X : Cx} {T : List (Addr × Str)} {Z : Zx} {e : Expr} {te : DTE} {pos pos' : Pos} {x : Str}
def dAug (i : Nat) (g : Int → Int → Int) (te : DTE) : DTS := fun ρ E er => match ρ[i]? with
  | some (some (.d (.int a))) => te ρ (fun d ρ1 => match d with
    | .int b => E.nx (ρ1.set i (some (.d (.int (g a b)))))
    | _ => False) er
  | _ => False
theorem qs_aug (i : Nat) {g : Int → Int → Int} {op : Operator} (ho : PIp X op (ipI g)) (hN : X.N.Nodup) (h : QE X T Z e te) (hi : X.N[i]? = some x := by rfl) (hx : Loc X.env.scope x := by first | exact Or.inl rfl | exact Or.inr rfl) (hf : X.fn x = true ∨ X.env.scope.names.lookup x = some .local := by first | exact .inl rfl | exact .inr rfl) :
    QS X T Z (.AugAssign (.Name x pos') op e pos) (dAug i g te) :=
  ps_imp (ps_aug hN hi hx h ho hf) fun E σ H ⟨ρ, F, er, De, rep, tk, h, hn, hr, hb, hc⟩ => by
    unfold dAug at h
    split at h
    · rename_i a e0
      obtain ⟨v, e1, rv⟩ := rep.dat _ _ e0
      cases rv
      refine ⟨_, e1, ρ, F, er, _, rep, tk, h, fun v H1 F1 d ρ1 e1 rep1 rv h1 => ?_⟩
      cases rv <;> try exact h1.elim
      exact ⟨_, _, rfl, rfl, hn _ H1 F1 _ e1 (rep1.set (.int _)) h1⟩
    · exact h.elim
theorem qs_augAdd (i : Nat) (hN : X.N.Nodup) (h : QE X T Z e te) (hi : X.N[i]? = some x := by rfl) (hx : Loc X.env.scope x := by first | exact Or.inl rfl | exact Or.inr rfl) (hf : X.fn x = true ∨ X.env.scope.names.lookup x = some .local := by first | exact .inl rfl | exact .inr rfl) :
    QS X T Z (.AugAssign (.Name x pos') .Add e pos) (dAug i (fun a b => a + b) te) := qs_aug i ip_add hN h hi hx hf
theorem qs_augSub (i : Nat) (hN : X.N.Nodup) (h : QE X T Z e te) (hi : X.N[i]? = some x := by rfl) (hx : Loc X.env.scope x := by first | exact Or.inl rfl | exact Or.inr rfl) (hf : X.fn x = true ∨ X.env.scope.names.lookup x = some .local := by first | exact .inl rfl | exact .inr rfl) :
    QS X T Z (.AugAssign (.Name x pos') .Sub e pos) (dAug i (fun a b => a - b) te) := qs_aug i ip_sub hN h hi hx hf
end
end DL
set_option Elab.async false
set_option linter.all false
set_option maxRecDepth 100000
set_option maxHeartbeats 2000000
namespace DL
open PySem PySem.Spec PyProof.Rows L2
/-! ### max, min of a list or a tuple of whole numbers -/
section
variable {prog : Program} {w : World} {A : Around} {E : Value → Shared → Prop} {s : Shared} {l : Addr} {its : List Value} {ns : List Int} {Q : Value → Shared → Prop}
theorem max_tupI {xs : Array (Int × Tok)} (hh : A.handled = none) (hl : s.heap.IsTuple l (intItems xs)) (hne : 0 < xs.size)
    (h : ∀ v h' tk, (intItems xs)[argBest (fun i j => decide (numAt xs i > numAt xs j)) (xs.size - 1)]? = some v → (∀ b o, s.heap.get? b = some o → h'.get? b = some o) → Q v { s with heap := h', toks := tk }) :
    wpAny (model prog w) A (call (.builtin "max") [.ref l]) Q E s := by
  have hlt : l < s.heap.objs.size := by obtain ⟨_, e, _⟩ := hl; exact Heap.lt_size e
  refine call_max_walk (wpAny_pyIter_tuple hl ?_)
  refine ⟨_, [s.heap.objs.size, l], [s.heap.objs.size], _, _, _, _, rfl, Walks.tuple (A := A.in1) hh _ l (Nat.ne_of_lt hlt) (intItems xs), ⟨⟨_, Heap.get?_push_size _ rfl, rfl, rfl⟩, hl.push _⟩, fun b hb => ?_, by simpa [intItems] using hne, CmpOf.ints_gt (numAt xs) (fun _ _ => intItems_at), fun v h' tk hP hk => ?_⟩
  · show b < (s.heap.push _).objs.size
    rw [Heap.size_push]
    rcases List.mem_cons.mp hb with rfl | hb
    · exact Nat.lt_succ_self _
    · rcases List.mem_cons.mp hb with rfl | hb
      · exact Nat.lt_succ_of_lt hlt
      · cases hb
  · refine h v h' tk (by simpa [intItems] using hP) fun b o e => hk b o ?_ (Heap.get?_push_of_some _ e)
    intro hb
    rcases List.mem_cons.mp hb with rfl | hb
    · exact absurd (Heap.lt_size e) (Nat.lt_irrefl _)
    · cases hb
theorem max_tup_raw (hh : A.handled = none) (hl : s.heap.IsTuple l its.toArray) (hi : IntsAre its ns) (hne : 0 < ns.length)
    (h : ∀ h' tk M t', (∀ b o, s.heap.get? b = some o → h'.get? b = some o) → M ∈ ns → (∀ a, a ∈ ns → a ≤ M) → Q (.int M t') { s with heap := h', toks := tk }) : wpAny (model prog w) A (call (.builtin "max") [.ref l]) Q E s := by
  obtain ⟨xs, e⟩ := hi.allInts.items
  have hn : numsOf (intItems xs).toList = ns := by rw [← e]; exact hi.numsOf
  rw [nums_intItems] at hn
  subst hn
  rw [e] at hl
  have hsz : 0 < xs.size := by simpa using hne
  refine max_tupI hh hl hsz fun v h' tk hv hk => ?_
  obtain ⟨t, rfl⟩ := intItems_at hv
  obtain ⟨h1, h2⟩ := argBest_gt (numAt xs) (xs.size - 1)
  refine h h' tk _ t hk ?_ fun a ha => ?_
  · rw [numAt_eq]; exact PySem.getD_mem (by rw [List.length_map, Array.length_toList]; omega)
  · obtain ⟨j, hj, rfl⟩ := mem_getD ha
    rw [List.length_map, Array.length_toList] at hj
    rw [← numAt_eq]; exact h2 j (by omega)
end
section
variable {X : Cx} {T : List (Addr × Str)} {Z : Zx} {a : PySem.Expr} {es : List PySem.Expr} {ta : DTA} {p pos : Pos}
def rMaxT (K : PySem.W.Frag) : List V → Hp → VK → Prop := fun vs H Q => ∃ (a : Addr) (ns : List Int), vs = [V.ref a] ∧ SqT K H a (ns.map V.int) ∧ 0 < ns.length ∧ ∀ m, m ∈ ns → (∀ y, y ∈ ns → y ≤ m) → Q (.int m) H
theorem cr_maxT (hc : X.calm = true) : CallR X (.builtin "max") (rMaxT X.K) := by
  intro pins s σ H vs us Q I r h
  obtain ⟨a, ns, rfl, hs, hne, q⟩ := h
  obtain ⟨its, rv, hl, _⟩ := I.tuple hs
  rw [Vals.ref1 r]
  exact max_tup_raw (I.ok.hd hc) hl rv.ints hne fun h' tk m t' hk h1 h2 => ⟨.int _, H, I.kept hk, ⟨_, rfl⟩, q m h1 h2⟩
theorem cr_or {f : Value} {r1 r2 : List V → Hp → VK → Prop} (h1 : CallR X f r1) (h2 : CallR X f r2) : CallR X f (fun vs H Q => r1 vs H Q ∨ r2 vs H Q) := by
  intro pins s σ H vs us Q I r h
  rcases h with h | h
  · exact h1 pins s σ H vs us Q I r h
  · exact h2 pins s σ H vs us Q I r h
def gMax1 : List D → (D → Prop) → Prop
  | [.lst xs], R => match inD xs with
    | some bs => 0 < bs.length ∧ ∀ m, m ∈ bs → (∀ y, y ∈ bs → y ≤ m) → R (.int m)
    | none => False
  | [.tup xs], R => match inD xs with
    | some bs => 0 < bs.length ∧ ∀ m, m ∈ bs → (∀ y, y ∈ bs → y ≤ m) → R (.int m)
    | none => False
  | _, _ => False
theorem max_in {bs : List Int} (h : 0 < bs.length) : ∃ m, m ∈ bs ∧ ∀ y, y ∈ bs → y ≤ m := by
  induction bs with
  | nil => cases h
  | cons b bs ih =>
    cases bs with
    | nil => exact ⟨b, List.mem_cons_self, fun y hy => by
        rcases List.mem_cons.mp hy with rfl | hy
        · exact Int.le_refl _
        · cases hy⟩
    | cons c bs =>
      obtain ⟨m, m1, m2⟩ := ih (by simp)
      by_cases z : b ≤ m
      · exact ⟨m, List.mem_cons_of_mem _ m1, fun y hy => by
          rcases List.mem_cons.mp hy with rfl | hy
          · exact z
          · exact m2 y hy⟩
      · exact ⟨b, List.mem_cons_self, fun y hy => by
          rcases List.mem_cons.mp hy with rfl | hy
          · exact Int.le_refl _
          · have := m2 y hy
            omega⟩
theorem max_one {bs : List Int} {m m' : Int} (h1 : m ∈ bs) (h2 : ∀ y, y ∈ bs → y ≤ m) (h3 : m' ∈ bs) (h4 : ∀ y, y ∈ bs → y ≤ m') : m = m' := by
  have := h2 _ h3
  have := h4 _ h1
  omega
theorem qe_max1 (hc : X.calm = true) (hg : Gl X "max") (hm : X.mg "max" = none) (ha : QA X T Z (a :: es) ta)
    (he : starEach (a :: es) X.env = (false, eval a X.env) :: starEach es X.env := by rfl) (hpl : (backTo pos (starEach es X.env)).any (·.1) = false := by rfl) : QE X T Z (.Call (.Name "max" p) (a :: es) [] pos) (dB gMax1 ta) :=
  qe_B (cr_or (cr_max hc) (cr_maxT hc)) (okB_at fun dr F H vs ds R k rv h => by
    unfold gMax1 at h
    split at h
    · split at h
      · rename_i bs hb
        obtain ⟨a, ys, rfl, hs, r2⟩ := lst_at k rv
        rw [r2.ins hb] at hs
        obtain ⟨m, m1, m2⟩ := max_in h.1
        exact ⟨_, _, .int m, h.2 m m1 m2, fun Q q => .inl ⟨_, _, rfl, hs, h.1, fun m' m3 m4 => by
          rw [max_one m3 m4 m1 m2]
          exact q⟩⟩
      · exact h.elim
    · split at h
      · rename_i bs hb
        obtain ⟨v, rfl, r1⟩ := rv.one
        cases r1 with
        | tup h1 h2 =>
          rw [h2.ins hb] at h1
          obtain ⟨m, m1, m2⟩ := max_in h.1
          exact ⟨_, _, .int m, h.2 m m1 m2, fun Q q => .inr ⟨_, _, rfl, k.sub.sqt h1, h.1, fun m' m3 m4 => by
            rw [max_one m3 m4 m1 m2]
            exact q⟩⟩
      · exact h.elim
    · exact h.elim) (by decide +kernel) hg hm ha (by decide) (by decide) he hpl
end
end DL
set_option Elab.async false
set_option linter.all false
set_option maxRecDepth 100000
set_option maxHeartbeats 2000000
namespace DL
open PySem PySem.Spec PyProof.Rows L2
/-! ### x in [..], [..].index(x), flat data -/
def vOf : D → V
  | .bl b => .bl b
  | .int i => .int i
  | .str x => .str x
  | _ => .non
def eqS (a b : D) : Bool := eqV (vOf a) (vOf b)
theorem vOf_eq {K : PySem.W.Frag} {mg : Mg} {F : Hp} {v : V} {d : D} (r : Rp K mg F v d) (h : scalD d = true) : v = vOf d := by
  cases r <;> first | rfl | (cases h; done)
theorem flat_of {d : D} (h : scalD d = true) : flatV (vOf d) = true := by
  cases d <;> first | rfl | (cases h; done)
theorem vOfs_eq {K : PySem.W.Frag} {mg : Mg} {F : Hp} : ∀ {vs : List V} {ds : List D}, RpL K mg F vs ds → ds.all scalD = true → vs = ds.map vOf
  | [], [], .nil, _ => rfl
  | _, _, .cons r t, h => by
    rw [List.all_cons, Bool.and_eq_true] at h
    rw [List.map_cons, vOf_eq r h.1, vOfs_eq t h.2]
theorem flats_of {ds : List D} (h : ds.all scalD = true) : (ds.map vOf).all flatV = true := by
  rw [List.all_map]
  refine List.all_eq_true.mpr fun d hd => flat_of (List.all_eq_true.mp h d hd)
theorem inV_of (x : D) (ds : List D) : inV (vOf x) (ds.map vOf) = ds.any fun y => eqS y x := by
  unfold inV
  rw [List.any_map]
  rfl
section
variable {X : Cx} {T : List (Addr × Str)} {Z : Zx} {a b : PySem.Expr} {ta tb : DTE} {pos : Pos}
def gIn : D → D → (D → Prop) → Prop
  | x, .lst ys, R => scalD x = true ∧ ys.all scalD = true ∧ R (.bl (ys.any fun y => eqS y x))
  | x, .tup ys, R => scalD x = true ∧ ys.all scalD = true ∧ R (.bl (ys.any fun y => eqS y x))
  | _, _, _ => False
def gNotIn : D → D → (D → Prop) → Prop
  | x, .lst ys, R => scalD x = true ∧ ys.all scalD = true ∧ R (.bl (!ys.any fun y => eqS y x))
  | x, .tup ys, R => scalD x = true ∧ ys.all scalD = true ∧ R (.bl (!ys.any fun y => eqS y x))
  | _, _, _ => False
theorem ok_in : Ok2 X T (rIn X.K false) gIn := ok2_at fun T' dr F H v w x y R k rx ry hg => by
  cases ry <;> try exact hg.elim
  · rename_i p xs ds h1 h2
    obtain ⟨s1, s2, hR⟩ := hg
    rw [vOfs_eq h2 s2] at h1
    exact ⟨_, _, .bl _, hR, fun Q q => ⟨p, _, rfl, .inl (SqL.of (k.sub _ _ h1)), by rw [vOf_eq rx s1]; exact flat_of s1, flats_of s2, by rw [vOf_eq rx s1, inV_of]; exact q⟩⟩
  · rename_i p xs ds h1 h2
    obtain ⟨s1, s2, hR⟩ := hg
    rw [vOfs_eq h2 s2] at h1
    exact ⟨_, _, .bl _, hR, fun Q q => ⟨p, _, rfl, .inr (k.sub.sqt h1), by rw [vOf_eq rx s1]; exact flat_of s1, flats_of s2, by rw [vOf_eq rx s1, inV_of]; exact q⟩⟩
theorem ok_notIn : Ok2 X T (rIn X.K true) gNotIn := ok2_at fun T' dr F H v w x y R k rx ry hg => by
  cases ry <;> try exact hg.elim
  · rename_i p xs ds h1 h2
    obtain ⟨s1, s2, hR⟩ := hg
    rw [vOfs_eq h2 s2] at h1
    exact ⟨_, _, .bl _, hR, fun Q q => ⟨p, _, rfl, .inl (SqL.of (k.sub _ _ h1)), by rw [vOf_eq rx s1]; exact flat_of s1, flats_of s2, by rw [vOf_eq rx s1, inV_of]; exact q⟩⟩
  · rename_i p xs ds h1 h2
    obtain ⟨s1, s2, hR⟩ := hg
    rw [vOfs_eq h2 s2] at h1
    exact ⟨_, _, .bl _, hR, fun Q q => ⟨p, _, rfl, .inr (k.sub.sqt h1), by rw [vOf_eq rx s1]; exact flat_of s1, flats_of s2, by rw [vOf_eq rx s1, inV_of]; exact q⟩⟩
theorem qe_in (ha : QE X T Z a ta) (hb : QE X T Z b tb) (hm : behindInMarks .In b = false := by rfl) : QE X T Z (.Compare a [.In] [b] pos) (dBin gIn ta tb) := qe_cmp op_in_seq ok_in hm ha hb
theorem qe_notIn (ha : QE X T Z a ta) (hb : QE X T Z b tb) (hm : behindInMarks .NotIn b = false := by rfl) : QE X T Z (.Compare a [.NotIn] [b] pos) (dBin gNotIn ta tb) := qe_cmp op_notIn_seq ok_notIn hm ha hb
theorem qt_in (ha : QE X T Z a ta) (hb : QE X T Z b tb) (hm : behindInMarks .In b = false := by rfl) : QT X T Z (.Compare a [.In] [b] pos) (dVal (dBin gIn ta tb)) := qt_cmp op_in_seq ok_in hm ha hb
theorem qt_notIn (ha : QE X T Z a ta) (hb : QE X T Z b tb) (hm : behindInMarks .NotIn b = false := by rfl) : QT X T Z (.Compare a [.NotIn] [b] pos) (dVal (dBin gNotIn ta tb)) := qt_cmp op_notIn_seq ok_notIn hm ha hb
/-- xs.index(y): the first place -/
def gIdx (xs : List D) (y : D) (R : D → Prop) : Prop := scalD y = true ∧ xs.all scalD = true ∧ ∃ (j : Nat) (z : D), xs[j]? = some z ∧ eqS z y = true ∧ (∀ (m : Nat) (z' : D), m < j → xs[m]? = some z' → eqS z' y = false) ∧ R (.int j)
def dIdx (ta tb : DTE) : DTE := fun ρ R er => ta ρ (fun x ρ1 => match x with
  | .lst xs => tb ρ1 (fun y ρ2 => gIdx xs y fun d => R d ρ2) er
  | _ => False) er
theorem qe_index {apos cpos : Pos} (ha : QE X T Z a ta) (hb : QE X T Z b tb)
    (hp : ∀ {to t : TE}, PE X a to → PE X b t → PE X (.Call (.Attribute a "index" apos) [b] [] cpos) (tBM X.K "list" (rIndex X.K) to (tCons t tNil)) := by exact fun h1 h2 => pe_bm PySem.F.plainAttrs_list PySem.F.slot_list_index PySem.F.type_list_index mt_index h1 (pa_cons h2 pa_nil)) :
    QE X T Z (.Call (.Attribute a "index" apos) [b] [] cpos) (dIdx ta tb) :=
  pe_imp (hp ha hb) fun σ H Q ⟨ρ, F, er, R, rep, tk, h, hk⟩ => ⟨ρ, F, er, _, rep, tk, h, fun v H1 F1 x ρ1 e1 rep1 rv h1 => by
    cases rv <;> try exact h1.elim
    rename_i p xs ds r1 r2
    refine ⟨.inl ⟨rfl, _, SqL.of (rep1.ok.sub _ _ r1)⟩, ?_⟩
    show up X T Z tb σ H1 _
    refine ⟨ρ1, F1, er, _, rep1, tk, h1, fun w H2 F2 y ρ2 e2 rep2 rw_ h2 => ?_⟩
    obtain ⟨s1, s2, j, z, hz, he, hno, hR⟩ := h2
    have r1' := vOfs_eq r2 s2
    refine ⟨p, ds.map vOf, _, j, vOf z, rfl, rfl, ?_, by rw [vOf_eq rw_ s1]; exact flat_of s1, flats_of s2, by rw [List.getElem?_map, hz]; rfl, by rw [vOf_eq rw_ s1]; exact he, fun m z' hm hz' => ?_, hk _ _ _ _ _ (e1.trans e2) rep2 (.int _) hR⟩
    · rw [← r1']
      exact SqL.of (rep2.ok.sub _ _ (e2 _ _ r1))
    · rw [List.getElem?_map] at hz'
      cases hq : ds[m]? with
      | none =>
        rw [hq] at hz'
        cases hz'
      | some q =>
        rw [hq] at hz'
        cases hz'
        rw [vOf_eq rw_ s1]
        exact hno m q hm hq⟩
end
/-! ### a def that makes lambdas: its code object known -/
section
variable {P : Program} {w : World} {K : PySem.W.Frag} {mg : Mg} {base : Heap} {T : List (Addr × Str)} {x : Str} {st : Stmt} {f : Addr} {fd : FuncData} {N ps : List Str} {k : Nat} {ts : DTS} {pt : Pt}
theorem def_okGC {c : Addr} (hc : ∀ (oc : Value) (od : Option Addr) (fd' : FuncData) (osl : Array (Option Value)) (c' : Addr), K.lookup f = some ⟨oc, od, .func fd', osl⟩ → fd'.code = .ref c' → c' = c) (hm : mg x = some (.ref f)) (F : FunD K x x (defArgs st) (defBody st) (defScope st) [] [] f fd) (S : FnScope N ps (defScope st)) (hbd : Binds K fd ps [])
    (hb : ∀ (f : Addr) (A : Around) (outer : List Env) (s : Shared) (H : Hp) (E : XK) (Z : Zx), Room k (A.deeper (envOfC x (defScope st) s.heap.objs.size f (.ref c))) → A.guards = some [] → QSs (CxD P w K mg base N x st f (.ref c) A outer s H E) T Z (defBody st) ts) (hp : Pure N.length ps.length ts pt) : Go P w K mg base x st ps (k + 1) (SpF K mg T pt) := by
  refine ⟨f, fd, hm, F, hbd, fun vs H Q E h => sp_len hp h, fun A outer s H args us vs Q E hr hg e0 hbi r h => ?_⟩
  obtain ⟨oc, od, dV, kV, doc, pm, an, cdv, ct, osl, rfl, lk, hcd, hD, hK⟩ := F.ex
  obtain ⟨c', rfl⟩ := He.codeIn_ref hcd
  obtain rfl : c' = c := hc _ _ _ _ _ lk rfl
  exact LamX.run_ofS lk hcd S hr e0 hbi r (sp_len hp h) fun hr' => body_run (fun Z => hb f A outer s H E Z hr' hg) hp h
end
end DL
set_option Elab.async false
set_option linter.all false
set_option maxRecDepth 100000
set_option maxHeartbeats 2000000
namespace DL
open PySem PySem.Spec PyProof.Rows L2
/-! ### ways into a text: the n-th part -/
abbrev noE : PySem.Expr := .Constant .none 0 ⟨0, 0, 0, 0⟩
def kidE (e : PySem.Expr) (i : Nat) : PySem.Expr := match e with
  | .BoolOp _ es _ => es.getD i noE
  | .BinOp a _ b _ => [a, b].getD i noE
  | .UnaryOp _ a _ => a
  | .IfExp t a b _ => [t, a, b].getD i noE
  | .Compare a _ es _ => (a :: es).getD i noE
  | .Call f es _ _ => (f :: es).getD i noE
  | .Subscript a b _ => [a, b].getD i noE
  | .Attribute a _ _ => a
  | .List es _ => es.getD i noE
  | .Tuple es _ _ => es.getD i noE
  | _ => noE
def kidS (s : Stmt) : PySem.Expr := match s with
  | .Assign _ e _ => e
  | .Return (some e) _ => e
  | .Expr e _ => e
  | .If t _ _ _ => t
  | .While t _ _ _ => t
  | .For _ it _ _ _ => it
  | _ => noE
def elseBody : Stmt → List Stmt
  | .If _ _ b _ => b
  | _ => []
end DL
set_option Elab.async false
set_option linter.all false
set_option maxRecDepth 100000
set_option maxHeartbeats 2000000
namespace DL
open PySem PySem.Spec PyProof.Rows L2
/-! ### [..] * n -/
section
variable {X : Cx} {T : List (Addr × Str)} {Z : Zx} {a b : PySem.Expr} {ta tb : DTE} {pos : Pos}
def gRep : D → D → (D → Prop) → Prop
  | .lst xs, .int k, R => 0 ≤ k ∧ k < 2 ^ 63 ∧ xs.length * k.toNat ≤ sizeLine ∧ R (.lst (List.replicate k.toNat xs).flatten)
  | _, _, _ => False
theorem RpL.rep {K : PySem.W.Frag} {mg : Mg} {F : Hp} {vs : List V} {ds : List D} (h : RpL K mg F vs ds) : ∀ n : Nat, RpL K mg F (List.replicate n vs).flatten (List.replicate n ds).flatten
  | 0 => .nil
  | n + 1 => by
    rw [List.replicate_succ, List.replicate_succ, List.flatten_cons, List.flatten_cons]
    exact h.append (RpL.rep h n)
theorem qe_rep (ha : QE X T Z a ta) (hb : QE X T Z b tb) : QE X T Z (.BinOp a .Mult b pos) (dBin gRep ta tb) :=
  qe_bin op_rep (fun dr F H v w x y Q R k rx ry hg hq => by
    cases rx <;> try exact hg.elim
    cases ry <;> try exact hg.elim
    rename_i l xs ds h1 h2 i
    refine ⟨_, _, _, rfl, rfl, k.sub _ _ h1, by have := hg.1; omega, hg.2.1, by rw [h2.length]; exact hg.2.2.1, fun p hp => ?_⟩
    obtain ⟨g1, k1, r1⟩ := laid_lst k hp (h2.rep i.toNat)
    exact hq _ _ _ _ g1 k1 r1 hg.2.2.2) ha hb
end
end DL
set_option Elab.async false
set_option linter.all false
set_option maxRecDepth 100000
set_option maxHeartbeats 2000000
namespace DL
open PySem PySem.Spec PyProof.Rows L2
/-! ### f(e, ..), f a name that holds a def -/
def dCallV (FT : List (Str × Pt)) (i : Nat) (ta : DTA) : DTE := fun ρ R er => match ρ[i]? with
  | some (some (.d (.fn x))) => ∃ pt, (x, pt) ∈ FT ∧ ta ρ (fun ds ρ1 => pt ds (fun d => R d ρ1) er) er
  | _ => False
section
variable {X : Cx} {T : List (Addr × Str)} {Z : Zx} {FT : List (Str × Pt)} {j : Nat} {e : PySem.Expr} {es : List PySem.Expr} {ta : DTA}
theorem qe_callV (i : Nat) {a : Str} {p1 pos : Pos} (FO : ∀ p ∈ FT, ∃ st ps k, k ≤ j ∧ Fo X.prog X.w X.K X.mg X.base p.1 st ps k (SpF X.K X.mg T p.2)) (hr : Room j X.A) (ha : QA X T Z (e :: es) ta) (hN : X.N[i]? = some a := by rfl)
    (hv : Vis X.env.scope a := by first | exact Or.inl rfl | exact Or.inr (Or.inl rfl) | exact Or.inr (Or.inr rfl)) (hd : (a == ("__debug__" : Str)) = false := by decide) (hcd : (a == ("__classdict__" : Str)) = false := by decide)
    (he : starEach (e :: es) X.env = (false, eval e X.env) :: starEach es X.env := by rfl) (hpl : (backTo pos (starEach es X.env)).any (·.1) = false := by rfl) :
    QE X T Z (.Call (.Name a p1) (e :: es) [] pos) (dCallV FT i ta) := by
  refine ⟨fun pins s σ H Q I ⟨ρ, F, er, R, rep, tk, h, hk⟩ => ?_⟩
  unfold dCallV at h
  split at h
  · rename_i x hi
    obtain ⟨pt, hm, h⟩ := h
    obtain ⟨v, hs, rv⟩ := rep.dat i _ hi
    cases rv with
    | fn hmx =>
      rename_i f
      obtain ⟨st, ps, k, hkj, O⟩ := FO _ hm
      obtain ⟨f', fd, hm', F0, hb, ok⟩ := O.ex
      rw [hmx] at hm'
      cases hm'
      refine wpAny_Call_Name_kw (thn ((pe_var (pos := p1) (i := i) hN hv hd hcd).run pins s σ H (fun v H1 => v = .ref f ∧ H1 = H) I ⟨.ref f, hs, rfl, rfl⟩) fun u s1 ⟨v, H1, I1, r1, q1⟩ => ?_)
      obtain ⟨ev, eH⟩ := q1
      subst ev
      rw [eH] at I1
      obtain rfl : u = Value.ref f := r1
      have h1 := ha.run pos pins s1 σ H (fun vs H1 => SpF X.K X.mg T pt (vs ++ []) H1 Q (WE (Wer X.K X.mg T Z er) σ)) I1 ⟨ρ, F, er, _, rep, tk, h, fun vs H1 F1 ds ρ1 e1 rep1 rvs h1 => by
        show SpF X.K X.mg T pt (vs ++ []) H1 Q _
        rw [List.append_nil]
        exact call_step (R := R) e1 rep1 rvs h1 (fun _ _ _ w => w) hk⟩
      refine PySem.W.callWith_K (h₀ := X.base) I1.ok.mod.kin F0.kp (thn h1 fun us s2 ⟨vs, H2, I2, r, q⟩ => ⟨I2.kIn, ?_⟩) he hpl
      exact run_fnSD ok (hr.mono hkj) hb .nil (passAt tk σ) I2 r q
  · exact h.elim
end
end DL
set_option Elab.async false
set_option linter.all false
set_option maxRecDepth 100000
set_option maxHeartbeats 2000000
namespace DL
open PySem PySem.Spec PyProof.Rows L2
/-! ### x, y = e, [..]: y an own list -/
section
variable {X : Cx} {T : List (Addr × Str)} {Z : Zx}
def dParOwn (i j : Nat) (ta : DTE) (tn : DTN) : DTS := fun ρ E er => ta ρ (fun d ρ1 => tn ρ1 (fun c ρ2 => E.nx ((ρ2.set i (some (.d d))).set j (some (.own c)))) er) er
theorem qs_parOwn (i j : Nat) {x y : Str} {a b : PySem.Expr} {px py pt pt2 pos : Pos} {kt k2 : Nat} {ta : DTE} {tn : DTN} (hc : X.calm = true) (hN : X.N.Nodup) (hij : i ≠ j) (ha : QE X T Z a ta) (hb : QN X T Z b tn) (hi : X.N[i]? = some x := by rfl) (hj : X.N[j]? = some y := by rfl)
    (hx : X.env.scope.names.lookup x = some .local := by rfl) (hy : X.env.scope.names.lookup y = some .local := by rfl) (hw : swappedStores [.Tuple [.Name x px, .Name y py] kt pt] (.Tuple [a, b] k2 pt2) X.env = pure (some [x, y]) := by rfl)
    (h1 : starEach [a, b] X.env = (false, eval a X.env) :: starEach [b] X.env := by rfl) (h2 : starEach [b] X.env = (false, eval b X.env) :: starEach [] X.env := by rfl) :
    QS X T Z (.Assign [.Tuple [.Name x px, .Name y py] kt pt] (.Tuple [a, b] k2 pt2) pos) (dParOwn i j ta tn) :=
  ps_imp (ps_par hc hN hi hj hij hx hy (pa_cons ha (pa_cons hb pa_nil h2) h1) hw) fun E σ H ⟨ρ, F, er, De, rep, tk, h, hn, hr, hbk, hct⟩ => ⟨ρ, F, er, _, rep, tk, h, fun v H1 F1 d ρ1 e1 rep1 rv h1 =>
    ⟨ρ1, F1, er, _, rep1, tk, h1, fun p H2 F2 c ρ2 e2 rep2 oa fp h0 nA nO h2 => ⟨_, _, rfl, hn _ H2 F2 _ (e1.trans e2) ((rep2.set (i := i) (rv.mono e2)).setOwn (i := j) oa fp h0 nA fun k c' hk hc' => by
      by_cases hki : i = k
      · subst hki
        have hl : i < ρ2.length := by
          have := (List.getElem?_eq_some_iff.mp hc').1
          rwa [List.length_set] at this
        rw [List.getElem?_set_self hl] at hc'
        cases hc'
      · rw [List.getElem?_set_ne hki] at hc' ⊢
        exact nO k c' hc') h2⟩⟩⟩
end
end DL
set_option Elab.async false
set_option linter.all false
set_option maxRecDepth 100000
set_option maxHeartbeats 2000000
namespace DL
open PySem PySem.Spec PyProof.Rows L2
/-! ### [e for x, y in .. if t] -/
theorem wipe_put {τ : L2.St} {j : Nat} {y : Option V} {vs : List Nat} (h : j ∈ vs) : wipe (τ.set j y) vs = wipe τ vs := by
  apply List.ext_getElem?
  intro n
  by_cases hn : n ∈ vs
  · by_cases hl : n < τ.length
    · rw [wipe_in hn (by rw [List.length_set]; exact hl), wipe_in hn hl]
    · rw [List.getElem?_eq_none (by rw [wipe_length, List.length_set]; omega), List.getElem?_eq_none (by rw [wipe_length]; omega)]
  · rw [wipe_out hn, wipe_out hn, List.getElem?_set_ne (show j ≠ n from fun z => hn (z ▸ h))]
def dLc2 (wi : DTI) (i j : Nat) (vs : List Nat) (tt : DTT) (te : DTE) : DEnv → (Own → DEnv → Prop) → (Er → Prop) → Prop := fun ρ R er => wi ρ (fun ds ρ1 => ∃ Iv : Nat → List D → Prop, Iv 0 [] ∧
  (∀ k d acc, ds[k]? = some d → Iv k acc → ∃ d1 d2, d = .tup [d1, d2] ∧ tt (((inE ρ1 vs).set i (some (.d d1))).set j (some (.d d2))) (fun b ρ2 => match b with
    | true => te ρ2 (fun y _ => acc.length < sizeLine ∧ Iv (k + 1) (acc ++ [y])) (fun _ => False)
    | false => Iv (k + 1) acc) (fun _ => False)) ∧ ∀ acc, Iv ds.length acc → R (.lst acc) ρ1) er
section
variable {X : Cx} {T : List (Addr × Str)} {Z : Zx} {tg iter elt : PySem.Expr} {ifs : List PySem.Expr} {scope : Scope} {own : List (Str × Nat)} {pos : Pos} {wi : DTI} {tt : DTT} {te : DTE} {i j : Nat}
theorem lc_up2 (him : i ∈ own.map (·.2)) (hjm : j ∈ own.map (·.2)) : ∀ σ H Q, upN X T Z (dLc2 wi i j (own.map (·.2)) tt te) σ H Q → tLc (upI X T Z wi) (gTup X.K 2 (gCons (gName i) (gCons (gName j) gNil))) (upTB X.K X.mg T tt) (upB X.K X.mg T te) (own.map (·.2)) σ H Q := fun σ H Q ⟨ρ, F, er, R, rep, tk, h, hk⟩ => ⟨ρ, F, er, _, rep, tk, h, fun J H1 F1 ds ρ1 e1 rep1 wd ⟨Iv, i0, istep, iend⟩ => fun Dd hD => by
  have nA : ¬ Am T Z.dr Dd := rep1.ok.notAm hD
  have n0 : Z.H0 Dd = none := by
    cases q : Z.H0 Dd with
    | none => rfl
    | some u =>
      have z := rep1.gr.hh Dd u q nA
      rw [hD] at z
      cases z
  have nO : ∀ (j : Nat) (c : Own), ρ1[j]? = some (some (.own c)) → σ[j]? ≠ some (some (.ref Dd)) := fun j c e z => by
    obtain ⟨p, h1, h2, _⟩ := rep1.own j c e
    rw [z] at h1
    cases h1
    obtain ⟨o, ho, _⟩ := h2.some
    rw [hD] at ho
    cases ho
  obtain ⟨k1, g1, f1⟩ := rep1.ok.laidOwn (o := .lst []) hD
  refine lc_it wd (fun k H' => ∃ F' acc xs, Fx F1 F' ∧ Rep X.K X.mg T Z ρ1 F' σ H' ∧ H' Dd = some (.lst xs) ∧ RpL X.K X.mg F' xs acc ∧ F' Dd = none ∧ Iv k acc) ?_ ?_ ?_ ?_
  · exact ⟨F1, [], [], Fx.refl F1, rep1.step g1 k1, upd_same, .nil, f1, i0⟩
  · rintro k H' _ ⟨F', acc, xs, e, r', _⟩
    exact e.trans r'.ok.sub
  · rintro k x H' H'' hlt ⟨F', acc, xs, e, r', hl, rl, fD, inv⟩ y
    obtain ⟨F'', g2, k2, d, hd, rd⟩ := y F' e r'.ok
    have r2 := r'.step g2 k2
    have hl2 : H'' Dd = some (.lst xs) := g2.hh Dd _ hl nA
    have fD2 : F'' Dd = none := g2.un k2.sub hl (fun _ z => nomatch z) nA fD
    obtain ⟨d1, d2, rfl, hstep⟩ := istep k d acc hd inv
    cases rd with
    | tup q1 q2 =>
      rename_i a us
      obtain ⟨u1, u2, rfl, rd1, rd2⟩ : ∃ u1 u2, us = [u1, u2] ∧ Rp X.K X.mg F'' u1 d1 ∧ Rp X.K X.mg F'' u2 d2 := by
        cases q2 with
        | cons r1 q3 =>
          cases q3 with
          | cons r2 q4 =>
            cases q4
            exact ⟨_, _, rfl, r1, r2⟩
      have rin : Rep X.K X.mg T ⟨Z.dr, F'', H''⟩ (((inE ρ1 (own.map (·.2))).set i (some (.d d1))).set j (some (.d d2))) F'' (((wipe σ (own.map (·.2))).set i (some u1)).set j (some u2)) H'' := Rep.set (i := j) (Rep.set (i := i) (r2.rebase.wiped (own.map fun x : Str × Nat => x.2)) rd1) rd2
      refine ⟨a, [u1, u2], rfl, k2.sub.sqt q1, rfl, u1, [u2], rfl, u2, [], rfl, rfl, ?_⟩
      show wipe _ _ = _ ∧ upTB X.K X.mg T tt _ H'' _
      refine ⟨by rw [wipe_put hjm, wipe_set him], ⟨Z.dr, F'', H''⟩, _, F'', _, rin, hstep, fun b H3 F3 ρ3 e3 r3 h3 => ?_⟩
      have s3 := r2.step r3.gr r3.ok
      have hl3 : H3 Dd = some (.lst xs) := r3.gr.hh Dd _ hl2 nA
      have fD3 : F3 Dd = none := r3.gr.un r3.ok.sub hl2 (fun _ z => nomatch z) nA fD2
      cases b with
      | true =>
        refine iteT ?_
        refine ⟨⟨Z.dr, F'', H''⟩, ρ3, F3, _, r3, h3, fun v H4 F4 d4 ρ4 e4 r4 rv4 h4 => ?_⟩
        obtain ⟨hz, inv4⟩ := h4
        have s4 := r2.step r4.gr r4.ok
        have hl4 : H4 Dd = some (.lst xs) := r4.gr.hh Dd _ hl2 nA
        have fD4 : F4 Dd = none := r4.gr.un r4.ok.sub hl2 (fun _ z => nomatch z) nA fD2
        have rl4 : RpL X.K X.mg F4 xs acc := rl.mono (g2.ff.trans (e3.trans e4))
        refine ⟨xs, hl4, by rw [rl.length]; exact hz, F4, acc ++ [d4], xs ++ [v], e.trans (g2.ff.trans (e3.trans e4)), s4.write fD4 n0 nA ⟨_, hl4, .inl ⟨xs, rfl⟩⟩ nO, upd_same, rl4.append (.cons rv4 .nil), fD4, inv4⟩
      | false =>
        refine iteF ?_
        exact ⟨F3, acc, xs, e.trans (g2.ff.trans e3), s3, hl3, rl.mono (g2.ff.trans e3), fD3, h3⟩
  · rintro H' ⟨F', acc, xs, e, r', hl, rl, fD, inv⟩
    exact hk Dd H' F' (.lst acc) ρ1 (e1.trans e) r' ⟨xs, hl, rl⟩ fD n0 nA nO (iend acc inv)⟩
theorem lc_pg2 {X : Cx} {i j : Nat} {x y : Str} {p1 p2 pos : Pos} {k : Nat} (hc : X.calm = true) (hN : X.N.Nodup) (hi : X.N[i]? = some x := by rfl) (hj : X.N[j]? = some y := by rfl) (hx : Loc X.env.scope x := by first | exact Or.inl rfl | exact Or.inr rfl) (hy : Loc X.env.scope y := by first | exact Or.inl rfl | exact Or.inr rfl)
    (hf : X.fn x = true ∨ X.env.scope.names.lookup x = some .local := by first | exact .inl rfl | exact .inr rfl) (hg : X.fn y = true ∨ X.env.scope.names.lookup y = some .local := by first | exact .inl rfl | exact .inr rfl) : PG X (.Tuple [.Name x p1, .Name y p2] k pos) (gTup X.K 2 (gCons (gName i) (gCons (gName j) gNil))) :=
  pg_tup hc (pgs_cons (pg_name hN hi hx hf) (pgs_cons (pg_name hN hj hy hg) pgs_nil))
theorem qn_lc2 (hc : X.calm = true) (hN : X.N.Nodup) (ok : BlkOk X.N X.env.scope scope own) (him : i ∈ own.map (·.2)) (hjm : j ∈ own.map (·.2)) (hi : QI X T Z tg iter wi)
    (hg : ∀ (s : Shared) (H : Hp) (C : Addr) (cl : List (Str × Addr)) (fp : List Addr), PG (X.blk s H scope (compEnvC scope cl C X.env) fp) tg (gTup X.K 2 (gCons (gName i) (gCons (gName j) gNil))))
    (ht : ∀ (s : Shared) (H : Hp) (C : Addr) (cl : List (Str × Addr)) (fp : List Addr) (Z' : Zx), QTs (X.blk s H scope (compEnvC scope cl C X.env) fp) T Z' ifs tt)
    (he : ∀ (s : Shared) (H : Hp) (C : Addr) (cl : List (Str × Addr)) (fp : List Addr) (Z' : Zx), QE (X.blk s H scope (compEnvC scope cl C X.env) fp) T Z' elt te) (hs : ∀ x, foldedSetIterable iter X.env x = pure x := by intro _; rfl) :
    QN X T Z (.ListComp elt [⟨tg, iter, ifs, 0⟩] scope pos) (dLc2 wi i j (own.map (·.2)) tt te) :=
  pe_imp (pe_lc hc hN hi ok hg (pts_blk ht) (pe_blk he) hs) (lc_up2 him hjm)
theorem qs_setLc2 (n : Nat) {py : Pos} {y : Str} {spos : Pos} (hc : X.calm = true) (hN : X.N.Nodup) (ok : BlkOk X.N X.env.scope scope own) (him : i ∈ own.map (·.2)) (hjm : j ∈ own.map (·.2)) (hi : QI X T Z tg iter wi)
    (hg : ∀ (s : Shared) (H : Hp) (C : Addr) (cl : List (Str × Addr)) (fp : List Addr), PG (X.blk s H scope (compEnvC scope cl C X.env) fp) tg (gTup X.K 2 (gCons (gName i) (gCons (gName j) gNil))))
    (ht : ∀ (s : Shared) (H : Hp) (C : Addr) (cl : List (Str × Addr)) (fp : List Addr) (Z' : Zx), QTs (X.blk s H scope (compEnvC scope cl C X.env) fp) T Z' ifs tt)
    (he : ∀ (s : Shared) (H : Hp) (C : Addr) (cl : List (Str × Addr)) (fp : List Addr) (Z' : Zx), QE (X.blk s H scope (compEnvC scope cl C X.env) fp) T Z' elt te) (hy : X.N[n]? = some y := by rfl) (hyl : X.env.scope.names.lookup y = some .local := by rfl)
    (hsw : swapsWith (.ListComp elt [⟨tg, iter, ifs, 0⟩] scope pos) (some (.Name y py)) spos.line X.env = pure true := by exact sw_true rfl rfl rfl (by decide +kernel)) (hs : ∀ x, foldedSetIterable iter X.env x = pure x := by intro _; rfl) :
    QS X T Z (.Assign [.Name y py] (.ListComp elt [⟨tg, iter, ifs, 0⟩] scope pos) spos) (dSetOwn n (dLc2 wi i j (own.map (·.2)) tt te)) :=
  ps_imp (ps_setLc hc hN hy hyl hsw hi ok hg (pts_blk ht) (pe_blk he) hs) fun E σ H u => lc_up2 him hjm σ H _ (setOwn_up u)
end
/-- what it comes to -/
theorem lc_fm2 {wi : DTI} {i j : Nat} {vs : List Nat} {tt : DTT} {te : DTE} {ρ : DEnv} {R : Own → DEnv → Prop} {er : Er → Prop} (p : D × D → Bool) (f : D × D → D) (hm : ∀ (Q Q' : List D → DEnv → Prop), (∀ ds ρ1, Q ds ρ1 → Q' ds ρ1) → wi ρ Q er → wi ρ Q' er)
    (h : wi ρ (fun ds ρ1 => ∃ ps : List (D × D), ds = ps.map (fun q => .tup [q.1, q.2]) ∧ ps.length ≤ sizeLine ∧ (∀ d ∈ ps, ∀ S : Bool → DEnv → Prop, S (p d) (((inE ρ1 vs).set i (some (.d d.1))).set j (some (.d d.2))) → tt (((inE ρ1 vs).set i (some (.d d.1))).set j (some (.d d.2))) S fun _ => False) ∧
      (∀ d ∈ ps, p d = true → ∀ S : D → DEnv → Prop, (∀ ρ2, S (f d) ρ2) → te (((inE ρ1 vs).set i (some (.d d.1))).set j (some (.d d.2))) S fun _ => False) ∧ R (.lst ((ps.filter p).map f)) ρ1) er) : dLc2 wi i j vs tt te ρ R er := by
  refine hm _ _ (fun ds ρ1 ⟨ps, hds, hz, ht, hs, hR⟩ => ?_) h
  subst hds
  refine ⟨fun k acc => acc = ((ps.take k).filter p).map f, rfl, fun k d acc hd ha => ?_, fun acc ha => ?_⟩
  · have ha : acc = ((ps.take k).filter p).map f := ha
    rw [List.getElem?_map] at hd
    obtain ⟨q, hq, rfl⟩ := Option.map_eq_some_iff.mp hd
    have hk := (List.getElem?_eq_some_iff.mp hq).1
    have hmem := List.mem_of_getElem? hq
    have e1 : ps.take (k + 1) = ps.take k ++ [q] := by
      rw [List.take_succ, hq]
      rfl
    refine ⟨q.1, q.2, rfl, ht q hmem _ ?_⟩
    cases z : p q with
    | true =>
      refine hs q hmem z _ fun ρ2 => ⟨?_, ?_⟩
      · have : ((ps.take k).filter p).length ≤ (ps.take k).length := List.length_filter_le ..
        rw [List.length_take] at this
        rw [ha, List.length_map]
        omega
      · show acc ++ [f q] = ((ps.take (k + 1)).filter p).map f
        rw [ha, e1, List.filter_append, List.map_append]
        simp [z]
    | false =>
      show acc = ((ps.take (k + 1)).filter p).map f
      rw [ha, e1, List.filter_append]
      simp [z]
  · have ha : acc = ((ps.take (ps.map (fun q : D × D => D.tup [q.1, q.2])).length).filter p).map f := ha
    rw [ha, List.length_map, List.take_of_length_le (Nat.le_refl _)]
    exact hR
/-! ### isinstance(error, ValueError) -/
def gIsiV (val : Str → Prop) : List D → (D → Prop) → Prop
  | [.exc x _, .ty "ValueError"], R => val x ∧ R (.bl true)
  | _, _ => False
def XVal (K : PySem.W.Frag) (mg : Mg) (val : Str → Prop) : Prop := ∀ x, val x → ∃ C, mg x = some (.ref C) ∧ XOk K C ∧ PySem.W.kitOne K (.ref C) (.type "ValueError") = some true
section
variable {X : Cx} {T : List (Addr × Str)} {Z : Zx} {a : PySem.Expr} {ta : DTA} {es : List PySem.Expr} {p pos : Pos} {val : Str → Prop}
theorem qe_isiV (t : XVal X.K X.mg val) (hg : Gl X "isinstance") (hm : X.mg "isinstance" = none) (ha : QA X T Z (a :: es) ta)
    (he : starEach (a :: es) X.env = (false, eval a X.env) :: starEach es X.env := by rfl) (hpl : (backTo pos (starEach es X.env)).any (·.1) = false := by rfl) : QE X T Z (.Call (.Name "isinstance" p) (a :: es) [] pos) (dB (gIsiV val) ta) :=
  qe_B call_isiX (okB_at fun dr F H vs ds R k rv h => by
    unfold gIsiV at h
    split at h
    · rename_i x f
      obtain ⟨v, w, rfl, r1, r2⟩ := rv.two
      obtain ⟨C, h1, h3, h4⟩ := t x h.1
      cases r2
      cases r1 with
      | exc0 e1 e2 =>
        rw [h1] at e1
        cases e1
        exact ⟨_, _, .bl true, h.2, fun Q q => ⟨_, C, none, _, _, true, rfl, k.sub _ _ e2, (fun d z => nomatch z), h3, .ty _, h4, q⟩⟩
      | exc e1 e2 e3 e4 =>
        rw [h1] at e1
        cases e1
        exact ⟨_, _, .bl true, h.2, fun Q q => ⟨_, C, some _, _, _, true, rfl, k.sub _ _ e2, (fun d z => by cases z; exact ⟨_, k.sub _ _ e3⟩), h3, .ty _, h4, q⟩⟩
    · exact h.elim) (by decide +kernel) hg hm ha (by decide) (by decide) he hpl
end
end DL
set_option Elab.async false
set_option linter.all false
set_option maxRecDepth 100000
set_option maxHeartbeats 2000000
namespace DL
open PySem PySem.Spec PyProof.Rows L2
/-! ### max of three whole numbers -/
def mx (a b : Int) : Int := if a < b then b else a
theorem nu2 (a b : Int) : nuMax2 (.int a) (.int b) = some (.int (mx a b)) := by
  show some (if decide (a < b) = true then V.int b else V.int a) = some (.int (if a < b then b else a))
  by_cases h : a < b
  · rw [if_pos (decide_eq_true h), if_pos h]
  · rw [if_neg (fun q => h (of_decide_eq_true q)), if_neg h]
theorem nu3 (a b c : Int) : nuMax3 (.int a) (.int b) (.int c) = some (.int (mx (mx a b) c)) := by
  unfold nuMax3
  rw [nu2]
  exact nu2 _ _
def gMax3 : List D → (D → Prop) → Prop
  | [.int a, .int b, .int c], R => R (.int (mx (mx a b) c))
  | _, _ => False
section
variable {X : Cx} {T : List (Addr × Str)} {Z : Zx} {a : PySem.Expr} {ta : DTA} {es : List PySem.Expr} {p pos : Pos}
theorem RpL.three {K : PySem.W.Frag} {mg : Mg} {F : Hp} {vs : List V} {d e f : D} (h : RpL K mg F vs [d, e, f]) : ∃ u v w, vs = [u, v, w] ∧ Rp K mg F u d ∧ Rp K mg F v e ∧ Rp K mg F w f := by
  cases h with
  | cons h1 h2 =>
    cases h2 with
    | cons h2 h3 =>
      cases h3 with
      | cons h3 h4 =>
        cases h4
        exact ⟨_, _, _, rfl, h1, h2, h3⟩
theorem qe_max3 (hc : X.calm = true) (hg : Gl X "max") (hm : X.mg "max" = none) (ha : QA X T Z (a :: es) ta)
    (he : starEach (a :: es) X.env = (false, eval a X.env) :: starEach es X.env := by rfl) (hpl : (backTo pos (starEach es X.env)).any (·.1) = false := by rfl) : QE X T Z (.Call (.Name "max" p) (a :: es) [] pos) (dB gMax3 ta) :=
  qe_B (call_max3Nu hc) (okB_at fun dr F H vs ds R k rv h => by
    unfold gMax3 at h
    split at h
    · obtain ⟨u, v, w, rfl, r1, r2, r3⟩ := rv.three
      cases r1
      cases r2
      cases r3
      exact ⟨_, _, .int _, h, fun Q q => ⟨_, _, _, _, rfl, nu3 _ _ _, q⟩⟩
    · exact h.elim) (by decide +kernel) hg hm ha (by decide) (by decide) he hpl
end
end DL
set_option Elab.async false
set_option linter.all false
set_option maxRecDepth 100000
set_option maxHeartbeats 4000000
namespace DL
open PySem PySem.Spec PyProof.Rows L2
/-! ### {} -/
def dDic0 : DTE := fun ρ R er => R (.dic []) ρ
section
variable {X : Cx} {T : List (Addr × Str)} {Z : Zx} {a b : PySem.Expr} {ta tb : DTE} {pos : Pos}
theorem qe_dic0 : QE X T Z (.Dict [] [] pos) dDic0 :=
  pe_imp pe_dnewK fun σ H Q ⟨ρ, F, er, R, rep, tk, h, hk⟩ => fun p hp => by
    obtain ⟨k1, g1⟩ := rep.ok.laid (o := .dK []) hp
    exact hk _ _ _ _ ρ g1.ff (rep.step g1 k1) (.dic upd_same .nil) h
/-! ### t >= u, tuples of ints -/
def lexGe (ns ms : List Int) : Bool := Ob.lexAt (fun j => decide (ns.getD j 0 = ms.getD j 0)) (fun j => decide (ms.getD j 0 ≤ ns.getD j 0)) (decide (ms.length ≤ ns.length)) 0 (min ns.length ms.length)
def rGeT (K : PySem.W.Frag) : R2 := fun x y H Q => ∃ (a b : Addr) (ns ms : List Int), x = .ref a ∧ y = .ref b ∧ SqT K H a (ns.map V.int) ∧ SqT K H b (ms.map V.int) ∧ Q (.bl (lexGe ns ms)) H
theorem op_geT (hu : X.A.units < cLine) : OpR X (compareOp .GtE) (rGeT X.K) := by
  intro pins s σ H x y v u Q I rx ry h
  obtain ⟨a, b, ns, ms, rfl, rfl, ha, hb, q⟩ := h
  cases rx
  cases ry
  obtain ⟨its, r1, p1, _⟩ := I.tuple ha
  obtain ⟨its2, r2, p2, _⟩ := I.tuple hb
  have i1 : IntsAre its ns := Vals.ints r1
  have i2 : IntsAre its2 ms := Vals.ints r2
  have e1 : its.toArray.size = ns.length := by rw [List.size_toArray]; exact i1.length
  have e2 : its2.toArray.size = ms.length := by rw [List.size_toArray]; exact i2.length
  have at1 : ∀ j (h1 : j < its.toArray.size), ∃ t, its.toArray[j] = .int (ns.getD j 0) t := fun j h1 => PyProof.Rows.IntsAre.int_at i1 _ _ (by simp at h1; simp [h1])
  have at2 : ∀ j (h1 : j < its2.toArray.size), ∃ t, its2.toArray[j] = .int (ms.getD j 0) t := fun j h1 => PyProof.Rows.IntsAre.int_at i2 _ _ (by simp at h1; simp [h1])
  have R := Ob.RcOp.tuples_ge (A := X.A) (s := s) (e := fun j => decide (ns.getD j 0 = ms.getD j 0)) (r := fun j => decide (ms.getD j 0 ≤ ns.getD j 0)) p1 p2 hu (fun j h1 h2 => by
    obtain ⟨t, et⟩ := at1 j h1
    obtain ⟨t', et'⟩ := at2 j h2
    rw [et, et']
    have z : (ns.getD j 0 == ms.getD j 0) = decide (ns.getD j 0 = ms.getD j 0) := by
      by_cases q : ns.getD j 0 = ms.getD j 0
      · rw [decide_eq_true q]; exact beq_iff_eq.mpr q
      · rw [decide_eq_false q]; exact beq_eq_false_iff_ne.mpr q
    rw [← z]
    exact SeqAt.EqAt.int_int _ _ _ _) (fun j h1 h2 _ => by
    obtain ⟨t, et⟩ := at1 j h1
    obtain ⟨t', et'⟩ := at2 j h2
    rw [et, et']
    exact Ob.RcOp.ge_int _ _ _ _)
  rw [e1, e2] at R
  have z : wpAny (model X.prog X.w) X.A (compareOp .GtE (.ref a) (.ref b)) (EP X pins σ Q) X.xe s := R X.prog X.w X.xe (EP X pins σ Q) ⟨.bl _, H, I, rfl, q⟩
  exact z
def gGeT (x y : D) (R : D → Prop) : Prop := ∃ ns ms : List Int, x = .tup (ns.map D.int) ∧ y = .tup (ms.map D.int) ∧ R (.bl (lexGe ns ms))
theorem ok_geT : Ok2 X T (rGeT X.K) gGeT := ok2_at fun _ _ F H v w x y R k rx ry hg => by
    obtain ⟨ns, ms, rfl, rfl, hR⟩ := hg
    cases rx with
    | tup h1 h2 =>
      cases ry with
      | tup h3 h4 =>
        rw [RpL.ints h2] at h1
        rw [RpL.ints h4] at h3
        exact ⟨_, _, .bl _, hR, fun Q q => ⟨_, _, ns, ms, rfl, rfl, k.sub.sqt h1, k.sub.sqt h3, q⟩⟩
theorem qe_geT (hu : X.A.units + 64 < cLine) (ha : QE X T Z a ta) (hb : QE X T Z b tb) : QE X T Z (.Compare a [.GtE] [b] pos) (dBin gGeT ta tb) := qe_cmp (op_geT (by omega)) ok_geT (nomark _) ha hb
theorem qt_geT (hu : X.A.units + 64 < cLine) (ha : QE X T Z a ta) (hb : QE X T Z b tb) : QT X T Z (.Compare a [.GtE] [b] pos) (dVal (dBin gGeT ta tb)) := qt_cmp (op_geT (by omega)) ok_geT (nomark _) ha hb
/-! ### x is True, x is False -/
def gIsB (x y : D) (R : D → Prop) : Prop := ∃ a b, x = .bl a ∧ y = .bl b ∧ R (.bl (decide (a = b)))
theorem qe_isB (ha : QE X T Z a ta) (hb : QE X T Z b tb) : QE X T Z (.Compare a [.Is] [b] pos) (dBin gIsB ta tb) :=
  qe_cmp op_is_bl (ok2_at fun _ _ F H v w x y R k rx ry hg => by
    obtain ⟨p, q, rfl, rfl, hR⟩ := hg
    cases rx
    cases ry
    exact ⟨_, _, .bl _, hR, fun Q q => ⟨_, _, rfl, rfl, q⟩⟩) (nomark _) ha hb
end
end DL
set_option Elab.async false
set_option linter.all false
set_option maxRecDepth 100000
set_option maxHeartbeats 4000000
namespace HT
open PySem PySem.Spec PyProof.Rows L2
section
variable {prog : Program} {w : World} {A : Around} {E : Value → Shared → Prop} {s : Shared}
theorem sliceApplied_back4 {sl : Addr} {vl vu vs : Value} {Q : Int × Int × Nat → Shared → Prop} (hs : s.heap.IsSliceOf sl vl vu vs) (pl : IsPart vl none) (pu : IsPart vu none) (ps : IsPart vs (some (-1)))
    (h : Q ((3 : Int), (-1 : Int), 4) s) : wpAny (model prog w) A (Builtin.Slice.sliceApplied (.ref sl) (pure (4 : Int))) Q E s := by
  obtain ⟨os, hos, hcs, hds⟩ := id hs
  unfold Builtin.Slice.sliceApplied Builtin.Slice.sliceFields
  refine wpAny_bind (wpAny_bind (wpAny_field hos hds (x := vl) rfl (wpAny_bind (wpAny_field hos hds (x := vu) rfl (wpAny_bind (wpAny_field hos hds (x := vs) rfl (wpAny_pure ?_)))))))
  refine wpAny_bind (slicePart_ ps ?_)
  show wpAny _ _ (if ((-1 : Int) == 0) = true then _ else _) _ _ s
  rw [if_neg (by decide)]
  refine wpAny_bind (slicePart_ pl (wpAny_bind (slicePart_ pu (wpAny_bind (wpAny_pure ?_)))))
  exact wpAny_pure h
theorem getItem_tuple_back4 {t sl : Addr} {a b c d : Value} {vl vu vs : Value} {Q : Value → Shared → Prop} (ht : IsTup s.heap t #[a, b, c, d]) (hs : s.heap.IsSliceOf sl vl vu vs) (pl : IsPart vl none) (pu : IsPart vu none) (ps : IsPart vs (some (-1)))
    (h : Q (.ref s.heap.objs.size) { s with heap := s.heap.push { cls := .type "tuple", data := .seq #[d, c, b, a] } }) : wpAny (model prog w) A (getItem (.ref t) (.ref sl)) Q E s := by
  have htake : sizeOk (.seq #[d, c, b, a]) := by
    show (4 : Nat) ≤ sizeLine
    decide
  obtain ⟨os, hos, hcs, hds⟩ := id hs
  have hTs : s.TypeIs (.ref sl) "slice" := ⟨os, hos, hcs⟩
  unfold getItem
  try with_reducible refine wpAny_holding ?_
  first | refine wpAny_bind (wpAny_pure ?_) | skip
  refine wpAny_bind (wpAny_sequenceKey ht.typeIs (by decide) ?_)
  refine wpAny_bind (wpAny_callSpecial?_slot (name := Str.ofString "__getitem__") ht.typeIs PyProof.Rows.slot_tuple_getitem
    (wpAny_call_entry PyProof.Rows.slot_tuple_getitem ht.typeIs entry_tuple_getitem ?_ (args_tuple_getitem _ _)))
  show wpAny _ _ (Builtin.Tuple.tupleItemsOf (.ref t) >>= _) _ _ s
  refine wpAny_bind (tupleItemsOf_ ht ?_)
  refine wpAny_bind (wpAny_typeOf hTs ?_)
  rw [if_pos (by decide)]
  refine wpAny_bind (sliceApplied_back4 hs pl pu ps ?_)
  show wpAny _ _ (if ((3 : Int) == 0 && (-1 : Int) == 1 && (4 : Nat) == 4) = true then _ else _) _ _ s
  rw [if_neg (by decide)]
  have e : ((List.range 4).filterMap fun (m : Nat) => (#[a, b, c, d] : Array Value)[((3 : Int) + (m : Int) * (-1)).toNat]?).toArray = #[d, c, b, a] := by rfl
  first
    | exact wpAny_bind (m := Builtin.Tuple.tupleExact _) (wpAny_newObj_type (wpAny_pure ⟨_, rfl, wpAny_pure h⟩) htake)
    | exact wpAny_bind (m := Builtin.Tuple.tupleExact _) (wpAny_newObj_type (wpAny_bind (wpAny_pure (wpAny_pure ⟨_, rfl, wpAny_pure h⟩))) htake)
    | exact wpAny_bind (wpAny_bind (m := Builtin.Tuple.tupleExact _) (wpAny_newObj_type (wpAny_pure (wpAny_pure ⟨_, rfl, wpAny_pure h⟩)) htake))
    | exact wpAny_bind (wpAny_bind (m := Builtin.Tuple.tupleExact _) (wpAny_newObj_type (wpAny_pure ⟨_, rfl, wpAny_pure h⟩) htake))
end
end HT
namespace DL
open PySem PySem.Spec PyProof.Rows L2
/-! ### t[::-1], four things -/
def tBack4 (K : PySem.W.Frag) (te : TE) : TE := fun σ H Q => te σ H fun x H1 => ∃ t a b c d, x = .ref t ∧ SqT K H1 t [a, b, c, d] ∧ ∀ p, H1 p = none → Q (.ref p) (upd H1 p (.tup [d, c, b, a]))
section
variable {X : Cx} {T : List (Addr × Str)} {Z : Zx} {e : PySem.Expr} {te : TE} {ta : DTE} {k : Nat} {p1 p2 p3 pos : Pos}
theorem pe_back4 (he : PE X e te) : PE X (.Subscript e (.Slice none none (some (.UnaryOp .USub (.Constant (.int 1) k p1) p2)) p3) pos) (tBack4 X.K te) := by
  refine ⟨fun pins s σ H Q I h => ?_⟩
  refine Subscript_ (thn (he.run pins s σ H _ I h) fun v s1 ⟨x, H1, I1, r1, q1⟩ => ?_)
  obtain ⟨t, a, b, c, d, ex, hx, q⟩ := q1
  subst ex
  cases r1
  have hst : PO X (some (.UnaryOp .USub (.Constant (.int 1) k p1) p2)) (tPart (tUn (rU fun i => .int (-i)) (tC (.int 1)))) := po_some (pe_un un_neg pe_int)
  refine wpAny_Slice (thn (po_none.run pins s1 σ H1 (fun o H2 => o = none ∧ H2 = H1) I1 ⟨rfl, rfl⟩) fun vl s2 ⟨l, H2, I2, pl, el, e2⟩ => ?_)
  subst el e2
  refine thn (po_none.run pins s2 σ H2 (fun o H3 => o = none ∧ H3 = H2) I2 ⟨rfl, rfl⟩) fun vu s3 ⟨u, H3, I3, pu, eu, e3⟩ => ?_
  subst eu e3
  refine thn (hst.run pins s3 σ H3 (fun o H4 => o = some (-1) ∧ H4 = H3) I3 ⟨1, rfl, -1, rfl, rfl, rfl⟩) fun vs s4 ⟨o, H4, I4, ps, eo, e4⟩ => ?_
  subst eo e4
  have I5 : Inv X pins σ H4 { s4 with heap := s4.heap.push { cls := .type "slice", data := .fields #[vl, vu, vs] } } := I4.kept (t' := s4.toks) fun b ob q => Heap.get?_push_of_some _ q
  obtain ⟨its, r, ht, hz⟩ := I5.tuple hx
  cases r with
  | cons ra r =>
    cases r with
    | cons rb r =>
      cases r with
      | cons rc r =>
        cases r with
        | cons rd r =>
          cases r
          show wpAny (model X.prog X.w) X.A (subscriptTail e (.Slice none none (some (.UnaryOp .USub (.Constant (.int 1) k p1) p2)) p3) (.ref t) (.ref s4.heap.objs.size)) (EP X pins σ Q) X.xe { s4 with heap := s4.heap.push { cls := .type "slice", data := .fields #[vl, vu, vs] } }
          refine tail_any (ops := [.ref t, .ref s4.heap.objs.size]) ht.typeIs (PyProof.Rows.slot_tuple_getitem.lookup) ?_ (by with_unfolding_all rfl)
          refine HT.getItem_tuple_back4 ht (Heap.IsSliceOf.new _ vl vu vs) pl pu ps ?_
          refine ⟨.ref _, _, I5.laid (t' := s4.toks) (o := .tup [d, c, b, a]) (fun b ob q => Heap.get?_push_of_some _ q) (Nat.le_refl _) ?_, rfl, q _ (I5.hok.fresh (Nat.le_refl _))⟩
          refine ⟨?_, _, .cons rd (.cons rc (.cons rb (.cons ra .nil))), IsTup.new _ _⟩
          show (4 : Nat) ≤ sizeLine
          decide
def gBack4 : D → (D → Prop) → Prop
  | .tup [a, b, c, d], R => R (.tup [d, c, b, a])
  | _, _ => False
def dBack4 (ta : DTE) : DTE := fun ρ R er => ta ρ (fun x ρ1 => gBack4 x fun d => R d ρ1) er
theorem qe_back4 (ha : QE X T Z e ta) : QE X T Z (.Subscript e (.Slice none none (some (.UnaryOp .USub (.Constant (.int 1) k p1) p2)) p3) pos) (dBack4 ta) :=
  pe_imp (pe_back4 ha) fun σ H Q ⟨ρ, F, er, R, rep, tk, h, hk⟩ => ⟨ρ, F, er, _, rep, tk, h, fun v H1 F1 x ρ1 e1 rep1 rv h1 => by
    unfold gBack4 at h1
    split at h1
    · cases rv with
      | tup g1 g2 =>
        cases g2 with
        | cons ra g2 =>
          cases g2 with
          | cons rb g2 =>
            cases g2 with
            | cons rc g2 =>
              cases g2 with
              | cons rd g2 =>
                cases g2
                refine ⟨_, _, _, _, _, rfl, rep1.ok.sub.sqt g1, fun p hp => ?_⟩
                obtain ⟨k1, g⟩ := rep1.ok.laid (o := .tup _) hp
                exact hk _ _ _ _ ρ1 (e1.trans g.ff) (rep1.step g k1) (.tup (.inl (.inl upd_same)) (.cons (rd.mono g.ff) (.cons (rc.mono g.ff) (.cons (rb.mono g.ff) (.cons (ra.mono g.ff) .nil))))) h1
    · exact h1.elim⟩
end
end DL
set_option Elab.async false
set_option linter.all false
set_option maxRecDepth 100000
set_option maxHeartbeats 4000000
namespace DL
open PySem PySem.Spec PyProof.Rows L2
/-! ### for x, y in zip(..) -/
section
variable {X : Cx} {T : List (Addr × Str)} {Z : Zx} {a b e : PySem.Expr} {ta : DTA} {p pos tpos : Pos} {elts : List PySem.Expr} {kk : Nat}
theorem walkD_pair {K : PySem.W.Frag} {mg : Mg} {dr : Option (Addr × Addr)} {J : It} {F : Hp} {ds : List D} {n : Nat} {G : Hp → Prop} {f g : Nat → Option V} (w : Walk J n G (YPair f g)) (hn : n = ds.length) (hG : ∀ H, Fx F H → G H)
    (hf : ∀ i x y, i < n → f i = some x → g i = some y → ∃ d e, ds[i]? = some (.tup [d, e]) ∧ Rp K mg F x d ∧ Rp K mg F y e) : WalkD K mg T dr J F ds := by
  subst hn
  refine w.mono hG fun i H v H' hi _ y F' e k => ?_
  obtain ⟨t, x, z, rfl, ht, rfl, hx, hz⟩ := y
  obtain ⟨d, e', h1, h2, h3⟩ := hf i x z hi hx hz
  obtain ⟨k1, g1⟩ := k.laid (o := .tup [x, z]) ht
  exact ⟨_, g1, k1, _, h1, .tup (SqT.of upd_same) (.cons (h2.mono (e.trans g1.ff)) (.cons (h3.mono (e.trans g1.ff)) .nil))⟩
def zipD (xs ys : List D) : List D := List.zipWith (fun x y => .tup [x, y]) xs ys
def dZip (ta : DTA) : DTI := fun ρ R er => ta ρ (fun ds ρ1 => match ds with
  | [.d (.lst xs), .d (.lst ys)] => R (zipD xs ys) ρ1
  | _ => False) er
theorem qi_zip (hg : Gl X "zip") (hm : X.mg "zip" = none) (ha : QA X T Z [a, b] ta)
    (hs : starEach [a, b] X.env = (false, eval a X.env) :: starEach [b] X.env := by rfl) (hpl : (backTo pos (starEach [b] X.env)).any (·.1) = false := by rfl) :
    QI X T Z (.Tuple elts kk tpos) (.Call (.Name "zip" p) [a, b] [] pos) (dZip ta) :=
  pi_imp (pi_zip hg hm ha hs hpl) fun σ H Q ⟨ρ, F, er, R, rep, tk, h, hk⟩ => ⟨ρ, F, er, _, rep, tk, h, fun vs H1 F1 ds ρ1 e1 rep1 rvs h1 => by
    split at h1
    · rename_i xs ys
      cases rvs with
      | cons r1 r2 =>
        cases r2 with
        | cons r2 r3 =>
          cases r3
          cases (show Rp X.K X.mg F1 _ (.lst xs) from r1) with
          | lst q1 q2 =>
            cases (show Rp X.K X.mg F1 _ (.lst ys) from r2) with
            | lst q3 q4 =>
              refine ⟨_, _, _, _, rfl, SqL.of (rep1.ok.sub _ _ q1), SqL.of (rep1.ok.sub _ _ q3), hk _ H1 F1 _ ρ1 e1 rep1 (walkD_pair (walk_zip rfl) ?_ (fun H e => ⟨SqL.of (e _ _ q1), SqL.of (e _ _ q3)⟩) fun i x y hi hx hy => ?_) h1⟩
              · unfold zipD
                rw [List.length_zipWith, q2.length, q4.length]
              · obtain ⟨d, hd, rd⟩ := q2.get' hx
                obtain ⟨d', hd', rd'⟩ := q4.get' hy
                exact ⟨d, d', by unfold zipD; rw [List.getElem?_zipWith, hd, hd'], rd, rd'⟩
    · exact h1.elim⟩
/-! ### min of a list of ints -/
def gMin1 : List D → (D → Prop) → Prop
  | [.lst xs], R => match inD xs with
    | some bs => 0 < bs.length ∧ ∀ m, m ∈ bs → (∀ y, y ∈ bs → m ≤ y) → R (.int m)
    | none => False
  | _, _ => False
theorem min_in {bs : List Int} (h : 0 < bs.length) : ∃ m, m ∈ bs ∧ ∀ y, y ∈ bs → m ≤ y := by
  obtain ⟨m, m1, m2⟩ := max_in (bs := bs.map fun x => -x) (by simpa using h)
  obtain ⟨c, c1, c2⟩ := List.mem_map.mp m1
  refine ⟨c, c1, fun y hy => ?_⟩
  have := m2 (-y) (List.mem_map.mpr ⟨y, hy, rfl⟩)
  omega
theorem min_one {bs : List Int} {m m' : Int} (h1 : m ∈ bs) (h2 : ∀ y, y ∈ bs → m ≤ y) (h3 : m' ∈ bs) (h4 : ∀ y, y ∈ bs → m' ≤ y) : m = m' := by
  have := h2 _ h3
  have := h4 _ h1
  omega
theorem qe_min1 {es : List PySem.Expr} (hc : X.calm = true) (hg : Gl X "min") (hm : X.mg "min" = none) (ha : QA X T Z (a :: es) ta)
    (he : starEach (a :: es) X.env = (false, eval a X.env) :: starEach es X.env := by rfl) (hpl : (backTo pos (starEach es X.env)).any (·.1) = false := by rfl) : QE X T Z (.Call (.Name "min" p) (a :: es) [] pos) (dB gMin1 ta) :=
  qe_B (cr_min hc) (okB_at fun dr F H vs ds R k rv h => by
    unfold gMin1 at h
    split at h
    · split at h
      · rename_i bs hb
        obtain ⟨a, ys, rfl, hs, r2⟩ := lst_at k rv
        rw [r2.ins hb] at hs
        obtain ⟨m, m1, m2⟩ := min_in h.1
        exact ⟨_, _, .int m, h.2 m m1 m2, fun Q q => ⟨_, _, rfl, hs, h.1, fun m' m3 m4 => by
          rw [min_one m3 m4 m1 m2]
          exact q⟩⟩
      · exact h.elim
    · exact h.elim) (by decide +kernel) hg hm ha (by decide) (by decide) he hpl
/-! ### list(range(e)) -/
def dLrg (te : DTE) : DTE := fun ρ R er => te ρ (fun d ρ1 => match d with
  | .int j => (-1000000 ≤ j ∧ j ≤ 1000000) ∧ R (.lst (rngD 0 j.toNat)) ρ1
  | _ => False) er
theorem rgV_rng {K : PySem.W.Frag} {mg : Mg} {F : Hp} {j : Int} : RpL K mg F (rgV 0 j) (rngD 0 j.toNat) := by
  have e1 : rgV 0 j = ((List.range j.toNat).map fun i : Nat => (0 + (i : Int))).map V.int := by
    unfold rgV
    simp
  have e2 : rngD 0 j.toNat = ((List.range j.toNat).map fun i : Nat => (0 + (i : Int))).map D.int := by
    unfold rngD
    rw [List.map_map]
    rfl
  rw [e1, e2]
  exact RpL.ofInts _
end
end DL
set_option Elab.async false
set_option linter.all false
set_option maxRecDepth 100000
set_option maxHeartbeats 4000000
namespace DL
open PySem PySem.Spec PyProof.Rows L2
section
variable {X : Cx} {T : List (Addr × Str)} {Z : Zx} {a b e : PySem.Expr} {ta tb te : DTE} {p pos p2 pos2 : Pos}
theorem qe_lrg (hc : X.calm = true) (hg : Gl X "list") (hm : X.mg "list" = none) (hg2 : Gl X "range") (hm2 : X.mg "range" = none) (ha : QE X T Z a ta)
    (na2 : starEach [a] X.env = (false, eval a X.env) :: starEach [] X.env := by rfl) (na : starEach [.Call (.Name "range" p2) [a] [] pos2] X.env = (false, eval (.Call (.Name "range" p2) [a] [] pos2) X.env) :: starEach [] X.env := by rfl) :
    QE X T Z (.Call (.Name "list" p) [.Call (.Name "range" p2) [a] [] pos2] [] pos) (dLrg ta) :=
  pe_imp (pe_listRg hc hg hm (prg_1 hg2 hm2 ha na2) na) fun σ H Q ⟨ρ, F, er, R, rep, tk, h, hk⟩ => ⟨ρ, F, er, _, rep, tk, h, fun v H1 F1 x ρ1 e1 rep1 rv h1 => by
    split at h1
    · rename_i j
      cases rv
      obtain ⟨c, hR⟩ := h1
      refine ⟨j, rfl, ⟨by omega, by omega, by omega, by omega, by omega⟩, fun q hq => ?_⟩
      obtain ⟨g1, k1, r1⟩ := laid_lst (dr := Z.dr) rep1.ok hq (rgV_rng (j := j))
      exact hk _ _ _ _ ρ1 (e1.trans g1.ff) (rep1.step g1 k1) r1 hR
    · exact h1.elim⟩
/-! ### {"a": .., "b": .., "c": .., "d": ..} -/
def dDisp4 (k1 k2 k3 k4 : Str) (t1 t2 t3 t4 : DTE) : DTE := fun ρ R er => t1 (ρ.map noOwn) (fun d1 ρ1 => t2 ρ1 (fun d2 ρ2 => t3 ρ2 (fun d3 ρ3 => t4 ρ3 (fun d4 ρ4 => R (.dic [(.inr k1, d1), (.inr k2, d2), (.inr k3, d3), (.inr k4, d4)]) ρ4) er) er) er) er
theorem qe_disp4 {e1 e2 e3 e4 : PySem.Expr} {t1 t2 t3 t4 : DTE} {k1 k2 k3 k4 : Str} {j1 j2 j3 j4 : Nat} {q1 q2 q3 q4 : Pos} (h1 : ∀ Z, QE X T Z e1 t1) (h2 : ∀ Z, QE X T Z e2 t2) (h3 : ∀ Z, QE X T Z e3 t3) (h4 : ∀ Z, QE X T Z e4 t4)
    (hk : ∀ a b c d : V, mergeK [] [((.inr k1 : Key), a), (.inr k2, b), (.inr k3, c), (.inr k4, d)] = [(.inr k1, a), (.inr k2, b), (.inr k3, c), (.inr k4, d)] := by exact fun _ _ _ _ => rfl) :
    QE X T Z (.Dict [some (.Constant (.str k1) j1 q1), some (.Constant (.str k2) j2 q2), some (.Constant (.str k3) j3 q3), some (.Constant (.str k4) j4 q4)] [e1, e2, e3, e4] pos) (dDisp4 k1 k2 k3 k4 t1 t2 t3 t4) := by
  refine ⟨fun pins s σ H Q I ⟨ρ, F, er, R, rep, tk, h, hq⟩ => ?_⟩
  have key : PE X (.Dict [some (.Constant (.str k1) j1 q1), some (.Constant (.str k2) j2 q2), some (.Constant (.str k3) j3 q3), some (.Constant (.str k4) j4 q4)] [e1, e2, e3, e4] pos)
      (tDisp [(tC (.str k1), fun σ H Q => ∃ Z', up X T Z' t1 σ H Q), (tC (.str k2), fun σ H Q => ∃ Z', up X T Z' t2 σ H Q), (tC (.str k3), fun σ H Q => ∃ Z', up X T Z' t3 σ H Q), (tC (.str k4), fun σ H Q => ∃ Z', up X T Z' t4 σ H Q)]) :=
    pe_disp (pps_cons pe_str ⟨fun pins s σ H Q I ⟨Z', u⟩ => (h1 Z').run pins s σ H Q I u⟩ (pps_cons pe_str ⟨fun pins s σ H Q I ⟨Z', u⟩ => (h2 Z').run pins s σ H Q I u⟩ (pps_cons pe_str ⟨fun pins s σ H Q I ⟨Z', u⟩ => (h3 Z').run pins s σ H Q I u⟩ (pps_cons pe_str ⟨fun pins s σ H Q I ⟨Z', u⟩ => (h4 Z').run pins s σ H Q I u⟩ pps_nil)))) (by rfl) (by rfl) (fun z => by cases z) (by show 4 ≤ 15; decide)
  refine key.run pins s σ H Q I fun p hp => ?_
  obtain ⟨k1', g1, fp⟩ := rep.ok.laidOwn (o := .dK []) hp
  have nAp : ¬ Am T Z.dr p := rep.ok.notAm hp
  have n0 : Z.H0 p = none := by
    cases q : Z.H0 p with
    | none => rfl
    | some u =>
      have z := rep.gr.hh p u q nAp
      rw [hp] at z
      cases z
  have repS := rep.step g1 k1'
  have rep1 := repS.rebase
  have tk1 : Takes X (Wer X.K X.mg T ⟨Z.dr, F, upd H p (.dK [])⟩ er) := by
    refine Takes.imp tk ?_
    rintro cls dd σ' H' ⟨ρ', F', e, rep', ea, hE⟩
    exact ⟨ρ', F', e, repS.unbase rep', ea, hE⟩
  refine ⟨⟨Z.dr, F, upd H p (.dK [])⟩, _, F, er, _, rep1, tk1, h, fun v1 H1 F1 d1 ρ1 e1 r1 rv1 h => ?_⟩
  refine ⟨⟨Z.dr, F, upd H p (.dK [])⟩, _, F1, er, _, r1, tk1, h, fun v2 H2 F2 d2 ρ2 e2 r2 rv2 h => ?_⟩
  refine ⟨⟨Z.dr, F, upd H p (.dK [])⟩, _, F2, er, _, r2, tk1, h, fun v3 H3 F3 d3 ρ3 e3 r3 rv3 h => ?_⟩
  refine ⟨⟨Z.dr, F, upd H p (.dK [])⟩, _, F3, er, _, r3, tk1, h, fun v4 H4 F4 d4 ρ4 e4 r4 rv4 h => ?_⟩
  have hH4 : H4 p = some (.dK []) := r4.gr.hh p _ upd_same nAp
  have fp4 : F4 p = none := r4.gr.un r4.ok.sub (show upd H p (.dK []) p = some (.dK []) from upd_same) (fun _ z => nomatch z) nAp fp
  have noO : ∀ (j : Nat) (c : Own), ρ4[j]? = some (some (.own c)) → σ[j]? ≠ some (some (.ref p)) := fun j c q z => by
    obtain ⟨p', w1, w2, w3, w4, w5⟩ := r4.own j c q
    rw [z] at w1
    cases w1
    rw [show (⟨Z.dr, F, upd H p (.dK [])⟩ : Zx).H0 p = some (.dK []) from upd_same] at w4
    cases w4
  refine ⟨hH4, [(.inr k1, v1), (.inr k2, v2), (.inr k3, v3), (.inr k4, v4)], rfl, (by show 4 ≤ 15; decide), ?_⟩
  rw [hk]
  have rZ := repS.unbase r4
  have rW := rZ.write (o := .dK [(.inr k1, v1), (.inr k2, v2), (.inr k3, v3), (.inr k4, v4)]) fp4 n0 nAp ⟨_, hH4, .inr ⟨_, rfl⟩⟩ noO
  have rF := rW.freeze upd_same n0 nAp noO fp4
  have x4 : Fx F4 (upd F4 p (.dK [(.inr k1, v1), (.inr k2, v2), (.inr k3, v3), (.inr k4, v4)])) := Fx.new fp4
  have e14 : Fx F1 F4 := e2.trans (e3.trans e4)
  exact hq _ _ _ _ ρ4 (e1.trans (e14.trans x4)) rF (.dic upd_same (.cons (rv1.mono (e14.trans x4)) (.cons (rv2.mono ((e3.trans e4).trans x4)) (.cons (rv3.mono (e4.trans x4)) (.cons (rv4.mono x4) .nil))))) h
/-! ### d[k], d a dict by texts -/
def lookD : List (Key × D) → Str → Option D
  | [], _ => none
  | (k, d) :: r, x => if k = .inr x then some d else lookD r x
theorem lookD_valV {K : PySem.W.Frag} {mg : Mg} {F : Hp} : ∀ {ks : List (Key × V)} {ds : List (Key × D)} {x : Str} {d : D}, RpK K mg F ks ds → lookD ds x = some d → ∃ v, valV ks (.inr x) = some v ∧ Rp K mg F v d
  | [], [], _, _, _, h => by cases h
  | (k, v) :: ks, _, x, d, .cons r t, h => by
    unfold lookD at h
    by_cases z : k = .inr x
    · rw [if_pos z] at h
      cases h
      exact ⟨v, valV_pos z, r⟩
    · rw [if_neg z] at h
      obtain ⟨w, h1, h2⟩ := lookD_valV t h
      exact ⟨w, by rw [valV_neg z]; exact h1, h2⟩
def gDix (x y : D) (R : D → Prop) : Prop := ∃ ks k d, x = .dic ks ∧ y = .str k ∧ lookD ks k = some d ∧ R d
theorem qe_dix (hu : X.A.units + 64 < cLine) (ha : QE X T Z a ta) (hb : QE X T Z b tb) (hs : NoSl b := by exact fun _ _ => rfl) : QE X T Z (.Subscript a b pos) (dBin gDix ta tb) :=
  pe_imp (pe_dget (by omega) ha hb hs) fun σ H Q ⟨ρ, F, er, R, rep, tk, h, hk⟩ => ⟨ρ, F, er, _, rep, tk, h, fun v H1 F1 x ρ1 e1 rep1 rv h1 => ⟨ρ1, F1, er, _, rep1, tk, h1, fun w H2 F2 y ρ2 e2 rep2 rw_ h2 => by
    obtain ⟨ks, k, d, rfl, rfl, hl, hR⟩ := h2
    have rv := rv.mono e2
    cases rw_
    cases rv with
    | dic q1 q2 =>
      obtain ⟨u, hu, ru⟩ := lookD_valV q2 hl
      exact ⟨_, u, rfl, by rw [← hu]; exact DGet.k (k := .inr k) (rep2.ok.sub _ _ q1), hk _ H2 F2 _ ρ2 (e1.trans e2) rep2 ru hR⟩⟩⟩
/-! ### a tuple of texts of the module -/
def KTup (K : PySem.W.Frag) (mg : Mg) (x : Str) (ss : List Str) : Prop := ∃ a, mg x = some (.ref a) ∧ ∀ H, SqT K H a (ss.map V.str)
theorem rpl_strs {K : PySem.W.Frag} {mg : Mg} {F : Hp} : ∀ ss : List Str, RpL K mg F (ss.map V.str) (ss.map D.str)
  | [] => .nil
  | s :: ss => .cons (.str s) (rpl_strs ss)
theorem qe_ktup {x : Str} {ss : List Str} {pp : Pos} (h : KTup X.K X.mg x ss) (hg : Gl X x) (hd : (x == ("__debug__" : Str)) = false := by decide) : QE X T Z (.Name x pp) (dC (.tup (ss.map D.str))) := by
  obtain ⟨a, hm, hq⟩ := h
  exact qe_c (pe_glob hg hm (v := .ref a) rfl hd) fun _ => .tup (hq _) (rpl_strs ss)
def ktupB (K : PySem.W.Frag) (a : Addr) (ss : List Str) : Bool := match K.lookup a with
  | some ⟨.type "tuple", _, .seq its _, _⟩ => decide (its.size ≤ 1000) && decide (its.toList.map (fun u => match u with | .str s _ => some s | _ => none) = ss.map some)
  | _ => false
theorem vals_strs : ∀ {us : List Value} {ss : List Str}, us.map (fun u => match u with | .str s _ => some s | _ => none) = ss.map some → Vals (ss.map V.str) us
  | [], [], _ => .nil
  | [], _ :: _, h => by cases h
  | _ :: _, [], h => by cases h
  | u :: us, s :: ss, h => by
    simp only [List.map_cons, List.cons.injEq] at h
    refine .cons ?_ (vals_strs h.2)
    have h1 := h.1
    cases u with
    | str x t =>
      cases h1
      exact ⟨t, rfl⟩
    | _ => cases h1
theorem ktup_of {K : PySem.W.Frag} {mg : Mg} {x : Str} {ss : List Str} {a : Addr} (hm : mg x = some (.ref a)) (h : ktupB K a ss = true) : KTup K mg x ss := by
  refine ⟨a, hm, fun H => .inr ?_⟩
  unfold ktupB at h
  split at h
  · rename_i its n _ e
    simp only [Bool.and_eq_true, decide_eq_true_eq] at h
    exact ⟨_, its, _, e, rfl, rfl, line1000 h.1, vals_strs h.2⟩
  · cases h
end
end DL
set_option Elab.async false
set_option linter.all false
set_option maxRecDepth 100000
set_option maxHeartbeats 4000000
namespace DL
open PySem PySem.Spec PyProof.Rows L2
/-! ### lambda: .. as a value of the frame, x(a), a such a lambda -/
def dLamE (κ : List (Str × Addr)) (L : LamSite) : DTE := fun ρ R er => R (.clo L κ) ρ
def dMkV (κ : List (Str × Addr)) (tab : List (LamSite × List Nat)) (i : Nat) (pt : Pt) : DTE := fun ρ R er => match ρ[i]? with
  | some (some (.d (.clo L κ'))) => κ' = κ ∧ ∃ ix, (L, ix) ∈ tab ∧ dMk L ix pt ρ R er
  | _ => False
section
variable {X : Cx} {T : List (Addr × Str)} {Z : Zx}
theorem adopt {pins : List (Addr × Obj)} {σ : L2.St} {H H1 : Hp} {s s' : Shared} {f : Addr} {obj : Obj} (I : Inv X pins σ H s) (J : Inv X pins σ H1 s') (hf : s'.heap.get? f = some obj) (hn : H1 f = none) (hge : s.heap.objs.size ≤ f) : Inv X pins σ (upd H1 f (.frz obj (.own f))) s' where
  ok := J.ok
  os := J.os
  bare := J.bare
  base := ⟨J.base.keep, J.base.slot, fun b o e n x => by
      have hb : b ≠ f := fun z => absurd (Nat.lt_of_lt_of_le (Nat.lt_of_lt_of_le (Heap.lt_size e) I.sz) (z ▸ hge)) (Nat.lt_irrefl _)
      rw [upd_ne hb]
      exact J.base.free b o e n x, J.base.there, fun b xs e => by
      have q := J.base.tups b xs e
      rw [upd_ne (ne_of_none q hn)]
      exact q, fun b o u e => by
      have q := J.base.frzs b o u e
      rw [upd_ne (ne_of_none q hn)]
      exact q, fun b ps e => by
      obtain ⟨more, q⟩ := J.base.tbls b ps e
      exact ⟨more, by rw [upd_ne (ne_of_none q hn)]; exact q⟩⟩
  loc := J.loc
  cell := J.cell
  free := by
    have hb : X.env.locals ≠ f := fun z => absurd (Nat.lt_of_lt_of_le I.lt (z ▸ hge)) (Nat.lt_irrefl _)
    rw [upd_ne hb]
    exact J.free
  freeC := fun x c e => by
    obtain ⟨v, o, a1, a2⟩ := I.cell x c e
    have hb : c ≠ f := fun z => absurd (Nat.lt_of_lt_of_le (Heap.lt_size a1) (z ▸ hge)) (Nat.lt_irrefl _)
    rw [upd_ne hb]
    exact J.freeC x c e
  pin := fun p hp => by
    obtain ⟨h1, h2, h3⟩ := J.pin p hp
    have hb : p.1 ≠ f := fun z => absurd (Nat.lt_of_lt_of_le (Heap.lt_size (I.pin p hp).1) (z ▸ hge)) (Nat.lt_irrefl _)
    exact ⟨h1, by rw [upd_ne hb]; exact h2, h3⟩
  hok := HOk.laidN J.hok (fun _ _ e => e) hn ⟨hf, obj, hf⟩
  len := J.len
theorem qe_lamE {L : LamSite} {c P : Addr} {lpos : Pos} (S : LamSt L) (hq : X.env.qual ++ "<lambda>" = L.q) (TB : LamX.TabB X.base X.mg c P) (hcode : X.env.code = .ref c) (hmT : (P, L.q) ∈ T) (hu : ∀ p ∈ T, p.1 = P → p.2 = L.q)
    (hfree : ∀ y ∈ L.scope.names, y.2 = .free → X.env.scope.names.lookup y.1 = some .cell ∨ X.env.scope.names.lookup y.1 = some .free) (hdef : defaultsOf L.params X.env = ([], []) := by rfl) :
    QE X T Z (.Lambda L.params L.body L.scope lpos) (dLamE X.env.cells L) := by
  refine ⟨fun pins s σ H Q I ⟨ρ, F, er, R, rep, tk, h, hk⟩ => ?_⟩
  refine lam_new I TB hcode hq hmT hu rep.ok.tabs hdef (fun y hy e => by
    rcases hfree y hy e with k | k
    · exact I.ok.has _ (.inl k)
    · exact I.ok.has _ (.inr k)) fun f c' pm ctv H1 s' I1 eN T1 hf hfn1 hfs tbb hco => ?_
  have notT : ∀ b o, F b = some o → ∀ qs, o ≠ .tbl qs := fun b o e qs z => by
    obtain ⟨q, hT⟩ := rep.ok.tbT b qs (z ▸ rep.ok.sub b o e)
    rw [rep.ok.ntb b (.inl ⟨q, hT⟩)] at e
    cases e
  have sub1 : Fx F H1 := fun b o e => eN b o (rep.ok.sub b o e) (notT b o e)
  have tb1 : ∀ b ps, H1 b = some (.tbl ps) → ∃ q, (b, q) ∈ T := fun b ps e => by
    obtain ⟨ps', e'⟩ := tbb b ps e
    exact rep.ok.tbT b ps' e'
  have nAc : ¬ Am T Z.dr c' := by
    rintro (⟨q, hT⟩ | ⟨a, l', e, z⟩)
    · obtain ⟨ps, h1, _⟩ := T1 _ hT
      rw [hco] at h1
      exact LamX.codeO_ne ps (Option.some.inj h1)
    · obtain ⟨c, r, t, big, cells, h1, h2, _⟩ := (rep.ok.drw a l' e).at_
      have g1 := eN _ _ h1 fun _ z => nomatch z
      have g2 := eN _ _ h2 fun _ z => nomatch z
      rcases z with z | z
      · rw [← z, hco] at g1
        cases g1
      · rw [← z, hco] at g2
        cases g2
  have drw1 : ∀ a l', Z.dr = some (a, l') → DrawAt X.K F H1 a l' := fun a l' e => by
    obtain ⟨c, r, t, big, cells, h1, h2, _⟩ := (rep.ok.drw a l' e).at_
    exact (rep.ok.drw a l' e).mono (Fx.refl F) ((eN _ _ h1 fun _ z => nomatch z).trans h1.symm) ((eN _ _ h2 fun _ z => nomatch z).trans h2.symm)
  have k1 : FOk X.K T Z.dr F H1 := ⟨sub1, rep.ok.ntb, T1, drw1, tb1⟩
  have g01 : Grw T Z.dr F H F H1 := ⟨fun b o e m => eN b o e fun qs z => by
      obtain ⟨q, hT⟩ := rep.ok.tbT b qs (z ▸ e)
      exact m (.inl ⟨q, hT⟩), Fx.refl F, fun b o e => .inl e⟩
  generalize hobj : PySem.W.kla_obj "<lambda>" L.q L.params L.body L.scope (cloFrom X.env.cells L.scope.names []) pm c' ctv = obj at hf
  obtain ⟨k2, g2⟩ := k1.laid (o := .frz obj (.own f)) hfn1
  have cf : c' ≠ f := ne_of_none hco hfn1
  have hco2 : upd H1 f (.frz obj (.own f)) c' = some (LamX.CodeO c' L.q) := (upd_ne cf).trans hco
  have x3 : Fx (upd F f (.frz obj (.own f))) (upd (upd F f (.frz obj (.own f))) c' (LamX.CodeO c' L.q)) := fun b o e => by
    by_cases hb : b = c'
    · subst hb
      rw [upd_same]
      exact hco2.symm.trans (k2.sub _ _ e)
    · rw [upd_ne hb]
      exact e
  have s3 : Fx (upd (upd F f (.frz obj (.own f))) c' (LamX.CodeO c' L.q)) (upd H1 f (.frz obj (.own f))) := fun b o e => by
    by_cases hb : b = c'
    · subst hb
      rw [upd_same] at e
      exact hco2.trans e
    · rw [upd_ne hb] at e
      exact k2.sub b o e
  have k3 : FOk X.K T Z.dr (upd (upd F f (.frz obj (.own f))) c' (LamX.CodeO c' L.q)) (upd H1 f (.frz obj (.own f))) := k2.grow x3 s3 (fun _ _ e => e) (fun b am => by
    have hb : b ≠ c' := fun z => nAc (z ▸ am)
    rw [upd_ne hb]
    exact k2.ntb b am) k2.tbT
  have g3 : Grw T Z.dr (upd F f (.frz obj (.own f))) (upd H1 f (.frz obj (.own f))) (upd (upd F f (.frz obj (.own f))) c' (LamX.CodeO c' L.q)) (upd H1 f (.frz obj (.own f))) := ⟨fun _ _ e _ => e, x3, fun b o e => by
    by_cases hb : b = c'
    · subst hb
      rw [upd_same] at e
      exact .inr (.inr ⟨_, (Option.some.inj e).symm⟩)
    · rw [upd_ne hb] at e
      exact .inl e⟩
  have g := g01.trans (g2.trans g3 k3.ntb) k3.ntb
  refine ⟨.ref f, _, adopt I I1 hf hfn1 hfs, rfl, hk _ _ _ _ ρ g.ff (rep.step g k3) (.clo (pm := pm) (ctv := ctv) ?_ upd_same) h⟩
  rw [hobj]
  exact (upd_ne (Ne.symm cf)).trans upd_same
theorem qe_mkClo {x a : Str} {st : Stmt} {ps : List Str} {tab : List (LamSite × List Nat)} {k j : Nat} {pt : Pt} {p p2 pos : Pos} (i : Nat) (O : Fo X.prog X.w X.K X.mg X.base x st ps k (SpF X.K X.mg T pt)) (hr : Room j X.A) (hkj : k ≤ j) (hg : Gl X x)
    (TS : ∀ q ∈ tab, LamSt q.1 ∧ (∀ y ∈ q.1.scope.names, y.2 = .free → X.env.scope.names.lookup y.1 = some .cell ∨ X.env.scope.names.lookup y.1 = some .free) ∧ q.2.map (X.N[·]?) = q.1.ns.map some)
    (hN : X.N[i]? = some a := by rfl) (hv : Vis X.env.scope a := by first | exact Or.inl rfl | exact Or.inr (Or.inl rfl) | exact Or.inr (Or.inr rfl)) (hd : (a == ("__debug__" : Str)) = false := by decide) (hcd : (a == ("__classdict__" : Str)) = false := by decide)
    (hfn : ∀ y, X.fn y = true := by exact fun _ => rfl) (hdb : (x == ("__debug__" : Str)) = false := by decide) :
    QE X T Z (.Call (.Name x p) [.Name a p2] [] pos) (dMkV X.env.cells tab i pt) := by
  obtain ⟨g, fd, hm, F0, hb, ok⟩ := O.ex
  refine ⟨fun pins s σ H Q I ⟨ρ, F, er, R, rep, tk, h, hk⟩ => ?_⟩
  unfold dMkV at h
  split at h
  case h_2 => exact h.elim
  rename_i L κ' hi
  obtain ⟨rfl, ix, htab, cs, hcs, hpl, h⟩ := h
  obtain ⟨S, hfree, hix⟩ := TS _ htab
  obtain ⟨v, hs, rv⟩ := rep.dat i _ hi
  cases rv with
  | clo w1 w2 =>
    rename_i f c' pm ctv
    refine wpAny_Call_Name_kw (ld_glob I hg hm ?_ hdb)
    refine PySem.W.callWith_K (h₀ := X.base) I.ok.mod.kin F0.kp ?_ (by rfl) (by rfl)
    show wpAny _ _ (spliced ((false, eval (.Name a p2) X.env) :: backTo pos (starEach [] X.env))) _ _ s
    refine Calls.spliced_cons (thn ((pe_var (pos := p2) (i := i) hN hv hd hcd).run pins s σ H (fun v H1 => v = .ref f ∧ H1 = H) I ⟨.ref f, hs, rfl, rfl⟩) fun u s' ⟨v, H1, I1, r1, q1⟩ => ?_)
    obtain ⟨ev, eH⟩ := q1
    subst ev
    rw [eH] at I1
    obtain rfl : u = Value.ref f := r1
    refine Calls.spliced_nil ⟨I1.kIn, ?_⟩
    have hF := rep.ok.sub _ _ w1
    have hco : H c' = some (LamX.CodeO c' L.q) := rep.ok.sub _ _ w2
    obtain ⟨clo1, clo2⟩ := lam_cells I1 S hfree
    generalize hcl : cloFrom X.env.cells L.scope.names [] = cl at clo1 clo2 w1 hF
    obtain ⟨len, at1⟩ := ix_one hcs hix
    obtain ⟨m, hns, hloc⟩ := id I1.loc
    obtain ⟨vs, vl, va⟩ := vals_of (P := fun j v d => Rp X.K X.mg F v d ∧ ∀ n, L.ns[j]? = some n → ∃ c u, cl.lookup n = some c ∧ s'.heap.IsCell c (some u) ∧ RelV v u) cs fun j d e => by
      have hj : j < L.ns.length := len ▸ (List.getElem?_eq_some_iff.mp e).1
      obtain ⟨i', d', a1, a2, a3⟩ := at1 j _ (List.getElem?_eq_getElem hj)
      rw [a3] at e
      cases e
      obtain ⟨v, s1, r1⟩ := rep.dat i' _ a2
      refine ⟨v, r1, fun n hn => ?_⟩
      rw [List.getElem?_eq_getElem hj] at hn
      cases hn
      have hfl := S.ns _ (List.getElem_mem hj)
      have hvis := hfree _ (PySem.mem_of_lookup hfl) rfl
      obtain ⟨u, ru, q⟩ := hloc i' _ v a1 s1 (.inr hvis)
      obtain ⟨cc, hcc⟩ := clo2 _ hfl
      have hX := clo1 _ _ hcc
      rcases q with ⟨k', _⟩ | ⟨_, c3, e', z⟩
      · have k' : X.env.scope.names.lookup _ = some .local := k'
        rcases hvis with k2 | k2 <;> rw [k2] at k' <;> cases k'
      · rw [hX] at e'
        cases e'
        exact ⟨cc, u, hcc, z, ru⟩
    generalize hG : (fun b => (s'.heap.get? b).map fun o => HO.frz o (.own b) : Hp) = G
    generalize hl : (cl.map (·.1)).filterMap (cl.lookup ·) = l
    have inl : ∀ {y c}, cl.lookup y = some c → c ∈ l := fun {y c} e => hl ▸ mem_clo e
    have cell_ : ∀ {y c}, cl.lookup y = some c → ∃ o u, s'.heap.get? c = some o ∧ o.data = .cell u ∧ G c = some (.frz o (.own c)) := fun {y c} e => by
      obtain ⟨v, o, a1, a2⟩ := I1.cell y c (clo1 y c e)
      exact ⟨o, v, a1, a2, by rw [← hG]; show (s'.heap.get? c).map _ = _; rw [a1]; rfl⟩
    have each : ∀ b ∈ l, ∃ y, cl.lookup y = some b := fun b m => by
      rw [← hl] at m
      obtain ⟨y, _, h2⟩ := List.mem_filterMap.mp m
      exact ⟨y, h2⟩
    have trk : Trk l G H s'.heap := ⟨fun b m => by
      obtain ⟨y, e⟩ := each b m
      exact I1.freeC y b (clo1 y b e), fun b m => by
      obtain ⟨y, e⟩ := each b m
      obtain ⟨o, u, a1, a2, a3⟩ := cell_ e
      exact ⟨o, a3, a1⟩⟩
    have nfr : ∀ b ∈ l, b ∉ frs X.stack := fun b m hb => by
      obtain ⟨y, e⟩ := each b m
      rcases List.mem_cons.mp (I1.stkSub b hb) with z | z
      · exact I1.cne y b (clo1 y b e) z
      · obtain ⟨_, o, ho, _⟩ := I1.ok.funs.mem z
        exact absurd (Nat.lt_of_lt_of_le (Heap.lt_size ho) (I1.ok.cab y b (hfn y) (clo1 y b e))) (Nat.lt_irrefl _)
    have nbs : ∀ b ∈ l, X.base.get? b = none := fun b m => by
      cases q : X.base.get? b with
      | none => rfl
      | some o =>
        exfalso
        obtain ⟨y, e⟩ := each b m
        have q2 := (I1.ok.bs b o q).1
        exact absurd (Nat.lt_of_lt_of_le (Heap.lt_size q2) (I1.ok.cab y b (hfn y) (clo1 y b e))) (Nat.lt_irrefl _)
    have xF : Fx F (putL l G F) := fun b o e => (putL_out (trk.out (rep.ok.sub b o e))).trans e
    have rF : Rp X.K X.mg (putL l G F) (.ref f) (.lam L cs) := by
      refine .lam (xF _ _ w1) (xF _ _ w2) ⟨fun y c e => ?_, fun x y c e1 e2 => I1.ok.inj x y c (clo1 x c e1) (clo1 y c e2), clo2⟩ (fun j n v e1 e2 => ?_) (rpl_of vl fun j v d e1 e2 => ((va j v d e1 e2).1).mono xF)
      · obtain ⟨o, u, a1, a2, a3⟩ := cell_ e
        exact ⟨o, u, (putL_in (inl e)).trans a3, a2⟩
      · have hj : j < cs.length := vl ▸ (List.getElem?_eq_some_iff.mp e2).1
        obtain ⟨c, u, a1, ⟨o, a2, a3⟩, a4⟩ := (va j v _ e2 (List.getElem?_eq_getElem hj)).2 n e1
        exact ⟨c, o, u, a1, (putL_in (inl a1)).trans (by rw [← hG]; show (s'.heap.get? _).map _ = _; rw [a2]; rfl), a3, a4⟩
    have nAl : ∀ b ∈ l, ¬ Am T Z.dr b := fun b m => by
      rintro (⟨q, hT⟩ | ⟨a, l', e, z⟩)
      · obtain ⟨ps, h1, _⟩ := rep.ok.tabs _ hT
        rw [trk.no b m] at h1
        cases h1
      · obtain ⟨c, r, t, big, cells, h1, h2, _⟩ := (rep.ok.drw a l' e).at_
        rcases z with z | z
        · rw [← z, trk.no b m] at h1
          cases h1
        · rw [← z, trk.no b m] at h2
          cases h2
    have ks : FOk X.K T Z.dr (putL l G F) (putL l G H) := by
      have xH : ∀ b o, H b = some o → putL l G H b = some o := fun b o e => (putL_out (trk.out e)).trans e
      refine rep.ok.grow xF (fun b o e => ?_) xH (fun b am => ?_) (fun b ps e => ?_)
      · by_cases m : b ∈ l
        · rw [putL_in m] at e ⊢
          exact e
        · rw [putL_out m] at e ⊢
          exact rep.ok.sub b o e
      · have m : b ∉ l := fun m => nAl b m am
        rw [putL_out m]
        exact rep.ok.ntb b am
      · by_cases m : b ∈ l
        · rw [putL_in m] at e
          obtain ⟨o, q, _⟩ := trk.at_ b m
          rw [q] at e
          cases e
        · rw [putL_out m] at e
          exact rep.ok.tbT b ps e
    have back : ∀ {H' F' : Hp}, Grw T Z.dr (putL l G F) (putL l G H) F' H' → FOk X.K T Z.dr F' H' → Pin l H' → Grw T Z.dr F H (cutL l F') (cutL l H') ∧ FOk X.K T Z.dr (cutL l F') (cutL l H') ∧ Pin l F' := fun {H' F'} g kk pn => by
      have pF : Pin l F' := fun b m => by
        obtain ⟨o, q, _⟩ := trk.at_ b m
        exact ⟨o, g.ff b _ ((putL_in m).trans q)⟩
      refine ⟨⟨fun b o e am => ?_, fun b o e => ?_, fun b o e => ?_⟩, pF.fok pn kk, pF⟩
      · have m := trk.out e
        rw [cutL_out m]
        exact g.hh b o ((putL_out m).trans e) am
      · have m := trk.out (rep.ok.sub b o e)
        rw [cutL_out m]
        exact g.ff b o ((putL_out m).trans e)
      · by_cases m : b ∈ l
        · rw [cutL_in m] at e
          cases e
        · rw [cutL_out m] at e
          rcases g.new b o e with z | z | z
          · rw [putL_out m] at z
            exact .inl z
          · rw [putL_out m] at z
            exact .inr (.inl z)
          · exact .inr (.inr z)
    have hb1 := hb s' [.ref f] I1.kIn (by
      have z := ok.len [V.ref f] _ (fun _ _ => True) (fun _ _ _ => True) ⟨_, Z.dr, [.d (.lam L cs)], _, _, ks, .cons rF .nil, h, fun _ _ _ _ _ _ _ _ => trivial, fun _ _ _ _ _ _ _ _ _ => trivial⟩
      simpa using z)
    rw [List.append_nil] at hb1
    refine wpAny_call (codeAny_mono (ok.run X.A X.stack s' (putL l G H) ⟨[.ref f], []⟩ [.ref f] [.ref f] (fun v H' => Pin l H' → Q v (cutL l H')) (fun cls d H' => Pin l H' → Wer X.K X.mg T Z er cls d σ (cutL l H')) (hr.mono hkj) (trk.env0 I1.env0 nfr nbs) hb1 (.cons rfl .nil) ?_) fun r s2 rc => ?_)
    · refine ⟨_, Z.dr, [.d (.lam L cs)], _, _, ks, .cons rF .nil, h, fun v H' F' d g kk rv hR pn => ?_, fun cls dd H' F' e g kk ea he pn => ?_⟩
      · obtain ⟨g1, k2, pF⟩ := back g kk pn
        exact hk v _ _ d ρ g1.ff (rep.step g1 k2) (rv.cutX pF hR.1) hR.2
      · obtain ⟨g1, k2, pF⟩ := back g kk pn
        exact ⟨ρ, _, e, rep.step g1 k2, ea.cut pF he.1, he.2⟩
    · have hq2 := cr_put_cut (r := r) (s' := s2) (Q' := Q) (E' := WE (Wer X.K X.mg T Z er) σ) trk nfr (fun v H' pn q => q pn) (fun cls d H' pn q => q pn) rc
      cases r with
      | error e => exact passAt tk σ pins H s' e s2 I1 hq2
      | ok fl =>
        cases fl with
        | ret u => exact I1.after hq2
        | next => exact False.elim hq2
        | brk => exact False.elim hq2
        | cont => exact False.elim hq2
end
end DL
set_option Elab.async false
set_option linter.all false
set_option maxRecDepth 100000
set_option maxHeartbeats 2000000
namespace DL
open PySem PySem.Spec PyProof.Rows L2
/-! ### the law, its reading over the frame's cells -/
section
variable {sp : Sp} {P : Program} {w : World} {K : PySem.W.Frag} {mg : Mg} {base : Heap} {T : List (Addr × Str)} {x xb : Str} {st stb : Stmt} {f : Addr} {fd : FuncData} {N ps psb : List Str} {k kb : Nat} {ts : List (Str × Addr) → DTS} {j : Nat} {rest : List Stmt} {d sc : Str} {pd p psc pos pos2 : Pos}
theorem law_okK {c : Addr} (hc : ∀ (oc : Value) (od : Option Addr) (fd' : FuncData) (osl : Array (Option Value)) (c' : Addr), K.lookup f = some ⟨oc, od, .func fd', osl⟩ → fd'.code = .ref c' → c' = c) (hm : mg x = some (.ref f)) (Fd : FunD K x x (defArgs st) (defBody st) (defScope st) [] [] f fd) (S : FnScope N ps (defScope st)) (hbd : Binds K fd ps []) (hps : ps.length = 1) (hbody : defBody st = .Assign [.Name d pd] (.Call (.Name xb p) [.Name sc psc] [] pos) pos2 :: rest)
    (O : Fo P w K mg base xb stb psb kb (SpB K mg T)) (hkb : kb ≤ k)
    (h1 : ∀ (f : Addr) (cdv : Value) (A : Around) (outer : List Env) (s : Shared) (H : Hp) (E : XK) (t : TE), PE (CxD P w K mg base N x st f cdv A outer s H E) (.Call (.Name xb p) [.Name sc psc] [] pos) t → PS (CxD P w K mg base N x st f cdv A outer s H E) (.Assign [.Name d pd] (.Call (.Name xb p) [.Name sc psc] [] pos) pos2) (tAsg t (gName j)))
    (hcall : ∀ (f : Addr) (cdv : Value) (A : Around) (outer : List Env) (s : Shared) (H : Hp) (E : XK), Gl (CxD P w K mg base N x st f cdv A outer s H E) xb ∧ PE (CxD P w K mg base N x st f cdv A outer s H E) (.Name sc psc) (tVar 0) ∧ starEach [.Name sc psc] (CxD P w K mg base N x st f cdv A outer s H E).env = (false, eval (.Name sc psc) (CxD P w K mg base N x st f cdv A outer s H E).env) :: starEach [] (CxD P w K mg base N x st f cdv A outer s H E).env)
    (hdb : (xb == ("__debug__" : Str)) = false)
    (h2 : ∀ (f : Addr) (A : Around) (outer : List Env) (s : Shared) (H : Hp) (E : XK) (Z : Zx), Room k (A.deeper (envOfC x (defScope st) s.heap.objs.size f (.ref c))) → A.guards = some [] → QSs (CxD P w K mg base N x st f (.ref c) A outer s H E) T Z rest (ts (CxD P w K mg base N x st f (.ref c) A outer s H E).env.cells))
    (hp : ∀ κ ns, ns.length ≤ 63 → (∀ n ∈ ns, Builtin.Int.intBits n ≤ 1048576) → ts κ ((dStart N.length [.d (.scr ns)]).set j (some .drw)) { nx := fun _ => False, rt := fun d => d = .bl true } fun _ => False) : Go P w K mg base x st ps (k + 1) (SpLaw K mg T) := by
  refine ⟨f, fd, hm, Fd, hbd, fun vs H Q E ⟨F, v, ns, e, _⟩ => by rw [e, hps] <;> rfl, fun A outer s H args us vs Q E hr hg e0 hbi r h => ?_⟩
  obtain ⟨F, v, ns, ev, hlen, kk, rv, hq⟩ := id h
  subst ev
  obtain ⟨oc, od, dV, kV, doc, pm, an, cdv, ct, osl, rfl, lk, hcd, hD, hK⟩ := Fd.ex
  obtain ⟨c', rfl⟩ := He.codeIn_ref hcd
  obtain rfl : c' = c := hc _ _ _ _ _ lk rfl
  refine LamX.run_ofS lk hcd S hr e0 hbi r (by rw [hps] <;> rfl) fun hr' => ?_
  obtain ⟨g, fdb, hmb, Fb, hbb, okb⟩ := O.ex
  obtain ⟨hgl, hpe, hst⟩ := hcall f _ A outer s H E
  rw [hbody]
  have tk0 : ∀ {T' : List (Addr × Str)} {Z' : Zx}, Takes (CxD P w K mg base N x st f (.ref c') A outer s H E) (Wer K mg T' Z' fun _ => False) := takesF
  have P1 := h1 f _ A outer s H E _ (pe_callSD (p := p) (pos := pos) (E := WE (Wer K mg T ⟨none, F, H⟩ fun _ => False)) okb (hr'.mono hkb) hgl hmb Fb.kp hbb .nil (passAt tk0) (pa_cons hpe pa_nil hst) hdb hst (by rfl))
  have P2 : PSs (CxD P w K mg base N x st f (.ref c') A outer s H E) rest (fun E' σ H' => ∃ Z', upS (CxD P w K mg base N x st f (.ref c') A outer s H E) T Z' (ts (CxD P w K mg base N x st f (.ref c') A outer s H E).env.cells) E' σ H') := ⟨fun pins s' σ H' E' I ⟨Z', u⟩ => (h2 f A outer s H E Z' hr' hg).run pins s' σ H' E' I u⟩
  refine ⟨_, pss_cons P1 P2, ?_⟩
  have rp := rep_start (N := N) kk (.cons (show RpA K mg F none v (.d (.scr ns)) from rv) .nil)
  have hN : 0 < N.length := by
    have := congrArg List.length S.pre
    rw [List.length_take, hps] at this
    omega
  have h0 : (L2.start N [v])[0]? = some (some v) := rfl
  refine ⟨v, h0, F, v, ns, rfl, hlen, kk, rv, fun a l H1 F1 g1 k1 ha hl => ?_⟩
  have hbits : ∀ n ∈ ns, Builtin.Int.intBits n ≤ 1048576 := by
    cases rv with
    | scr _ h => exact h
  have none_ : ∀ (i : Nat) (y : DV), (dStart N.length [.d (.scr ns)])[i]? = some (some y) → y = .d (.scr ns) := fun i y e => by
    unfold dStart at e
    cases i with
    | zero =>
      cases e
      rfl
    | succ i =>
      rw [List.getElem?_append_right (by simp), List.getElem?_replicate] at e
      split at e <;> cases e
  have r1 := rep_begun (j := j) rp.len rp.dat (fun i e => by cases none_ i _ e) (fun i c e => by cases none_ i _ e) (fun i L cs e => by cases none_ i _ e) g1.ff k1
  refine ⟨⟨some (a, l), F1, H1⟩, _, F1, fun _ => False, _, r1, tk0, hp _ ns hlen hbits, fun _ _ _ _ _ _ z => z.elim, fun v σ' H' F' ρ' d _ _ rv e => ?_, fun _ _ _ _ _ _ z => z.elim, fun _ _ _ _ _ _ z => z.elim⟩
  subst e
  cases rv
  exact hq H'
end
end DL
set_option Elab.async false
set_option linter.all false
set_option maxRecDepth 100000
set_option maxHeartbeats 2000000
namespace DL
open PySem PySem.Spec PyProof.Rows L2
/-! ### x is not True, x is not False; both as tests -/
def gIsNotB (x y : D) (R : D → Prop) : Prop := ∃ a b, x = .bl a ∧ y = .bl b ∧ R (.bl (!decide (a = b)))
section
variable {X : Cx} {T : List (Addr × Str)} {Z : Zx} {a b : Expr} {ta tb : DTE} {pos : Pos}
theorem ok_isnotB : Ok2 X T (fun x y H Q => ∃ a b, x = .bl a ∧ y = .bl b ∧ Q (.bl (!decide (a = b))) H) gIsNotB := ok2_at fun _ _ F H v w x y R k rx ry hg => by
    obtain ⟨p, q, rfl, rfl, hR⟩ := hg
    cases rx
    cases ry
    exact ⟨_, _, .bl _, hR, fun Q q => ⟨_, _, rfl, rfl, q⟩⟩
theorem ok_isB : Ok2 X T (fun x y H Q => ∃ a b, x = .bl a ∧ y = .bl b ∧ Q (.bl (decide (a = b))) H) gIsB := ok2_at fun _ _ F H v w x y R k rx ry hg => by
    obtain ⟨p, q, rfl, rfl, hR⟩ := hg
    cases rx
    cases ry
    exact ⟨_, _, .bl _, hR, fun Q q => ⟨_, _, rfl, rfl, q⟩⟩
theorem qe_isnotB (ha : QE X T Z a ta) (hb : QE X T Z b tb) : QE X T Z (.Compare a [.IsNot] [b] pos) (dBin gIsNotB ta tb) := qe_cmp op_isnot_bl ok_isnotB (nomark _) ha hb
theorem qt_isnotB (ha : QE X T Z a ta) (hb : QE X T Z b tb) : QT X T Z (.Compare a [.IsNot] [b] pos) (dVal (dBin gIsNotB ta tb)) := qt_cmp op_isnot_bl ok_isnotB (nomark _) ha hb
theorem qt_isB (ha : QE X T Z a ta) (hb : QE X T Z b tb) : QT X T Z (.Compare a [.Is] [b] pos) (dVal (dBin gIsB ta tb)) := qt_cmp op_is_bl ok_isB (nomark _) ha hb
end
end DL
set_option Elab.async false
set_option linter.all false
set_option maxRecDepth 100000
set_option maxHeartbeats 2000000
namespace DL
open PySem PySem.Spec PyProof.Rows L2
/-! ### [e for x, y, z in .. if t] -/
def dLc3 (wi : DTI) (i j l : Nat) (vs : List Nat) (tt : DTT) (te : DTE) : DEnv → (Own → DEnv → Prop) → (Er → Prop) → Prop := fun ρ R er => wi ρ (fun ds ρ1 => ∃ Iv : Nat → List D → Prop, Iv 0 [] ∧
  (∀ k d acc, ds[k]? = some d → Iv k acc → ∃ d1 d2 d3, d = .tup [d1, d2, d3] ∧ tt ((((inE ρ1 vs).set i (some (.d d1))).set j (some (.d d2))).set l (some (.d d3))) (fun b ρ2 => match b with
    | true => te ρ2 (fun y _ => acc.length < sizeLine ∧ Iv (k + 1) (acc ++ [y])) (fun _ => False)
    | false => Iv (k + 1) acc) (fun _ => False)) ∧ ∀ acc, Iv ds.length acc → R (.lst acc) ρ1) er
section
variable {X : Cx} {T : List (Addr × Str)} {Z : Zx} {tg iter elt : PySem.Expr} {ifs : List PySem.Expr} {scope : Scope} {own : List (Str × Nat)} {pos : Pos} {wi : DTI} {tt : DTT} {te : DTE} {i j l : Nat}
theorem lc_up3 (him : i ∈ own.map (·.2)) (hjm : j ∈ own.map (·.2)) (hlm : l ∈ own.map (·.2)) : ∀ σ H Q, upN X T Z (dLc3 wi i j l (own.map (·.2)) tt te) σ H Q → tLc (upI X T Z wi) (gTup X.K 3 (gCons (gName i) (gCons (gName j) (gCons (gName l) gNil)))) (upTB X.K X.mg T tt) (upB X.K X.mg T te) (own.map (·.2)) σ H Q := fun σ H Q ⟨ρ, F, er, R, rep, tk, h, hk⟩ => ⟨ρ, F, er, _, rep, tk, h, fun J H1 F1 ds ρ1 e1 rep1 wd ⟨Iv, i0, istep, iend⟩ => fun Dd hD => by
  have nA : ¬ Am T Z.dr Dd := rep1.ok.notAm hD
  have n0 : Z.H0 Dd = none := by
    cases q : Z.H0 Dd with
    | none => rfl
    | some u =>
      have z := rep1.gr.hh Dd u q nA
      rw [hD] at z
      cases z
  have nO : ∀ (j : Nat) (c : Own), ρ1[j]? = some (some (.own c)) → σ[j]? ≠ some (some (.ref Dd)) := fun j c e z => by
    obtain ⟨p, h1, h2, _⟩ := rep1.own j c e
    rw [z] at h1
    cases h1
    obtain ⟨o, ho, _⟩ := h2.some
    rw [hD] at ho
    cases ho
  obtain ⟨k1, g1, f1⟩ := rep1.ok.laidOwn (o := .lst []) hD
  refine lc_it wd (fun k H' => ∃ F' acc xs, Fx F1 F' ∧ Rep X.K X.mg T Z ρ1 F' σ H' ∧ H' Dd = some (.lst xs) ∧ RpL X.K X.mg F' xs acc ∧ F' Dd = none ∧ Iv k acc) ?_ ?_ ?_ ?_
  · exact ⟨F1, [], [], Fx.refl F1, rep1.step g1 k1, upd_same, .nil, f1, i0⟩
  · rintro k H' _ ⟨F', acc, xs, e, r', _⟩
    exact e.trans r'.ok.sub
  · rintro k x H' H'' hlt ⟨F', acc, xs, e, r', hl, rl, fD, inv⟩ y
    obtain ⟨F'', g2, k2, d, hd, rd⟩ := y F' e r'.ok
    have r2 := r'.step g2 k2
    have hl2 : H'' Dd = some (.lst xs) := g2.hh Dd _ hl nA
    have fD2 : F'' Dd = none := g2.un k2.sub hl (fun _ z => nomatch z) nA fD
    obtain ⟨d1, d2, d3, rfl, hstep⟩ := istep k d acc hd inv
    cases rd with
    | tup q1 q2 =>
      rename_i a us
      obtain ⟨u1, u2, u3, rfl, rd1, rd2, rd3⟩ : ∃ u1 u2 u3, us = [u1, u2, u3] ∧ Rp X.K X.mg F'' u1 d1 ∧ Rp X.K X.mg F'' u2 d2 ∧ Rp X.K X.mg F'' u3 d3 := by
        cases q2 with
        | cons r1 q3 =>
          cases q3 with
          | cons r2 q4 =>
            cases q4 with
            | cons r3 q5 =>
              cases q5
              exact ⟨_, _, _, rfl, r1, r2, r3⟩
      have rin : Rep X.K X.mg T ⟨Z.dr, F'', H''⟩ ((((inE ρ1 (own.map (·.2))).set i (some (.d d1))).set j (some (.d d2))).set l (some (.d d3))) F'' ((((wipe σ (own.map (·.2))).set i (some u1)).set j (some u2)).set l (some u3)) H'' := Rep.set (i := l) (Rep.set (i := j) (Rep.set (i := i) (r2.rebase.wiped (own.map fun x : Str × Nat => x.2)) rd1) rd2) rd3
      refine ⟨a, [u1, u2, u3], rfl, k2.sub.sqt q1, rfl, u1, [u2, u3], rfl, u2, [u3], rfl, u3, [], rfl, rfl, ?_⟩
      show wipe _ _ = _ ∧ upTB X.K X.mg T tt _ H'' _
      refine ⟨by rw [wipe_put hlm, wipe_put hjm, wipe_set him], ⟨Z.dr, F'', H''⟩, _, F'', _, rin, hstep, fun b H3 F3 ρ3 e3 r3 h3 => ?_⟩
      have s3 := r2.step r3.gr r3.ok
      have hl3 : H3 Dd = some (.lst xs) := r3.gr.hh Dd _ hl2 nA
      have fD3 : F3 Dd = none := r3.gr.un r3.ok.sub hl2 (fun _ z => nomatch z) nA fD2
      cases b with
      | true =>
        refine iteT ?_
        refine ⟨⟨Z.dr, F'', H''⟩, ρ3, F3, _, r3, h3, fun v H4 F4 d4 ρ4 e4 r4 rv4 h4 => ?_⟩
        obtain ⟨hz, inv4⟩ := h4
        have s4 := r2.step r4.gr r4.ok
        have hl4 : H4 Dd = some (.lst xs) := r4.gr.hh Dd _ hl2 nA
        have fD4 : F4 Dd = none := r4.gr.un r4.ok.sub hl2 (fun _ z => nomatch z) nA fD2
        have rl4 : RpL X.K X.mg F4 xs acc := rl.mono (g2.ff.trans (e3.trans e4))
        refine ⟨xs, hl4, by rw [rl.length]; exact hz, F4, acc ++ [d4], xs ++ [v], e.trans (g2.ff.trans (e3.trans e4)), s4.write fD4 n0 nA ⟨_, hl4, .inl ⟨xs, rfl⟩⟩ nO, upd_same, rl4.append (.cons rv4 .nil), fD4, inv4⟩
      | false =>
        refine iteF ?_
        exact ⟨F3, acc, xs, e.trans (g2.ff.trans e3), s3, hl3, rl.mono (g2.ff.trans e3), fD3, h3⟩
  · rintro H' ⟨F', acc, xs, e, r', hl, rl, fD, inv⟩
    exact hk Dd H' F' (.lst acc) ρ1 (e1.trans e) r' ⟨xs, hl, rl⟩ fD n0 nA nO (iend acc inv)⟩
theorem lc_pg3 {X : Cx} {i j l : Nat} {x y z : Str} {p1 p2 p3 pos : Pos} {k : Nat} (hc : X.calm = true) (hN : X.N.Nodup) (hi : X.N[i]? = some x := by rfl) (hj : X.N[j]? = some y := by rfl) (hl : X.N[l]? = some z := by rfl) (hx : Loc X.env.scope x := by first | exact Or.inl rfl | exact Or.inr rfl) (hy : Loc X.env.scope y := by first | exact Or.inl rfl | exact Or.inr rfl) (hz : Loc X.env.scope z := by first | exact Or.inl rfl | exact Or.inr rfl)
    (hf : X.fn x = true ∨ X.env.scope.names.lookup x = some .local := by first | exact .inl rfl | exact .inr rfl) (hg : X.fn y = true ∨ X.env.scope.names.lookup y = some .local := by first | exact .inl rfl | exact .inr rfl) (hh : X.fn z = true ∨ X.env.scope.names.lookup z = some .local := by first | exact .inl rfl | exact .inr rfl) : PG X (.Tuple [.Name x p1, .Name y p2, .Name z p3] k pos) (gTup X.K 3 (gCons (gName i) (gCons (gName j) (gCons (gName l) gNil)))) :=
  pg_tup hc (pgs_cons (pg_name hN hi hx hf) (pgs_cons (pg_name hN hj hy hg) (pgs_cons (pg_name hN hl hz hh) pgs_nil)))
theorem qn_lc3 (hc : X.calm = true) (hN : X.N.Nodup) (ok : BlkOk X.N X.env.scope scope own) (him : i ∈ own.map (·.2)) (hjm : j ∈ own.map (·.2)) (hlm : l ∈ own.map (·.2)) (hi : QI X T Z tg iter wi)
    (hg : ∀ (s : Shared) (H : Hp) (C : Addr) (cl : List (Str × Addr)) (fp : List Addr), PG (X.blk s H scope (compEnvC scope cl C X.env) fp) tg (gTup X.K 3 (gCons (gName i) (gCons (gName j) (gCons (gName l) gNil)))))
    (ht : ∀ (s : Shared) (H : Hp) (C : Addr) (cl : List (Str × Addr)) (fp : List Addr) (Z' : Zx), QTs (X.blk s H scope (compEnvC scope cl C X.env) fp) T Z' ifs tt)
    (he : ∀ (s : Shared) (H : Hp) (C : Addr) (cl : List (Str × Addr)) (fp : List Addr) (Z' : Zx), QE (X.blk s H scope (compEnvC scope cl C X.env) fp) T Z' elt te) (hs : ∀ x, foldedSetIterable iter X.env x = pure x := by intro _; rfl) :
    QN X T Z (.ListComp elt [⟨tg, iter, ifs, 0⟩] scope pos) (dLc3 wi i j l (own.map (·.2)) tt te) :=
  pe_imp (pe_lc hc hN hi ok hg (pts_blk ht) (pe_blk he) hs) (lc_up3 him hjm hlm)
theorem qs_setLc3 (n : Nat) {py : Pos} {y : Str} {spos : Pos} (hc : X.calm = true) (hN : X.N.Nodup) (ok : BlkOk X.N X.env.scope scope own) (him : i ∈ own.map (·.2)) (hjm : j ∈ own.map (·.2)) (hlm : l ∈ own.map (·.2)) (hi : QI X T Z tg iter wi)
    (hg : ∀ (s : Shared) (H : Hp) (C : Addr) (cl : List (Str × Addr)) (fp : List Addr), PG (X.blk s H scope (compEnvC scope cl C X.env) fp) tg (gTup X.K 3 (gCons (gName i) (gCons (gName j) (gCons (gName l) gNil)))))
    (ht : ∀ (s : Shared) (H : Hp) (C : Addr) (cl : List (Str × Addr)) (fp : List Addr) (Z' : Zx), QTs (X.blk s H scope (compEnvC scope cl C X.env) fp) T Z' ifs tt)
    (he : ∀ (s : Shared) (H : Hp) (C : Addr) (cl : List (Str × Addr)) (fp : List Addr) (Z' : Zx), QE (X.blk s H scope (compEnvC scope cl C X.env) fp) T Z' elt te) (hy : X.N[n]? = some y := by rfl) (hyl : X.env.scope.names.lookup y = some .local := by rfl)
    (hsw : swapsWith (.ListComp elt [⟨tg, iter, ifs, 0⟩] scope pos) (some (.Name y py)) spos.line X.env = pure true := by exact sw_true rfl rfl rfl (by decide +kernel)) (hs : ∀ x, foldedSetIterable iter X.env x = pure x := by intro _; rfl) :
    QS X T Z (.Assign [.Name y py] (.ListComp elt [⟨tg, iter, ifs, 0⟩] scope pos) spos) (dSetOwn n (dLc3 wi i j l (own.map (·.2)) tt te)) :=
  ps_imp (ps_setLc hc hN hy hyl hsw hi ok hg (pts_blk ht) (pe_blk he) hs) fun E σ H u => lc_up3 him hjm hlm σ H _ (setOwn_up u)
end
/-- what it comes to -/
theorem lc_fm3 {wi : DTI} {i j l : Nat} {vs : List Nat} {tt : DTT} {te : DTE} {ρ : DEnv} {R : Own → DEnv → Prop} {er : Er → Prop} (p : D × D × D → Bool) (f : D × D × D → D) (hm : ∀ (Q Q' : List D → DEnv → Prop), (∀ ds ρ1, Q ds ρ1 → Q' ds ρ1) → wi ρ Q er → wi ρ Q' er)
    (h : wi ρ (fun ds ρ1 => ∃ ps : List (D × D × D), ds = ps.map (fun q => .tup [q.1, q.2.1, q.2.2]) ∧ ps.length ≤ sizeLine ∧ (∀ d ∈ ps, ∀ S : Bool → DEnv → Prop, S (p d) ((((inE ρ1 vs).set i (some (.d d.1))).set j (some (.d d.2.1))).set l (some (.d d.2.2))) → tt ((((inE ρ1 vs).set i (some (.d d.1))).set j (some (.d d.2.1))).set l (some (.d d.2.2))) S fun _ => False) ∧
      (∀ d ∈ ps, p d = true → ∀ S : D → DEnv → Prop, (∀ ρ2, S (f d) ρ2) → te ((((inE ρ1 vs).set i (some (.d d.1))).set j (some (.d d.2.1))).set l (some (.d d.2.2))) S fun _ => False) ∧ R (.lst ((ps.filter p).map f)) ρ1) er) : dLc3 wi i j l vs tt te ρ R er := by
  refine hm _ _ (fun ds ρ1 ⟨ps, hds, hz, ht, hs, hR⟩ => ?_) h
  subst hds
  refine ⟨fun k acc => acc = ((ps.take k).filter p).map f, rfl, fun k d acc hd ha => ?_, fun acc ha => ?_⟩
  · have ha : acc = ((ps.take k).filter p).map f := ha
    rw [List.getElem?_map] at hd
    obtain ⟨q, hq, rfl⟩ := Option.map_eq_some_iff.mp hd
    have hk := (List.getElem?_eq_some_iff.mp hq).1
    have hmem := List.mem_of_getElem? hq
    have e1 : ps.take (k + 1) = ps.take k ++ [q] := by
      rw [List.take_succ, hq]
      rfl
    refine ⟨q.1, q.2.1, q.2.2, rfl, ht q hmem _ ?_⟩
    cases z : p q with
    | true =>
      refine hs q hmem z _ fun ρ2 => ⟨?_, ?_⟩
      · have : ((ps.take k).filter p).length ≤ (ps.take k).length := List.length_filter_le ..
        rw [List.length_take] at this
        rw [ha, List.length_map]
        omega
      · show acc ++ [f q] = ((ps.take (k + 1)).filter p).map f
        rw [ha, e1, List.filter_append, List.map_append]
        simp [z]
    | false =>
      show acc = ((ps.take (k + 1)).filter p).map f
      rw [ha, e1, List.filter_append]
      simp [z]
  · have ha : acc = ((ps.take (ps.map (fun q : D × D × D => D.tup [q.1, q.2.1, q.2.2])).length).filter p).map f := ha
    rw [ha, List.length_map, List.take_of_length_le (Nat.le_refl _)]
    exact hR

/-! ### an own list: x[lo:hi], x[i] = v -/
section
variable {X : Cx} {T : List (Addr × Str)} {Z : Zx} {e : PySem.Expr} {te : DTE} {pos : Pos} {x : Str}
def dOwnSl (i : Nat) (tl th : DTO) : DTE := fun ρ R er => match ρ[i]? with
  | some (some (.own (.lst _))) => tl ρ (fun lo ρ2 => th ρ2 (fun hi ρ3 => match ρ3[i]? with
    | some (some (.own (.lst ds))) => R (.lst (cutD ds lo hi)) ρ3
    | _ => False) er) er
  | _ => False
theorem qe_ownSl (i : Nat) {lo hi : Option PySem.Expr} {tl th : DTO} {p1 p2 : Pos} (hl : QO X T Z lo tl) (hh : QO X T Z hi th) (hN : X.N[i]? = some x := by rfl) (hv : Vis X.env.scope x := by first | exact Or.inl rfl | exact Or.inr (Or.inl rfl) | exact Or.inr (Or.inr rfl)) (hd : (x == ("__debug__" : Str)) = false := by decide) (hcd : (x == ("__classdict__" : Str)) = false := by decide) :
    QE X T Z (.Subscript (.Name x p1) (.Slice lo hi none p2) pos) (dOwnSl i tl th) :=
  pe_imp (pe_slice sl_list (pe_var (i := i) hN hv hd hcd) hl hh) fun σ H Q ⟨ρ, F, er, R, rep, tk, h, hk⟩ => by
    unfold dOwnSl at h
    split at h
    · rename_i ds0 hi
      obtain ⟨p, h1, ⟨xs, hx, rx⟩, _⟩ := rep.own i _ hi
      refine ⟨.ref p, h1, ρ, F, er, _, rep, tk, h, fun l H2 F2 ρ2 e2 rep2 h2 => ⟨ρ2, F2, er, _, rep2, tk, h2, fun u H3 F3 ρ3 e3 rep3 h3 => ?_⟩⟩
      split at h3
      · rename_i ds hi3
        obtain ⟨p', h1', ⟨ys, hy, ry⟩, _⟩ := rep3.own i _ hi3
        rw [h1] at h1'
        cases h1'
        refine ⟨_, _, rfl, SqL.of hy, fun q hq => ?_⟩
        obtain ⟨g1, k1, r1⟩ := laid_lst (dr := Z.dr) rep3.ok hq (ry.cut l u)
        exact hk _ _ _ _ ρ3 ((e2.trans e3).trans g1.ff) (rep3.step g1 k1) r1 h3
      · exact h3.elim
    · exact h.elim
theorem RpL.setAt {K : PySem.W.Frag} {mg : Mg} {F : Hp} {v : V} {d : D} (rv : Rp K mg F v d) : ∀ {xs : List V} {ds : List D} (j : Nat), RpL K mg F xs ds → RpL K mg F (xs.set j v) (ds.set j d)
  | _, _, _, .nil => .nil
  | _, _, 0, .cons h1 h2 => .cons rv h2
  | _, _, j + 1, .cons h1 h2 => .cons h1 (RpL.setAt rv j h2)
def dSetIx (i : Nat) (te ti : DTE) : DTS := fun ρ E er => te ρ (fun d ρ1 => match ρ1[i]? with
  | some (some (.own (.lst _))) => ti ρ1 (fun k ρ2 => match ρ2[i]? with
    | some (some (.own (.lst ds))) => ∃ (n : Int) (j : Nat), k = .int n ∧ ixN ds.length n = some j ∧ E.nx (ρ2.set i (some (.own (.lst (ds.set j d)))))
    | _ => False) er
  | _ => False) er
theorem qs_setIx (i : Nat) {ti : DTE} {ie : PySem.Expr} {p1 p2 : Pos} (h : QE X T Z e te) (hi : QE X T Z ie ti) (hN : X.N[i]? = some x := by rfl) (hv : Vis X.env.scope x := by first | exact Or.inl rfl | exact Or.inr (Or.inl rfl) | exact Or.inr (Or.inr rfl)) (hd : (x == ("__debug__" : Str)) = false := by decide) (hcd : (x == ("__classdict__" : Str)) = false := by decide)
    (ha : ∀ v, assign (.Subscript (.Name x p1) ie p2) X.env v = (do
      let ov ← holding [v] (eval (.Name x p1) X.env)
      let iv ← holding [v, ov] (eval ie X.env)
      standAt p2
      holding [v, ov, iv] (setItem ov iv v)
      release [v, ov, iv] []) := by intro _; rfl)
    (hs : swapsWithSole [.Subscript (.Name x p1) ie p2] e pos.line X.env = pure false := by rfl) (hw : swappedStores [.Subscript (.Name x p1) ie p2] e X.env = pure none := by rfl) (h1 : (assignEach [.Subscript (.Name x p1) ie p2] X.env).map (·.2) = [assign (.Subscript (.Name x p1) ie p2) X.env] := by rfl) :
    QS X T Z (.Assign [.Subscript (.Name x p1) ie p2] e pos) (dSetIx i te ti) :=
  ps_imp (ps_asg h (pg_sub (pe_var (i := i) hN hv hd hcd) hi set_list ha) hs hw h1) fun E σ H ⟨ρ, F, er, De, rep, tk, h, hn, hr, hb, hc⟩ => ⟨ρ, F, er, _, rep, tk, h, fun v H1 F1 d ρ1 e1 rep1 rv h1 => by
    split at h1
    · rename_i ds0 hi0
      obtain ⟨p, h2, ⟨xs, hx, rx⟩, _⟩ := rep1.own i _ hi0
      refine ⟨.ref p, h2, ρ1, F1, er, _, rep1, tk, h1, fun kv H2 F2 k ρ2 e2 rep2 rk h3 => ?_⟩
      split at h3
      · rename_i ds hi2
        obtain ⟨n, j, rfl, hj, h4⟩ := h3
        cases rk
        obtain ⟨p', h2', ⟨ys, hy, ry⟩, _⟩ := rep2.own i _ hi2
        rw [h2] at h2'
        cases h2'
        exact ⟨p, ys, n, j, rfl, rfl, hy, by rw [ry.length]; exact hj, hn σ _ F2 _ (e1.trans e2) (rep2.updOwn (c' := .lst (ds.set j d)) hi2 h2 ⟨_, upd_same, RpL.setAt (rv.mono e2) j ry⟩) h4⟩
      · exact h3.elim
    · exact h1.elim⟩
/-! ### isinstance(x, (T1, T2)) -/
def dIsi2 (c1 c2 : String) (te : DTE) : DTE := fun ρ R er => te ρ (fun d ρ1 => match tyD d with
  | some t => ∃ b1 b2, kitB t c1 = some b1 ∧ kitB t c2 = some b2 ∧ R (.bl (b1 || b2)) ρ1
  | none => False) er
theorem qe_isi2 {c1 c2 : String} {e1 e2 : PySem.Expr} {k : Nat} {p tp : Pos} (hg : Gl X "isinstance") (hm : X.mg "isinstance" = none) (h : QE X T Z e te) (h1 : PE X e1 (tC (.ty c1))) (h2 : PE X e2 (tC (.ty c2)))
    (s1 : starEach [e1, e2] X.env = (false, eval e1 X.env) :: starEach [e2] X.env := by rfl) (s2 : starEach [e2] X.env = (false, eval e2 X.env) :: starEach [] X.env := by rfl)
    (s3 : starEach [e, .Tuple [e1, e2] k tp] X.env = (false, eval e X.env) :: starEach [.Tuple [e1, e2] k tp] X.env := by rfl) (s4 : starEach [.Tuple [e1, e2] k tp] X.env = (false, eval (.Tuple [e1, e2] k tp) X.env) :: starEach [] X.env := by rfl)
    (hpl : (backTo pos (starEach [.Tuple [e1, e2] k tp] X.env)).any (·.1) = false := by rfl) :
    QE X T Z (.Call (.Name "isinstance" p) [e, .Tuple [e1, e2] k tp] [] pos) (dIsi2 c1 c2 te) :=
  pe_imp (pe_callB call_isiT hg hm (by decide +kernel) (pa_cons h (pa_cons (pe_tup (pa_cons h1 (pa_cons h2 pa_nil s2) s1)) pa_nil s4) s3) (by decide) (by decide) s3 hpl) fun σ H Q ⟨ρ, F, er, R, rep, tk, h, hk⟩ => ⟨ρ, F, er, _, rep, tk, h, fun v H1 F1 d ρ1 e1 rep1 rv h1 => by
    split at h1
    · rename_i t ht
      obtain ⟨b1, b2, hb1, hb2, hR⟩ := h1
      refine ⟨line1000 (by simp), fun q hq => ?_⟩
      obtain ⟨g1, k1, r1⟩ := laid_tup (dr := Z.dr) rep1.ok hq (show RpL X.K X.mg F1 [.ty c1, .ty c2] [.ty c1, .ty c2] from .cons (.ty c1) (.cons (.ty c2) .nil))
      refine ⟨v, q, [.ty c1, .ty c2], .type t, [.type c1, .type c2], b1 || b2, rfl, upd_same, .cons (.ty c1) (.cons (.ty c2) .nil), (rv.mono g1.ff).ty_ k1.sub ht, ?_, hk _ _ _ _ ρ1 (e1.trans g1.ff) (rep1.step g1 k1) (.bl _) hR⟩
      refine kitAny_cons (kit_ty hb1) (fun z => ?_) (fun z => by rw [z]; rfl)
      rw [z, Bool.false_or]
      exact kitAny_cons (kit_ty hb2) (fun z => by rw [z]; rfl) (fun z => z)
    · exact h1.elim⟩
end
end DL
set_option Elab.async false
set_option linter.all false
set_option maxRecDepth 100000
set_option maxHeartbeats 2000000
namespace DL
open PySem PySem.Spec PyProof.Rows L2
/-! ### x, y, z = e, f, [..], z an own list -/
section
variable {X : Cx} {T : List (Addr × Str)} {Z : Zx}
def dParOwn3 (i j k : Nat) (ta tb : DTE) (tn : DTN) : DTS := fun ρ E er => ta ρ (fun d ρ1 => tb ρ1 (fun d2 ρ2 => tn ρ2 (fun c ρ3 => E.nx (((ρ3.set k (some (.own c))).set j (some (.d d2))).set i (some (.d d)))) er) er) er
theorem qs_parOwn3 (i j k : Nat) {x y z : Str} {a b c : PySem.Expr} {px py pz pt pt2 pos : Pos} {kt k2 : Nat} {ta tb : DTE} {tn : DTN} (hc : X.calm = true) (hN : X.N.Nodup) (ha : QE X T Z a ta) (hb : QE X T Z b tb) (hn : QN X T Z c tn) (hi : X.N[i]? = some x := by rfl) (hj : X.N[j]? = some y := by rfl) (hk : X.N[k]? = some z := by rfl)
    (hx : X.env.scope.names.lookup x = some .local := by rfl) (hy : X.env.scope.names.lookup y = some .local := by rfl) (hz : X.env.scope.names.lookup z = some .local := by rfl) (hw : swappedStores [.Tuple [.Name x px, .Name y py, .Name z pz] kt pt] (.Tuple [a, b, c] k2 pt2) X.env = pure (some [x, y, z]) := by rfl)
    (hs : swapsWithSole [.Tuple [.Name x px, .Name y py, .Name z pz] kt pt] (.Tuple [a, b, c] k2 pt2) pos.line X.env = pure false := by rfl)
    (h1 : starEach [a, b, c] X.env = (false, eval a X.env) :: starEach [b, c] X.env := by rfl) (h2 : starEach [b, c] X.env = (false, eval b X.env) :: starEach [c] X.env := by rfl) (h3 : starEach [c] X.env = (false, eval c X.env) :: starEach [] X.env := by rfl) :
    QS X T Z (.Assign [.Tuple [.Name x px, .Name y py, .Name z pz] kt pt] (.Tuple [a, b, c] k2 pt2) pos) (dParOwn3 i j k ta tb tn) :=
  ps_imp (ps_par3 hc hN hi hj hk hx hy hz (pa_cons ha (pa_cons hb (pa_cons hn pa_nil h3) h2) h1) hw hs) fun E σ H ⟨ρ, F, er, De, rep, tk, h, hn, hr, hbk, hct⟩ => ⟨ρ, F, er, _, rep, tk, h, fun v H1 F1 d ρ1 e1 rep1 rv h1 =>
    ⟨ρ1, F1, er, _, rep1, tk, h1, fun v2 H2 F2 d2 ρ2 e2 rep2 rv2 h2 => ⟨ρ2, F2, er, _, rep2, tk, h2, fun p H3 F3 c ρ3 e3 rep3 oa fp h0 nA nO h3 => ⟨_, _, _, rfl, hn _ H3 F3 _ ((e1.trans e2).trans e3) (((rep3.setOwn (i := k) oa fp h0 nA fun j c' hj hc' => nO j c' hc').set (i := j) (rv2.mono e3)).set (i := i) (rv.mono (e2.trans e3))) h3⟩⟩⟩⟩
end
/-! ### data that can be laid beside one another -/
structure Lay (d : D) (n : Nat) : Prop where
  p : d.plain = true
  c : PyData.canLay0 d.py = true
  q : d.py.depth ≤ n
theorem lay_int {i : Int} : Lay (.int i) 0 := ⟨rfl, by simp [D.py, PyData.canLay0], by simp [D.py, PyData.depth]⟩
theorem lay_non : Lay .non 0 := ⟨rfl, by simp [D.py, PyData.canLay0], by simp [D.py, PyData.depth]⟩
theorem lay_all {n : Nat} : ∀ {ds : List D}, (∀ d ∈ ds, Lay d n) → plainL ds = true ∧ PyData.canLayAll0 (pyL ds) = true ∧ PyData.depthAll (pyL ds) ≤ n
  | [], _ => ⟨rfl, by simp [pyL, PyData.canLayAll0], by simp [pyL, PyData.depthAll]⟩
  | d :: ds, h => by
    have h1 := h d List.mem_cons_self
    obtain ⟨a1, a2, a3⟩ := lay_all fun e he => h e (List.mem_cons_of_mem d he)
    exact ⟨by simp only [plainL, h1.p, a1, Bool.and_self], by simp only [pyL, PyData.canLayAll0, h1.c, a2, Bool.and_self], by simp only [pyL, PyData.depthAll]; exact Nat.max_le.mpr ⟨h1.q, a3⟩⟩
theorem lay_tup {ds : List D} {n : Nat} (h : ∀ d ∈ ds, Lay d n) : Lay (.tup ds) (n + 1) := by
  obtain ⟨a1, a2, a3⟩ := lay_all h
  exact ⟨a1, by simp only [D.py, PyData.canLay0, a2], by simp only [D.py, PyData.depth]; omega⟩
theorem lay_lst {ds : List D} {n : Nat} (h : ∀ d ∈ ds, Lay d n) : Lay (.lst ds) (n + 1) := by
  obtain ⟨a1, a2, a3⟩ := lay_all h
  exact ⟨a1, by simp only [D.py, PyData.canLay0, a2], by simp only [D.py, PyData.depth]; omega⟩
theorem Lay.sh {d : D} {n : Nat} (h : Lay d n) (hn : n ≤ 64) : SeqAt.shaped d.py = true := by
  show (PyData.canLay0 d.py && decide (PyData.depth d.py ≤ 64)) = true
  rw [h.c, decide_eq_true (Nat.le_trans h.q hn)]
  rfl
theorem Lay.eq {d e : D} {n m : Nat} (h : Lay d n) (h' : Lay e m) (hn : n ≤ 64) (hm : m ≤ 64) : EqOk d e := ⟨h.p, h'.p, h.sh hn, h'.sh hm⟩
theorem lay_nil : Lay (.lst []) 1 := lay_lst (n := 0) fun _ h => by cases h
theorem Lay.mono {d : D} {n m : Nat} (h : Lay d n) (hm : n ≤ m) : Lay d m := ⟨h.p, h.c, Nat.le_trans h.q hm⟩
end DL
set_option Elab.async false
set_option linter.all false
set_option maxRecDepth 100000
set_option maxHeartbeats 2000000
namespace DL
open PySem PySem.Spec PyProof.Rows L2
/-! ### isqrt -/
def rIsqrt : List V → Hp → VK → Prop := fun vs H Q => ∃ a : Int, vs = [.int a] ∧ 0 ≤ a ∧ a < 2 ^ 64 ∧ Q (.int ((Float64.isqrt a.toNat : Nat) : Int)) H
theorem cr_isqrt {X : Cx} : CallR X (.builtin "math.isqrt") rIsqrt := by
  intro pins s σ H vs us Q I r h
  obtain ⟨a, rfl, h0, h1, q⟩ := h
  cases r with
  | cons h1 h2 =>
  cases h2
  obtain ⟨t, rfl⟩ := h1
  exact PySem.W.mg_isqrt h0 h1 ⟨.int _, H, I.tok _, ⟨_, rfl⟩, q⟩
def sqr (a : Int) : Int := ((Float64.isqrt a.toNat : Nat) : Int)
theorem sqr_spec {a : Int} (h : 0 ≤ a) : 0 ≤ sqr a ∧ sqr a * sqr a ≤ a ∧ a < (sqr a + 1) * (sqr a + 1) := by
  have h1 := Float64.isqrt_spec a.toNat
  have e : ((a.toNat : Nat) : Int) = a := Int.toNat_of_nonneg h
  refine ⟨Int.natCast_nonneg _, ?_, ?_⟩
  · have := Int.ofNat_le.mpr h1.1
    rw [e] at this
    exact_mod_cast this
  · have := Int.ofNat_lt.mpr h1.2
    rw [e] at this
    exact_mod_cast this
def gIsqrt : List D → (D → Prop) → Prop
  | [.int a], R => 0 ≤ a ∧ a < 2 ^ 64 ∧ R (.int (sqr a))
  | _, _ => False
section
variable {X : Cx} {T : List (Addr × Str)} {Z : Zx} {a : PySem.Expr} {ta : DTA} {es : List PySem.Expr} {p pos : Pos}
theorem qe_isqrt {x : Str} (hg : Gl X x) (hm : X.mg x = some (.builtin "math.isqrt")) (ha : QA X T Z (a :: es) ta) (hdb : (x == ("__debug__" : Str)) = false := by decide)
    (he : starEach (a :: es) X.env = (false, eval a X.env) :: starEach es X.env := by rfl) (hpl : (backTo pos (starEach es X.env)).any (·.1) = false := by rfl) : QE X T Z (.Call (.Name x p) (a :: es) [] pos) (dB gIsqrt ta) :=
  qe_Bf cr_isqrt (okB_at fun dr F H vs ds R k rv h => by
    unfold gIsqrt at h
    split at h
    · obtain ⟨h0, h1, hR⟩ := h
      obtain ⟨v, rfl, r1⟩ := rv.one
      cases r1
      exact ⟨_, _, .int _, hR, fun Q q => ⟨_, rfl, h0, h1, q⟩⟩
    · exact h.elim) hg hm ha hdb he hpl
/-! ### *e among the items of a list -/
def dStar (te : DTE) (tr : DTA) : DTA := fun ρ R er => te ρ (fun d ρ1 => match d with
  | .lst xs => tr ρ1 (fun ds ρ2 => R (xs.map DV.d ++ ds) ρ2) er
  | _ => False) er
theorem Paired.app {α β : Type} {S : α → β → Prop} : ∀ {xs : List α} {ys : List β} {us : List α} {vs : List β}, Paired S xs ys → Paired S us vs → Paired S (xs ++ us) (ys ++ vs)
  | _, _, _, _, .nil, h => h
  | _, _, _, _, .cons a b, h => .cons a (Paired.app b h)
theorem RpL.asD {K : PySem.W.Frag} {mg : Mg} {F : Hp} {dr : Option (Addr × Addr)} : ∀ {vs : List V} {xs : List D}, RpL K mg F vs xs → RpAs K mg F dr vs (xs.map DV.d)
  | _, _, .nil => .nil
  | _, _, .cons a b => .cons a (RpL.asD b)
theorem qa_star {e : PySem.Expr} {te : DTE} {tr : DTA} (h : QE X T Z e te) (hr : QA X T Z es tr) (hs : starEach (.Starred e p :: es) X.env = (true, eval e X.env) :: starEach es X.env := by rfl) : QA X T Z (.Starred e p :: es) (dStar te tr) :=
  pa_imp (StX.pa_star h hr hs) fun σ H Q ⟨ρ, F, er, R, rep, tk, h, hk⟩ => ⟨ρ, F, er, _, rep, tk, h, fun v H1 F1 x ρ1 e1 rep1 rv h1 => by
    cases rv with
    | lst q1 q2 =>
      refine ⟨_, _, rfl, .inr (SqL.of (rep1.ok.sub _ _ q1)), ρ1, F1, er, _, rep1, tk, h1, fun vs H2 F2 ds ρ2 e2 rep2 rvs h2 => ?_⟩
      exact hk _ H2 F2 _ ρ2 (e1.trans e2) rep2 (Paired.app (RpL.asD (q2.mono e2)) rvs) h2
    | _ => exact False.elim h1⟩
/-! ### x, y, z = [..], c, d: x an own list, c and d constants -/
def dOwnPar3 (i j k : Nat) (tn : DTN) (d2 d3 : D) : DTS := fun ρ E er => tn ρ (fun c ρ1 => E.nx (((ρ1.set k (some (.d d3))).set j (some (.d d2))).set i (some (.own c)))) er
theorem qs_ownPar3 (i j k : Nat) {x y z : Str} {a b c : PySem.Expr} {px py pz pt pt2 pos : Pos} {kt k2 : Nat} {tn : DTN} {v2 v3 : V} {d2 d3 : D} (hc : X.calm = true) (hN : X.N.Nodup) (hn : QN X T Z a tn) (hb : PE X b (tC v2)) (hb2 : ∀ F, Rp X.K X.mg F v2 d2) (hd : PE X c (tC v3)) (hd2 : ∀ F, Rp X.K X.mg F v3 d3) (hi : X.N[i]? = some x := by rfl) (hj : X.N[j]? = some y := by rfl) (hk : X.N[k]? = some z := by rfl)
    (hij : i ≠ j := by decide) (hik : i ≠ k := by decide)
    (hx : X.env.scope.names.lookup x = some .local := by rfl) (hy : X.env.scope.names.lookup y = some .local := by rfl) (hz : X.env.scope.names.lookup z = some .local := by rfl) (hw : swappedStores [.Tuple [.Name x px, .Name y py, .Name z pz] kt pt] (.Tuple [a, b, c] k2 pt2) X.env = pure (some [x, y, z]) := by rfl)
    (hs : swapsWithSole [.Tuple [.Name x px, .Name y py, .Name z pz] kt pt] (.Tuple [a, b, c] k2 pt2) pos.line X.env = pure false := by rfl)
    (h1 : starEach [a, b, c] X.env = (false, eval a X.env) :: starEach [b, c] X.env := by rfl) (h2 : starEach [b, c] X.env = (false, eval b X.env) :: starEach [c] X.env := by rfl) (h3 : starEach [c] X.env = (false, eval c X.env) :: starEach [] X.env := by rfl) :
    QS X T Z (.Assign [.Tuple [.Name x px, .Name y py, .Name z pz] kt pt] (.Tuple [a, b, c] k2 pt2) pos) (dOwnPar3 i j k tn d2 d3) :=
  ps_imp (ps_par3 hc hN hi hj hk hx hy hz (pa_cons hn (pa_cons hb (pa_cons hd pa_nil h3) h2) h1) hw hs) fun E σ H ⟨ρ, F, er, De, rep, tk, h, hn, hr, hbk, hct⟩ => ⟨ρ, F, er, _, rep, tk, h, fun p H1 F1 c ρ1 e1 rep1 oa fp h0 nA nO h1 => by
    refine ⟨_, _, _, rfl, ?_⟩
    have r2 := ((rep1.setOwn (i := i) oa fp h0 nA fun j c' _ hc' => nO j c' hc').set (i := k) (hd2 _)).set (i := j) (hb2 _)
    have es : ((σ.set k (some v3)).set j (some v2)).set i (some (.ref p)) = ((σ.set i (some (.ref p))).set k (some v3)).set j (some v2) := by
      rw [List.set_comm _ _ hij.symm, List.set_comm _ _ hik.symm]
    have er : ((ρ1.set k (some (.d d3))).set j (some (.d d2))).set i (some (.own c)) = ((ρ1.set i (some (.own c))).set k (some (.d d3))).set j (some (.d d2)) := by
      rw [List.set_comm _ _ hij.symm, List.set_comm _ _ hik.symm]
    rw [es]
    rw [er] at h1
    exact hn _ H1 F1 _ e1 r2 h1⟩
end
/-! ### a floor division by any small number -/
def gDivN : D → D → (D → Prop) → Prop
  | .int i, .int j, R => CDivN i j ∧ R (.int (i.fdiv j))
  | _, _, _ => False
section
variable {X : Cx} {T : List (Addr × Str)} {Z : Zx} {a b : PySem.Expr} {ta tb : DTE} {pos : Pos}
theorem qe_divN (ha : QE X T Z a ta) (hb : QE X T Z b tb) : QE X T Z (.BinOp a .FloorDiv b pos) (dBin gDivN ta tb) :=
  qe_bin op_fdivN (ok2_at fun _ _ F H v w x y R _ rx ry hg => by
    cases rx <;> try exact hg.elim
    cases ry <;> try exact hg.elim
    rename_i i j
    obtain ⟨c, h⟩ := hg
    exact ⟨_, _, .int _, h, fun Q q => ⟨i, j, rfl, rfl, c, q⟩⟩) ha hb
end
/-! ### a def that is never called -/
def pNo : Pt := fun _ _ _ => False
theorem fo_no {P : Program} {w : World} {K : PySem.W.Frag} {mg : Mg} {base : Heap} {T : List (Addr × Str)} {x : Str} {st : Stmt} {ps : List Str} {k : Nat} {f : Addr} {fd : FuncData} (hm : mg x = some (.ref f)) (F : FunD K x x (defArgs st) (defBody st) (defScope st) [] [] f fd) (hbd : Binds K fd ps []) : Fo P w K mg base x st ps k (SpF K mg T pNo) :=
  ⟨f, fd, hm, F, hbd, fun vs H Q E ⟨_, _, _, _, _, _, _, h, _⟩ => h.elim, fun A outer s H args us vs Q E _ _ _ _ ⟨_, _, _, _, _, _, _, h, _⟩ => h.elim⟩
end DL
set_option Elab.async false
set_option linter.all false
set_option maxRecDepth 100000
set_option maxHeartbeats 2000000
namespace DL
open PySem PySem.Spec PyProof.Rows L2
/-! ### texts: their signs in turn, one within the other, a module's text -/
/-- the signs of a text -/
def signsD (x : Str) : List D := x.cps.toList.map fun c => D.str ⟨#[c]⟩
def dSeqT (ta : DTE) : DTI := fun ρ R er => ta ρ (fun x ρ1 => match x with
  | .str z => R (signsD z) ρ1
  | _ => False) er
def inT (i j : Str) : Bool := !(Builtin.Str.occurrences j i 0 j.length 1).isEmpty
def gInT : D → D → (D → Prop) → Prop
  | .str i, .str j, R => R (.bl (inT i j))
  | _, _, _ => False
section
variable {X : Cx} {T : List (Addr × Str)} {Z : Zx} {a b tg : PySem.Expr} {ta tb : DTE} {pos : Pos}
theorem qi_seqT (ha : QE X T Z a ta) : QI X T Z tg a (dSeqT ta) :=
  pi_imp (pi_str ha) fun σ H R' ⟨ρ, F, er, R, rep, tk, h, hk⟩ => ⟨ρ, F, er, _, rep, tk, h, fun v H1 F1 x ρ1 e1 rep1 rv h1 => by
    cases rv with
    | str z =>
      refine ⟨_, rfl, hk _ H1 F1 _ ρ1 e1 rep1 (walkD_at (walk_str (z := z)) (by unfold signsD; simp) (fun _ _ => trivial) fun i x hi y => ?_) h1⟩
      obtain ⟨c, hc, rfl⟩ := y
      refine ⟨_, ?_, .str _⟩
      unfold signsD
      rw [List.getElem?_map, Array.getElem?_toList, hc]
      rfl
    | _ => exact h1.elim⟩
theorem ok_inT : Ok2 X T (fun x y H Q => ∃ i j, x = .str i ∧ y = .str j ∧ Q (.bl (!(Builtin.Str.occurrences j i 0 j.length 1).isEmpty)) H) gInT := ok2_at fun _ _ F H v w x y R k rx ry hg => by
  cases rx <;> try exact hg.elim
  cases ry <;> try exact hg.elim
  exact ⟨_, _, .bl _, hg, fun Q q => ⟨_, _, rfl, rfl, q⟩⟩
theorem qt_inT (hm : behindInMarks .In b = false) (ha : QE X T Z a ta) (hb : QE X T Z b tb) : QT X T Z (.Compare a [.In] [b] pos) (dVal (dBin gInT ta tb)) := qt_cmp op_in_str ok_inT hm ha hb
theorem qe_inT (hm : behindInMarks .In b = false) (ha : QE X T Z a ta) (hb : QE X T Z b tb) : QE X T Z (.Compare a [.In] [b] pos) (dBin gInT ta tb) := qe_cmp op_in_str ok_inT hm ha hb
theorem qe_gstr {x z : Str} (hg : Gl X x) (hm : ∃ t, X.mg x = some (.str z t)) (hd : (x == ("__debug__" : Str)) = false := by decide) : QE X T Z (.Name x pos) (dC (.str z)) := by
  obtain ⟨t, hm⟩ := hm
  exact qe_c (pe_glob hg hm (v := .str z) ⟨t, rfl⟩ hd) fun _ => .str z
end
/-! ### an own list: how long it is, whether it is empty, pop -/
section
variable {X : Cx} {T : List (Addr × Str)} {Z : Zx} {e : PySem.Expr} {te : DTE} {pos : Pos} {x : Str}
def dOwnLen (i : Nat) : DTE := fun ρ R er => match ρ[i]? with
  | some (some (.own (.lst ds))) => R (.int (ds.length : Nat)) ρ
  | _ => False
theorem qe_ownLen (i : Nat) {p1 p2 : Pos} (hg : Gl X "len") (hm : X.mg "len" = none) (hN : X.N[i]? = some x := by rfl) (hv : Vis X.env.scope x := by first | exact Or.inl rfl | exact Or.inr (Or.inl rfl) | exact Or.inr (Or.inr rfl)) (hd : (x == ("__debug__" : Str)) = false := by decide) (hcd : (x == ("__classdict__" : Str)) = false := by decide)
    (he : starEach [Expr.Name x p1] X.env = (false, eval (.Name x p1) X.env) :: starEach [] X.env := by rfl) (hpl : (backTo pos (starEach [] X.env)).any (·.1) = false := by rfl) : QE X T Z (.Call (.Name "len" p2) [.Name x p1] [] pos) (dOwnLen i) :=
  pe_imp (pe_callB call_len hg hm (by decide +kernel) (pa_cons (pe_var (i := i) hN hv hd hcd) pa_nil he) (by decide) (by decide) he hpl) fun σ H Q ⟨ρ, F, er, R, rep, tk, h, hk⟩ => by
    unfold dOwnLen at h
    split at h
    · rename_i ds hi
      obtain ⟨p, h1, ⟨xs, hx, rx⟩, _⟩ := rep.own i _ hi
      refine ⟨.ref p, h1, _, _, rfl, .inl ⟨_, SqL.of hx, rx.length.symm⟩, ?_⟩
      exact hk _ H F _ ρ (Fx.refl F) rep (.int _) h
    · exact h.elim
def dOwnNe0 (i : Nat) : DTE := fun ρ R er => match ρ[i]? with
  | some (some (.own (.lst ds))) => (D.lst ds).plain = true ∧ SeqAt.shaped (D.lst ds).py = true ∧ R (.bl (!ds.isEmpty)) ρ
  | _ => False
theorem eqv_nilD : ∀ (ds : List D), PyData.eqv (D.lst ds).py (.list []) = ds.isEmpty
  | [] => rfl
  | d :: ds => rfl
theorem qt_ownNe0 (i : Nat) {p1 p2 : Pos} (hu : X.A.units + 64 < cLine) (hN : X.N[i]? = some x := by rfl) (hv : Vis X.env.scope x := by first | exact Or.inl rfl | exact Or.inr (Or.inl rfl) | exact Or.inr (Or.inr rfl)) (hd : (x == ("__debug__" : Str)) = false := by decide) (hcd : (x == ("__classdict__" : Str)) = false := by decide) :
    QT X T Z (.Compare (.Name x p1) [.NotEq] [.List [] p2] pos) (dVal (dOwnNe0 i)) :=
  pt_imp (pt_cmpR (op_neD hu) (pe_var (i := i) hN hv hd hcd) (pe_lst pa_nil) (nomark _)) fun σ H Q ⟨ρ, F, er, R, rep, tk, h, hk⟩ => by
    have h : dOwnNe0 i ρ _ er := h
    unfold dOwnNe0 at h
    split at h
    · rename_i ds hi
      obtain ⟨h1, h2, h3⟩ := h
      obtain ⟨p, hs, _⟩ := rep.own i _ hi
      refine ⟨.ref p, hs, Nat.zero_le _, fun q hq => ?_⟩
      obtain ⟨k1, g1, f1⟩ := rep.ok.laidOwn (o := .lst []) hq
      have rep1 := rep.step g1 k1
      obtain ⟨p', hs', ⟨ys, hy, ry⟩, _⟩ := rep1.own i _ hi
      rw [hs] at hs'
      cases hs'
      refine ⟨_, _, .lst (SqL.of hy) (ry.dp rep1.ok.sub h1), .lst (SqL.of (show upd H q (.lst []) q = _ from upd_same)) .nil, h2, rfl, ?_⟩
      have e := eqv_nilD ds
      refine ⟨_, rfl, ?_⟩
      have z : PyData.eqv (.list (pyL ds)) (.list []) = ds.isEmpty := e
      rw [z]
      exact hk _ _ F ρ (Fx.refl F) rep1 h3
    · exact h.elim
def dOwnPop (i : Nat) (te : DTE) : DTE := fun ρ R er => match ρ[i]? with
  | some (some (.own (.lst _))) => te ρ (fun k ρ1 => match ρ1[i]? with
    | some (some (.own (.lst ds))) => ∃ (n : Int) (j : Nat) (d : D), k = .int n ∧ -(2 ^ 63) ≤ n ∧ n < 2 ^ 63 ∧ seqIndex? n ds.length = some j ∧ ds[j]? = some d ∧ R d (ρ1.set i (some (.own (.lst (ds.eraseIdx j)))))
    | _ => False) er
  | _ => False
theorem RpL.erase {K : PySem.W.Frag} {mg : Mg} {F : Hp} : ∀ {xs : List V} {ds : List D} (j : Nat), RpL K mg F xs ds → RpL K mg F (xs.eraseIdx j) (ds.eraseIdx j)
  | _, _, _, .nil => .nil
  | _, _, 0, .cons h1 h2 => h2
  | _, _, j + 1, .cons h1 h2 => .cons h1 (RpL.erase j h2)
theorem RpL.at {K : PySem.W.Frag} {mg : Mg} {F : Hp} : ∀ {xs : List V} {ds : List D} {j : Nat} {d : D}, RpL K mg F xs ds → ds[j]? = some d → ∃ v, xs[j]? = some v ∧ Rp K mg F v d
  | _, _, 0, _, .cons h1 h2, h => by
    cases h
    exact ⟨_, rfl, h1⟩
  | _, _, j + 1, _, .cons h1 h2, h => RpL.at (j := j) h2 h
theorem qe_ownPop (i : Nat) {p1 apos : Pos} (h : QE X T Z e te) (hN : X.N[i]? = some x := by rfl) (hv : Vis X.env.scope x := by first | exact Or.inl rfl | exact Or.inr (Or.inl rfl) | exact Or.inr (Or.inr rfl)) (hd : (x == ("__debug__" : Str)) = false := by decide) (hcd : (x == ("__classdict__" : Str)) = false := by decide)
    (hp : PE X (.Call (.Attribute (.Name x p1) "pop" apos) [e] [] pos) (tBM X.K "list" rPopAt (tVar i) (tCons (up X T Z te) tNil))) : QE X T Z (.Call (.Attribute (.Name x p1) "pop" apos) [e] [] pos) (dOwnPop i te) :=
  pe_imp hp fun σ H Q ⟨ρ, F, er, R, rep, tk, h, hk⟩ => by
    unfold dOwnPop at h
    split at h
    · rename_i ds0 hi
      obtain ⟨p, h1, ⟨xs, hx, rx⟩, _⟩ := rep.own i _ hi
      refine ⟨.ref p, h1, .inl ⟨rfl, xs, SqL.of hx⟩, ρ, F, er, _, rep, tk, h, fun v H1 F1 d ρ1 e1 rep1 rv h2 => ?_⟩
      split at h2
      · rename_i ds hi1
        obtain ⟨n, j, d, rfl, n1, n2, hj, hd, h3⟩ := h2
        cases rv
        obtain ⟨p', h1', ⟨ys, hy, ry⟩, _⟩ := rep1.own i _ hi1
        rw [h1] at h1'
        cases h1'
        obtain ⟨y, hy2, rd⟩ := RpL.at ry hd
        refine ⟨p, ys, n, j, y, rfl, rfl, hy, n1, n2, by rw [ry.length]; exact hj, hy2, ?_⟩
        exact hk _ _ F1 _ _ e1 (rep1.updOwn (c' := .lst (ds.eraseIdx j)) hi1 h1 ⟨_, upd_same, RpL.erase j ry⟩) rd h3
      · exact h2.elim
    · exact h.elim
/-! ### x, y = list(e), []: both own lists -/
def dListOwn (i j : Nat) (te : DTE) : DTS := fun ρ E er => te ρ (fun d ρ1 => match d with
  | .lst xs => E.nx ((ρ1.set i (some (.own (.lst xs)))).set j (some (.own (.lst []))))
  | _ => False) er
theorem Rep.newOwn {ρ : DEnv} {F H : Hp} {σ : L2.St} {p : Addr} {vs : List V} {ds : List D} (rep : Rep X.K X.mg T Z ρ F σ H) (i : Nat) (hp : H p = none) (r : RpL X.K X.mg F vs ds) :
    Rep X.K X.mg T Z (ρ.set i (some (.own (.lst ds)))) F (σ.set i (some (.ref p))) (upd H p (.lst vs)) := by
  obtain ⟨k1, g1, f1⟩ := rep.ok.laidOwn (o := .lst vs) hp
  have h0 : Z.H0 p = none := by
    cases q : Z.H0 p with
    | none => rfl
    | some o =>
      have z := rep.gr.hh p o q (rep.ok.notAm hp)
      rw [hp] at z
      cases z
  refine (rep.step g1 k1).setOwn (i := i) ⟨vs, upd_same, r⟩ f1 h0 (rep.ok.notAm hp) (fun k c _ e z => ?_)
  obtain ⟨q, a1, a2, _⟩ := rep.own k c e
  rw [a1] at z
  cases z
  obtain ⟨o, ho, _⟩ := a2.some
  rw [hp] at ho
  cases ho
theorem qs_listOwn (i j : Nat) {x y : Str} {px py pt pt2 pl pc pn : Pos} {kt k2 : Nat} (hc : X.calm = true) (hN : X.N.Nodup) (hij : i ≠ j) (hg : Gl X "list") (hm : X.mg "list" = none) (h : QE X T Z e te) (hi : X.N[i]? = some x := by rfl) (hj : X.N[j]? = some y := by rfl)
    (hx : X.env.scope.names.lookup x = some .local := by rfl) (hy : X.env.scope.names.lookup y = some .local := by rfl) (hw : swappedStores [.Tuple [.Name x px, .Name y py] kt pt] (.Tuple [.Call (.Name "list" pn) [e] [] pc, .List [] pl] k2 pt2) X.env = pure (some [x, y]) := by rfl)
    (h1 : starEach [Expr.Call (.Name "list" pn) [e] [] pc, .List [] pl] X.env = (false, eval (.Call (.Name "list" pn) [e] [] pc) X.env) :: starEach [.List [] pl] X.env := by rfl) (h2 : starEach [Expr.List [] pl] X.env = (false, eval (.List [] pl) X.env) :: starEach [] X.env := by rfl)
    (he : starEach [e] X.env = (false, eval e X.env) :: starEach [] X.env := by rfl) (hpl : (backTo pc (starEach [] X.env)).any (·.1) = false := by rfl) :
    QS X T Z (.Assign [.Tuple [.Name x px, .Name y py] kt pt] (.Tuple [.Call (.Name "list" pn) [e] [] pc, .List [] pl] k2 pt2) pos) (dListOwn i j te) :=
  ps_imp (ps_par hc hN hi hj hij hx hy (pa_cons (pe_callTy call_list_of hg hm (by decide +kernel) (pa_cons h pa_nil he) (by decide) (by decide) he hpl) (pa_cons (pe_lst pa_nil) pa_nil h2) h1) hw) fun E σ H ⟨ρ, F, er, De, rep, tk, h, hn, hr, hbk, hct⟩ => ⟨ρ, F, er, _, rep, tk, h, fun v H1 F1 d ρ1 e1 rep1 rv h1 => by
    cases rv with
    | lst q1 q2 =>
      refine ⟨_, _, rfl, .inl (SqL.of (rep1.ok.sub _ _ q1)), fun p hp => ⟨Nat.zero_le _, fun q hq => ?_⟩⟩
      have r3 := (rep1.newOwn i hp q2).newOwn j hq (vs := []) (ds := []) .nil
      exact ⟨_, _, rfl, hn _ _ F1 _ e1 r3 h1⟩
    | _ => exact False.elim h1⟩
end
end DL
set_option Elab.async false
set_option linter.all false
set_option maxRecDepth 100000
set_option maxHeartbeats 2000000
namespace DL
open PySem PySem.Spec PyProof.Rows L2
/-! ### an own list: an item, handed to a def that gives a number -/
section
variable {X : Cx} {T : List (Addr × Str)} {Z : Zx} {e : PySem.Expr} {te : DTE} {pos : Pos} {x : Str}
def dOwnIx (i : Nat) (te : DTE) : DTE := fun ρ R er => match ρ[i]? with
  | some (some (.own (.lst _))) => te ρ (fun k ρ1 => match ρ1[i]? with
    | some (some (.own (.lst ds))) => ∃ n : Int, k = .int n ∧ (match atI ds n with | some d => R d ρ1 | none => False)
    | _ => False) er
  | _ => False
theorem qe_ownIx (i : Nat) {p1 : Pos} (h : QE X T Z e te) (hs : PlainIx e := by exact fun _ _ => rfl) (hN : X.N[i]? = some x := by rfl) (hv : Vis X.env.scope x := by first | exact Or.inl rfl | exact Or.inr (Or.inl rfl) | exact Or.inr (Or.inr rfl)) (hd : (x == ("__debug__" : Str)) = false := by decide) (hcd : (x == ("__classdict__" : Str)) = false := by decide) :
    QE X T Z (.Subscript (.Name x p1) e pos) (dOwnIx i te) :=
  pe_imp (pe_ix ix_list (pe_var (i := i) hN hv hd hcd) h hs) fun σ H Q ⟨ρ, F, er, R, rep, tk, h, hk⟩ => by
    unfold dOwnIx at h
    split at h
    · rename_i ds0 hi
      obtain ⟨p, h1, _⟩ := rep.own i _ hi
      refine ⟨.ref p, h1, ρ, F, er, _, rep, tk, h, fun v H1 F1 d ρ1 e1 rep1 rv h2 => ?_⟩
      split at h2
      · rename_i ds hi1
        obtain ⟨n, rfl, h3⟩ := h2
        cases rv
        obtain ⟨p', h1', ⟨ys, hy, ry⟩, _⟩ := rep1.own i _ hi1
        rw [h1] at h1'
        cases h1'
        cases hd : atI ds n with
        | none =>
          rw [hd] at h3
          exact h3.elim
        | some d =>
          rw [hd] at h3
          obtain ⟨u, e, ru⟩ := ry.at_ hd
          exact ⟨_, _, n, u, rfl, rfl, SqL.of hy, e, hk u _ F1 d ρ1 e1 rep1 ru h3⟩
      · exact h2.elim
    · exact h.elim
theorem tab_some {P : Addr} {q : Str} {H : Hp} (t : LamX.TabS H P q) : ∃ ps, H P = some (.tbl ps) := by
  obtain ⟨ps, h, _⟩ := t
  exact ⟨ps, h⟩
/-- f(x), x an own list, f a def that gives a number -/
def dCallOwn (pt : Pt) (i : Nat) : DTE := fun ρ R er => match ρ[i]? with
  | some (some (.own (.lst ds))) => pt [.d (.lst ds)] (fun d => ∃ n : Int, d = .int n ∧ R d ρ) (fun _ => False)
  | _ => False
theorem qe_callOwn (i : Nat) {f : Str} {st : Stmt} {ps : List Str} {k j : Nat} {pt : Pt} {p1 p2 : Pos} (O : Fo X.prog X.w X.K X.mg X.base f st ps k (SpF X.K X.mg T pt)) (hr : Room j X.A) (hkj : k ≤ j) (hg : Gl X f) (hN : X.N[i]? = some x := by rfl) (hv : Vis X.env.scope x := by first | exact Or.inl rfl | exact Or.inr (Or.inl rfl) | exact Or.inr (Or.inr rfl)) (hd : (x == ("__debug__" : Str)) = false := by decide) (hcd : (x == ("__classdict__" : Str)) = false := by decide) (hdb : (f == ("__debug__" : Str)) = false := by decide)
    (he : starEach [Expr.Name x p1] X.env = (false, eval (.Name x p1) X.env) :: starEach [] X.env := by rfl) (hpl : (backTo pos (starEach [] X.env)).any (·.1) = false := by rfl) : QE X T Z (.Call (.Name f p2) [.Name x p1] [] pos) (dCallOwn pt i) := by
  obtain ⟨fa, fd, hm, F0, hb, ok⟩ := O.ex
  refine ⟨fun pins s σ H Q I ⟨ρ, F, er, R, rep, tk, h, hk⟩ => ?_⟩
  refine (pe_callSD (E := WE (Wer X.K X.mg T Z er)) ok (hr.mono hkj) hg hm F0.kp hb .nil (passAt tk) (pa_cons (pe_var (i := i) hN hv hd hcd) pa_nil he) hdb he hpl).run pins s σ H Q I ?_
  unfold dCallOwn at h
  split at h
  · rename_i ds hi
    obtain ⟨p, h1, ⟨xs, hx, rx⟩, fp, h0, hA⟩ := rep.own i _ hi
    refine ⟨.ref p, h1, ?_⟩
    show SpF X.K X.mg T pt [.ref p] H Q _
    have hA0 : ∀ b, Am T none b → Am T Z.dr b := fun b m => by
      rcases m with m | ⟨a, l, e, _⟩
      · exact .inl m
      · cases e
    have ff : Fx F (upd F p (.lst xs)) := Fx.new fp
    have fx : Fx (upd F p (.lst xs)) H := fun b o e => by
      by_cases hb : b = p
      · subst hb
        rw [upd_same] at e
        rw [hx]
        exact e
      · rw [upd_ne hb] at e
        exact rep.ok.sub b o e
    have k0 : FOk X.K T none (upd F p (.lst xs)) H := ⟨fx, fun b m => by
      have hb : b ≠ p := fun z => hA (hA0 _ (z ▸ m))
      rw [upd_ne hb]
      exact rep.ok.ntb b (hA0 b m), rep.ok.tabs, fun a l e => (nomatch e), rep.ok.tbT⟩
    refine ⟨upd F p (.lst xs), none, [.d (.lst ds)], _, _, k0, .cons (show Rp X.K X.mg _ (.ref p) (.lst ds) from .lst upd_same (rx.mono ff)) .nil, h, fun v H' F' d g k rv hR => ?_, fun cls dd H' F' e g k ea he => he.elim⟩
    obtain ⟨n, rfl, hR⟩ := hR
    cases rv
    have g2 : Grw T Z.dr F H F H' := ⟨fun b o e m => g.hh b o e fun z => m (hA0 b z), Fx.refl F, fun b o e => .inl e⟩
    have nd : ∀ b o, H b = some o → (∀ ps, o ≠ .tbl ps) → H' b = some o := fun b o e hn => g.hh b o e fun z => by
      rcases z with ⟨q, hq⟩ | ⟨a, l, z, _⟩
      · obtain ⟨ps, z⟩ := tab_some (rep.ok.tabs _ hq)
        rw [e] at z
        cases z
        exact hn _ rfl
      · cases z
    have k2 : FOk X.K T Z.dr F H' := ⟨fun b o e => k.sub b o (g.ff b o (ff b o e)), rep.ok.ntb, k.tabs, fun a l e => by
      obtain ⟨⟨c, r, t, big, cells, a1, a2, a3⟩, ne⟩ := rep.ok.drw a l e
      exact ⟨⟨c, r, t, big, cells, nd _ _ a1 (fun _ z => nomatch z), nd _ _ a2 (fun _ z => nomatch z), a3⟩, ne⟩, k.tbT⟩
    exact hk _ H' F _ ρ (Fx.refl F) (rep.step g2 k2) (.int n) hR
  · exact h.elim
end
end DL
set_option Elab.async false
set_option linter.all false
set_option maxRecDepth 100000
set_option maxHeartbeats 2000000
namespace DL
open PySem PySem.Spec PyProof.Rows L2
/-! ### x, y = [..], c: x an own list, c a constant -/
section
variable {X : Cx} {T : List (Addr × Str)} {Z : Zx}
def dOwnPar2 (i j : Nat) (tn : DTN) (d2 : D) : DTS := fun ρ E er => tn ρ (fun c ρ1 => E.nx ((ρ1.set i (some (.own c))).set j (some (.d d2)))) er
theorem qs_ownPar2 (i j : Nat) {x y : Str} {a b : PySem.Expr} {px py pt pt2 pos : Pos} {kt k2 : Nat} {tn : DTN} {d2 : D} (hc : X.calm = true) (hN : X.N.Nodup) (hij : i ≠ j) (hn : QN X T Z a tn) (v2 : V) (hb1 : PE X b (tC v2)) (hb2 : ∀ F, Rp X.K X.mg F v2 d2) (hi : X.N[i]? = some x := by rfl) (hj : X.N[j]? = some y := by rfl)
    (hx : X.env.scope.names.lookup x = some .local := by rfl) (hy : X.env.scope.names.lookup y = some .local := by rfl) (hw : swappedStores [.Tuple [.Name x px, .Name y py] kt pt] (.Tuple [a, b] k2 pt2) X.env = pure (some [x, y]) := by rfl)
    (h1 : starEach [a, b] X.env = (false, eval a X.env) :: starEach [b] X.env := by rfl) (h2 : starEach [b] X.env = (false, eval b X.env) :: starEach [] X.env := by rfl) :
    QS X T Z (.Assign [.Tuple [.Name x px, .Name y py] kt pt] (.Tuple [a, b] k2 pt2) pos) (dOwnPar2 i j tn d2) :=
  ps_imp (ps_par hc hN hi hj hij hx hy (pa_cons hn (pa_cons hb1 pa_nil h2) h1) hw) fun E σ H ⟨ρ, F, er, De, rep, tk, h, hn, hr, hbk, hct⟩ => ⟨ρ, F, er, _, rep, tk, h, fun p H1 F1 c ρ1 e1 rep1 oa fp h0 nA nO h1 =>
    ⟨_, _, rfl, hn _ H1 F1 _ e1 (((rep1.setOwn (i := i) oa fp h0 nA fun j c' _ hc' => nO j c' hc').set (i := j) (hb2 _))) h1⟩⟩
end
end DL
set_option Elab.async false
set_option linter.all false
set_option maxRecDepth 100000
set_option maxHeartbeats 2000000
namespace DL
open PySem PySem.Spec PyProof.Rows L2
/-! ### lambdas that hold the draws -/
def oPlain : Option D → Bool
  | some d => d.plainX
  | none => true
def toDV : Option D → DV
  | some d => .d d
  | none => .drw
abbrev LPtD := List (Option D) → (D → Prop) → (Er → Prop) → Prop
theorem rpB_cut {l : List Addr} {K : PySem.W.Frag} {mg : Mg} {F : Hp} {dr : Option (Addr × Addr)} (p : Pin l F) : ∀ {vs : List V} {cs : List (Option D)}, Paired (RpB K mg F dr) vs cs → (∀ c ∈ cs, oPlain c = true) → Paired (RpB K mg (cutL l F) dr) vs cs
  | _, _, .nil, _ => .nil
  | _, _, .cons h1 h2, q => .cons (by
      cases h1 with
      | d h => exact .d (h.cutX p (q _ List.mem_cons_self))
      | drw h => exact .drw h) (rpB_cut p h2 fun c m => q c (List.mem_cons_of_mem _ m))
def SpLD (K : PySem.W.Frag) (mg : Mg) (T : List (Addr × Str)) (pt : LPtD) (vs : List V) (H : Hp) (Q : VK) (E : XK) : Prop := ∃ (F : Hp) (dr : Option (Addr × Addr)) (cs : List (Option D)) (R : D → Prop) (er : Er → Prop), FOk K T dr F H ∧ Paired (RpB K mg F dr) vs cs ∧ pt cs R er ∧
  (∀ v H' F' d, Grw T dr F H F' H' → FOk K T dr F' H' → Rp K mg F' v d → R d → Q v H') ∧ (∀ cls dd H' F' e, Grw T dr F H F' H' → FOk K T dr F' H' → ErAt K mg F' cls dd e → er e → E cls dd H')
section
variable {P : Program} {w : World} {K : PySem.W.Frag} {mg : Mg} {base : Heap} {A : Around} {outer : List Env} {s : Shared} {H : Hp} {E : XK} {Q : VK} {L : LamSite} {f c' : Addr} {cl : List (Str × Addr)} {pm ctv : Value} {vs : List V} {k : Nat} {T : List (Addr × Str)}
theorem paired_get {α β : Type} {G : α → β → Prop} {d : β} : ∀ {xs : List α} {ys : List β} {i : Nat}, Paired G xs ys → ys[i]? = some d → ∃ v, xs[i]? = some v ∧ G v d
  | _, _, _, .nil, e => by simp at e
  | _, _, 0, .cons a b, e => by
    simp at e
    subst e
    exact ⟨_, rfl, a⟩
  | _, _, i + 1, .cons a b, e => by
    obtain ⟨v, h1, h2⟩ := paired_get (i := i) (d := d) b (by simpa using e)
    exact ⟨v, by simpa using h1, h2⟩
theorem rep_lamD {dr : Option (Addr × Addr)} {F : Hp} {cs : List (Option D)} (k : FOk K T dr F H) (r : Paired (RpB K mg F dr) vs cs) : Rep K mg T ⟨dr, F, H⟩ (cs.map fun c => some (toDV c)) F (vs.map some) H where
  len := by rw [List.length_map, List.length_map, Paired.length r]
  ok := k
  gr := Grw.refl
  dat := fun i d e => by
    rw [List.getElem?_map] at e
    cases q : cs[i]? with
    | none => rw [q] at e; cases e
    | some x =>
      rw [q] at e
      cases x with
      | none => cases e
      | some x =>
        cases e
        obtain ⟨v, h1, h2⟩ := paired_get r q
        cases h2 with
        | d h => exact ⟨v, by rw [List.getElem?_map, h1] <;> rfl, h⟩
  drs := fun i e => by
    rw [List.getElem?_map] at e
    cases q : cs[i]? with
    | none => rw [q] at e; cases e
    | some x =>
      rw [q] at e
      cases x with
      | some x => cases e
      | none =>
        obtain ⟨v, h1, h2⟩ := paired_get r q
        cases h2 with
        | drw h => exact ⟨_, _, h, by rw [List.getElem?_map, h1] <;> rfl⟩
  own := fun i c e => by
    rw [List.getElem?_map] at e
    cases q : cs[i]? with
    | none => rw [q] at e; cases e
    | some x => rw [q] at e; cases x <;> cases e
  lam := fun i L cs' e => by
    rw [List.getElem?_map] at e
    cases q : cs[i]? with
    | none => rw [q] at e; cases e
    | some x => rw [q] at e; cases x <;> cases e
  dis := fun i j c c'' p e => by
    rw [List.getElem?_map] at e
    cases q : cs[i]? with
    | none => rw [q] at e; cases e
    | some x => rw [q] at e; cases x <;> cases e
structure LamOkD (P : Program) (w : World) (K : PySem.W.Frag) (mg : Mg) (base : Heap) (T : List (Addr × Str)) (k : Nat) (L : LamSite) (pt : LPtD) : Prop where
  run : ∀ (A : Around) (outer : List Env) (s : Shared) (H : Hp) (f c' : Addr) (cl : List (Str × Addr)) (pm ctv : Value) (vs : List V) (Q : VK) (E : XK), Room k A → Env0 P w K mg base A outer s H → CloH s.heap H L cl vs →
    s.heap.get? f = some (PySem.W.kla_obj "<lambda>" L.q L.params L.body L.scope cl pm c' ctv) → s.heap.CodeRec (.ref c') L.q → SpLD K mg T pt vs H Q E → codeAny (model P w) A (.call (.ref f) ⟨[], []⟩) (CR (L2.CX P w) outer P w H s Q E) s
theorem lam_okD {pt : LPtD} {te : DTE} (S : LamSt L) (hb : ∀ (A : Around) (outer : List Env) (s : Shared) (H : Hp) (E : XK) (f c' : Addr) (cl : List (Str × Addr)) (Z : Zx), Room k (A.deeper (lamE L s.heap.objs.size f c' cl)) → QE (lamC P w K mg base L A outer s H E f c' cl) T Z L.body te)
    (hp : ∀ cs R er, pt cs R er → te (cs.map fun c => some (toDV c)) (fun d _ => R d) er) : LamOkD P w K mg base T (k + 1) L pt :=
  ⟨fun A outer s H f c' cl pm ctv vs Q E hr e0 C hf hc ⟨F, dr, cs, R, er, kk, r, h, hq, he⟩ => lam_run S hr e0 C hf hc fun hr' => ⟨_, hb A outer s H E f c' cl ⟨dr, F, H⟩ hr', _, F, er, _, rep_lamD kk r, by
    refine Takes.imp (takes_of (X := lamC P w K mg base L A outer s H E f c' cl) (E := E) rfl rfl rfl rfl) ?_
    rintro cls dd σ' H' ⟨ρ', F', e, rep', ea, hE⟩
    exact he cls dd H' F' e rep'.gr rep'.ok ea hE, hp cs R er h, fun v H' F' d ρ' _ rep' rv hR => hq v H' F' d rep'.gr rep'.ok rv hR⟩⟩
theorem LamOkD.mono {pt : LPtD} {j : Nat} (h : LamOkD P w K mg base T j L pt) (l : j ≤ k) : LamOkD P w K mg base T k L pt := ⟨fun A outer s H f c' cl pm ctv vs Q E hr => h.run A outer s H f c' cl pm ctv vs Q E (hr.mono l)⟩
end
/-! ### x(), x a lambda, its draws held or not -/
def dLamD (LT : List (LamSite × LPt)) (LTD : List (LamSite × LPtD)) (i : Nat) : DTE := fun ρ R er => match ρ[i]? with
  | some (some (.lam L cs)) => ∃ pt, (L, pt) ∈ LTD ∧ cs.length = L.ns.length ∧ (∀ c ∈ cs, oPlain c = true) ∧ pt cs (fun d => R d ρ) er
  | _ => dLam LT i ρ R er
/-- a slot handed on, a datum or such a lambda -/
def dArgL (i : Nat) (tr : DTA) : DTA := fun ρ R er => match ρ[i]? with
  | some (some (.lam L cs)) => tr ρ (fun xs ρ2 => R (.lam L cs :: xs) ρ2) er
  | some (some (.d x)) => tr ρ (fun xs ρ2 => R (.d x :: xs) ρ2) er
  | _ => False
/-- x(lambda: ..), the draws held -/
def dMkD (L : LamSite) (ix : List Nat) (pt : Pt) : DTE := fun ρ R er => ∃ cs : List (Option D), ix.map (ρ[·]?) = cs.map (fun c => some (some (toDV c))) ∧ (∀ c ∈ cs, oPlain c = true) ∧ pt [.lam L cs] (fun d => d.plainX = true ∧ R d ρ) (fun e => e.pl = true ∧ er e)
theorem ix_oneD {ρ : DEnv} : ∀ {ix : List Nat} {cs : List (Option D)} {ns : List Str} {N : List Str}, ix.map (ρ[·]?) = cs.map (fun c => some (some (toDV c))) → ix.map (N[·]?) = ns.map some →
    cs.length = ns.length ∧ ∀ (j : Nat) (n : Str), ns[j]? = some n → ∃ (i : Nat) (d : Option D), N[i]? = some n ∧ ρ[i]? = some (some (toDV d)) ∧ cs[j]? = some d
  | [], [], [], _, _, _ => ⟨rfl, fun j n e => by simp at e⟩
  | [], _ :: _, _, _, h, _ => by cases h
  | _ :: _, [], _, _, h, _ => by cases h
  | [], [], _ :: _, _, _, h => by cases h
  | _ :: _, _ :: _, [], _, _, h => by cases h
  | i :: ix, c :: cs, m :: ns, N, h1, h2 => by
    simp only [List.map_cons, List.cons.injEq] at h1 h2
    obtain ⟨q1, q2⟩ := ix_oneD (ix := ix) (cs := cs) (ns := ns) (N := N) h1.2 h2.2
    refine ⟨by rw [List.length_cons, List.length_cons, q1], fun j n e => ?_⟩
    cases j with
    | zero =>
      simp at e
      subst e
      exact ⟨i, c, h2.1, h1.1, rfl⟩
    | succ j =>
      obtain ⟨i', d, a1, a2, a3⟩ := q2 j n (by simpa using e)
      exact ⟨i', d, a1, a2, by simpa using a3⟩
theorem vals_ofD {P : Nat → V → Option D → Prop} : ∀ (cs : List (Option D)), (∀ j d, cs[j]? = some d → ∃ v, P j v d) → ∃ vs : List V, vs.length = cs.length ∧ ∀ j v d, vs[j]? = some v → cs[j]? = some d → P j v d
  | cs, h => by
    induction cs generalizing P with
    | nil => exact ⟨[], rfl, fun j v d e => by simp at e⟩
    | cons c cs ih =>
      obtain ⟨v, hv⟩ := h 0 c rfl
      obtain ⟨vs, hl, hq⟩ := ih (P := fun j => P (j + 1)) fun j d e => h (j + 1) d (by simpa using e)
      refine ⟨v :: vs, by rw [List.length_cons, List.length_cons, hl], fun j w d e1 e2 => ?_⟩
      cases j with
      | zero =>
        simp at e1 e2
        subst e1 e2
        exact hv
      | succ j => exact hq j w d (by simpa using e1) (by simpa using e2)
theorem rpl_ofD {K : PySem.W.Frag} {mg : Mg} {F : Hp} {dr : Option (Addr × Addr)} : ∀ {vs : List V} {cs : List (Option D)}, vs.length = cs.length → (∀ (j : Nat) v d, vs[j]? = some v → cs[j]? = some d → RpB K mg F dr v d) → Paired (RpB K mg F dr) vs cs
  | [], [], _, _ => .nil
  | [], _ :: _, h, _ => by cases h
  | _ :: _, [], h, _ => by cases h
  | v :: vs, c :: cs, h, q => .cons (q 0 v c rfl rfl) (rpl_ofD (by simpa using h) fun j v d e1 e2 => q (j + 1) v d (by simpa using e1) (by simpa using e2))
section
variable {X : Cx} {T : List (Addr × Str)} {Z : Zx} {LT : List (LamSite × LPt)} {LTD : List (LamSite × LPtD)} {k j : Nat}
theorem qa_argL (i : Nat) {es : List PySem.Expr} {tr : DTA} {x : Str} {pos : Pos} (hr : QA X T Z es tr) (hN : X.N[i]? = some x := by rfl) (hv : Vis X.env.scope x := by first | exact Or.inl rfl | exact Or.inr (Or.inl rfl) | exact Or.inr (Or.inr rfl))
    (hs : starEach (PySem.Expr.Name x pos :: es) X.env = (false, eval (PySem.Expr.Name x pos) X.env) :: starEach es X.env := by rfl) (hd : (x == ("__debug__" : Str)) = false := by decide) (hcd : (x == ("__classdict__" : Str)) = false := by decide) : QA X T Z (.Name x pos :: es) (dArgL i tr) :=
  pa_imp (pa_cons (pe_var (i := i) hN hv hd hcd) hr hs) fun σ H Q ⟨ρ, F, er, R, rep, tk, h, hk⟩ => by
    unfold dArgL at h
    split at h
    · rename_i hi
      obtain ⟨v, h1, h2⟩ := rep.lam i _ _ hi
      exact ⟨v, h1, ρ, F, er, _, rep, tk, h, fun vs H2 F2 ds ρ2 e2 rep2 rvs h3 => hk _ H2 F2 _ ρ2 e2 rep2 (.cons (show RpA X.K X.mg F2 Z.dr v (.lam _ _) from h2.mono e2) rvs) h3⟩
    · rename_i hi
      obtain ⟨v, h1, h2⟩ := rep.dat i _ hi
      exact ⟨v, h1, ρ, F, er, _, rep, tk, h, fun vs H2 F2 ds ρ2 e2 rep2 rvs h3 => hk _ H2 F2 _ ρ2 e2 rep2 (.cons (show RpA X.K X.mg F2 Z.dr v (.d _) from h2.mono e2) rvs) h3⟩
    · exact h.elim
theorem qe_lamD (i : Nat) {a : Str} {p1 p2 : Pos} (LO : ∀ p ∈ LT, LamOk X.prog X.w X.K X.mg X.base T k p.1 p.2) (LOD : ∀ p ∈ LTD, LamOkD X.prog X.w X.K X.mg X.base T k p.1 p.2) (hr : Room j X.A) (hkj : k ≤ j) (hN : X.N[i]? = some a := by rfl)
    (hv : Vis X.env.scope a := by first | exact Or.inl rfl | exact Or.inr (Or.inl rfl) | exact Or.inr (Or.inr rfl)) (hd : (a == ("__debug__" : Str)) = false := by decide) (hcd : (a == ("__classdict__" : Str)) = false := by decide) :
    QE X T Z (.Call (.Name a p1) [] [] p2) (dLamD LT LTD i) := by
  refine ⟨fun pins s σ H Q I ⟨ρ, F, er, R, rep, tk, h, hk⟩ => ?_⟩
  unfold dLamD at h
  split at h
  · rename_i L cs hi
    obtain ⟨pt, hm, hlen, hpl, h⟩ := h
    obtain ⟨v, hs, rv⟩ := rep.lam i _ _ hi
    cases rv with
    | mk h1 h2 h3 h4 h5 =>
      rename_i f c' cl pm ctv vs
      refine wpAny_Call_Name_kw (thn ((pe_var (pos := p1) (i := i) hN hv hd hcd).run pins s σ H (fun v H1 => v = .ref f ∧ H1 = H) I ⟨.ref f, hs, rfl, rfl⟩) fun u s1 ⟨v, H1, I1, r1, q1⟩ => ?_)
      obtain ⟨ev, eH⟩ := q1
      subst ev
      rw [eH] at I1
      obtain rfl : u = Value.ref f := r1
      have hF : s1.heap.get? f = some (PySem.W.kla_obj "<lambda>" L.q L.params L.body L.scope cl pm c' ctv) := (I1.hok f _ (rep.ok.sub _ _ h1)).1
      refine PySem.W.callWith_F0 ⟨_, _, _, _, hF⟩ ?_
      obtain ⟨⟨oc, ws, t, hoc, hdc, hvc⟩, _, _⟩ := I1.hok c' _ (rep.ok.sub _ _ h2)
      generalize hl : (cl.map (·.1)).filterMap (cl.lookup ·) = l
      have pF : Pin l F := hl ▸ pin_of h3
      have pH : Pin l H := fun b m => by
        obtain ⟨o, q⟩ := pF b m
        exact ⟨o, rep.ok.sub _ _ q⟩
      have nf : ∀ b ∈ l, b ∉ frs X.stack := fun b m hb => by
        obtain ⟨o, q⟩ := pH b m
        rw [I1.stkFree b hb] at q
        cases q
      have inl : ∀ {y c}, cl.lookup y = some c → c ∈ l := fun {y c} e => hl ▸ mem_clo e
      have clo : CloH s1.heap (cutL l H) L cl vs := ⟨fun y c e => by
          obtain ⟨o, u, a1, a2⟩ := h3.held y c e
          exact ⟨cutL_in (inl e), u, o, (I1.hok c _ (rep.ok.sub _ _ a1)).1, a2⟩, h3.inj, h3.has, fun j n v e1 e2 => by
          obtain ⟨c, o, u, a1, a2, a3, a4⟩ := h4 j n v e1 e2
          exact ⟨c, u, a1, ⟨o, (I1.hok c _ (rep.ok.sub _ _ a2)).1, a3⟩, a4⟩, (Paired.length h5).trans hlen⟩
      have rc := (LOD _ hm).run X.A X.stack s1 (cutL l H) f c' cl pm ctv vs (fun v H' => (∀ b ∈ l, H' b = none) → Q v (putL l H H')) (fun cls d H' => (∀ b ∈ l, H' b = none) → Wer X.K X.mg T Z er cls d σ (putL l H H')) (hr.mono hkj) (pH.env0 I1.env0) clo hF ⟨c', oc, ws, t, rfl, hoc, hdc, hvc⟩ ?_
      · refine wpAny_call (codeAny_mono rc fun r s' rc => ?_)
        have rc2 := cr_cut_put (Q' := Q) (E' := WE (Wer X.K X.mg T Z er) σ) (r := r) (s' := s') pH I1.hok nf (fun v H' fr q => q fr) (fun cls d H' fr q => q fr) rc
        have hq := rc2
        cases r with
        | error e => exact passAt tk σ pins H s1 e s' I1 hq
        | ok fl =>
          cases fl with
          | ret u => exact I1.after hq
          | next => exact False.elim hq
          | brk => exact False.elim hq
          | cont => exact False.elim hq
      · have back : ∀ {H' F' : Hp}, Grw T Z.dr (cutL l F) (cutL l H) F' H' → FOk X.K T Z.dr F' H' → (∀ b ∈ l, H' b = none) → Grw T Z.dr F H (putL l F F') (putL l H H') ∧ FOk X.K T Z.dr (putL l F F') (putL l H H') ∧ Fx F' (putL l F F') := fun {H' F'} g kk fr => by
          have hFn : ∀ b ∈ l, F' b = none := fun b m => by
            cases q : F' b with
            | none => rfl
            | some o =>
              have z := kk.sub _ _ q
              rw [fr b m] at z
              cases z
          have nAm : ∀ b ∈ l, ¬ Am T Z.dr b := fun b m am => by
            obtain ⟨o, q⟩ := pF b m
            rw [rep.ok.ntb b am] at q
            cases q
          have xH : Fx H' (putL l H H') := fun b o e => by
            have m : b ∉ l := fun m => by
              rw [fr b m] at e
              cases e
            exact (putL_out m).trans e
          have xF : Fx F' (putL l F F') := fun b o e => by
            have m : b ∉ l := fun m => by
              rw [hFn b m] at e
              cases e
            exact (putL_out m).trans e
          refine ⟨⟨fun b o e am => ?_, fun b o e => ?_, fun b o e => ?_⟩, kk.grow xF (fun b o e => ?_) xH (fun b am => ?_) (fun b ps e => ?_), xF⟩
          · by_cases m : b ∈ l
            · exact (putL_in m).trans e
            · rw [putL_out m]
              exact g.hh b o ((cutL_out m).trans e) am
          · by_cases m : b ∈ l
            · exact (putL_in m).trans e
            · rw [putL_out m]
              exact g.ff b o ((cutL_out m).trans e)
          · by_cases m : b ∈ l
            · rw [putL_in m] at e
              exact .inl e
            · rw [putL_out m] at e
              rcases g.new b o e with z | z | z
              · rw [cutL_out m] at z
                exact .inl z
              · rw [cutL_out m] at z
                exact .inr (.inl z)
              · exact .inr (.inr z)
          · by_cases m : b ∈ l
            · rw [putL_in m] at e ⊢
              exact rep.ok.sub _ _ e
            · rw [putL_out m] at e ⊢
              exact kk.sub _ _ e
          · by_cases m : b ∈ l
            · exact absurd am (nAm b m)
            · rw [putL_out m]
              exact kk.ntb b am
          · by_cases m : b ∈ l
            · rw [putL_in m] at e
              obtain ⟨o, q⟩ := pH b m
              rw [q] at e
              cases e
            · rw [putL_out m] at e
              exact kk.tbT b ps e
        refine ⟨cutL l F, Z.dr, cs, fun d => R d ρ, er, pF.fok pH rep.ok, hl ▸ h5, h, ?_, ?_⟩
        · rintro v H' F' d g kk rv hR fr
          obtain ⟨g1, k1, x1⟩ := back g kk fr
          exact hk v _ _ d ρ g1.ff (rep.step g1 k1) (rv.mono x1) hR
        · rintro cls dd H' F' e g kk ea he fr
          obtain ⟨g1, k1, x1⟩ := back g kk fr
          exact ⟨ρ, _, e, rep.step g1 k1, ea.mono x1, he⟩
  · exact (qe_lam i LO hr hkj hN hv hd hcd).run pins s σ H Q I ⟨ρ, F, er, R, rep, tk, h, hk⟩
theorem qe_mkLamD {L : LamSite} {x : Str} {st : Stmt} {ps : List Str} {ix : List Nat} {k j : Nat} {pt : Pt} {c P : Addr} {p lpos pos : Pos} (O : Fo X.prog X.w X.K X.mg X.base x st ps k (SpF X.K X.mg T pt)) (hr : Room j X.A) (hkj : k ≤ j) (hg : Gl X x) (S : LamSt L)
    (hq : X.env.qual ++ "<lambda>" = L.q) (TB : LamX.TabB X.base X.mg c P) (hcode : X.env.code = .ref c) (hmT : (P, L.q) ∈ T) (hu : ∀ p ∈ T, p.1 = P → p.2 = L.q) (hfree : ∀ y ∈ L.scope.names, y.2 = .free → X.env.scope.names.lookup y.1 = some .cell ∨ X.env.scope.names.lookup y.1 = some .free)
    (hix : ix.map (X.N[·]?) = L.ns.map some) (hfn : ∀ y, X.fn y = true := by exact fun _ => rfl) (hdef : defaultsOf L.params X.env = ([], []) := by rfl) (hdb : (x == ("__debug__" : Str)) = false := by decide) :
    QE X T Z (.Call (.Name x p) [.Lambda L.params L.body L.scope lpos] [] pos) (dMkD L ix pt) := by
  obtain ⟨g, fd, hm, F0, hb, ok⟩ := O.ex
  refine ⟨fun pins s σ H Q I ⟨ρ, F, er, R, rep, tk, ⟨cs, hcs, hpl, h⟩, hk⟩ => ?_⟩
  refine wpAny_Call_Name_kw (ld_glob I hg hm ?_ hdb)
  refine PySem.W.callWith_K (h₀ := X.base) I.ok.mod.kin F0.kp ?_ (by rfl) (by rfl)
  show wpAny _ _ (spliced ((false, eval (.Lambda L.params L.body L.scope lpos) X.env) :: backTo pos (starEach [] X.env))) _ _ s
  refine Calls.spliced_cons (lam_new I TB hcode hq hmT hu rep.ok.tabs hdef (fun y hy e => by
    rcases hfree y hy e with k | k
    · exact I.ok.has _ (.inl k)
    · exact I.ok.has _ (.inr k)) fun f c' pm ctv H1 s' I1 eN T1 hf hfn1 hfs tbb hco => ?_)
  refine Calls.spliced_nil ⟨I1.kIn, ?_⟩
  -- the state with the lambda made
  have notT : ∀ b o, F b = some o → ∀ qs, o ≠ .tbl qs := fun b o e qs z => by
    obtain ⟨q, hT⟩ := rep.ok.tbT b qs (z ▸ rep.ok.sub b o e)
    rw [rep.ok.ntb b (.inl ⟨q, hT⟩)] at e
    cases e
  have drN : ∀ b o, H b = some o → ¬ (∃ q, (b, q) ∈ T) → H1 b = some o := fun b o e n => eN b o e fun qs z => n (rep.ok.tbT b qs (z ▸ e))
  obtain ⟨clo1, clo2⟩ := lam_cells I1 S hfree
  generalize hcl : cloFrom X.env.cells L.scope.names [] = cl at clo1 clo2 hf
  have sub1 : Fx F H1 := fun b o e => eN b o (rep.ok.sub b o e) (notT b o e)
  obtain ⟨len, at1⟩ := ix_oneD hcs hix
  obtain ⟨m, hns, hloc⟩ := id I1.loc
  obtain ⟨vs, vl, va⟩ := vals_ofD (P := fun j v d => RpB X.K X.mg F Z.dr v d ∧ ∀ n, L.ns[j]? = some n → ∃ c u, cl.lookup n = some c ∧ s'.heap.IsCell c (some u) ∧ RelV v u) cs fun j d e => by
    have hj : j < L.ns.length := len ▸ (List.getElem?_eq_some_iff.mp e).1
    obtain ⟨i, d', a1, a2, a3⟩ := at1 j _ (List.getElem?_eq_getElem hj)
    rw [a3] at e
    cases e
    obtain ⟨v, s1, r1⟩ : ∃ v, σ[i]? = some (some v) ∧ RpB X.K X.mg F Z.dr v d := by
      cases d with
      | some x =>
        obtain ⟨v, s1, r1⟩ := rep.dat i x a2
        exact ⟨v, s1, .d r1⟩
      | none =>
        obtain ⟨a, l, z1, z2⟩ := rep.drs i a2
        exact ⟨_, z2, .drw z1⟩
    refine ⟨v, r1, fun n hn => ?_⟩
    rw [List.getElem?_eq_getElem hj] at hn
    cases hn
    have hfl := S.ns _ (List.getElem_mem hj)
    have hvis := hfree _ (PySem.mem_of_lookup hfl) rfl
    obtain ⟨u, ru, q⟩ := hloc i _ v a1 s1 (.inr hvis)
    obtain ⟨cc, hcc⟩ := clo2 _ hfl
    have hX := clo1 _ _ hcc
    rcases q with ⟨k', _⟩ | ⟨_, c3, e', z⟩
    · have k' : X.env.scope.names.lookup _ = some .local := k'
      rcases hvis with k2 | k2 <;> rw [k2] at k' <;> cases k'
    · rw [hX] at e'
      cases e'
      exact ⟨cc, u, hcc, z, ru⟩
  -- what is known for the time of the call
  generalize hG : (fun b => (s'.heap.get? b).map fun o => HO.frz o (.own b) : Hp) = G
  generalize hl : f :: (cl.map (·.1)).filterMap (cl.lookup ·) = l
  have inl : ∀ {y c}, cl.lookup y = some c → c ∈ l := fun {y c} e => hl ▸ List.mem_cons_of_mem _ (mem_clo e)
  have cell_ : ∀ {y c}, cl.lookup y = some c → ∃ o u, s'.heap.get? c = some o ∧ o.data = .cell u ∧ G c = some (.frz o (.own c)) := fun {y c} e => by
    obtain ⟨v, o, a1, a2⟩ := I1.cell y c (clo1 y c e)
    exact ⟨o, v, a1, a2, by rw [← hG]; show (s'.heap.get? c).map _ = _; rw [a1]; rfl⟩
  have each : ∀ b ∈ l, b = f ∨ ∃ y, cl.lookup y = some b := fun b m => by
    rw [← hl] at m
    rcases List.mem_cons.mp m with e | m
    · exact .inl e
    · obtain ⟨y, _, h2⟩ := List.mem_filterMap.mp m
      exact .inr ⟨y, h2⟩
  have trk : Trk l G H1 s'.heap := ⟨fun b m => by
    rcases each b m with e | ⟨y, e⟩
    · rw [e]
      exact hfn1
    · exact I1.freeC y b (clo1 y b e), fun b m => by
    rcases each b m with e | ⟨y, e⟩
    · subst e
      exact ⟨_, by rw [← hG]; show (s'.heap.get? _).map _ = _; rw [hf]; rfl, hf⟩
    · obtain ⟨o, u, a1, a2, a3⟩ := cell_ e
      exact ⟨o, a3, a1⟩⟩
  have nfr : ∀ b ∈ l, b ∉ frs X.stack := fun b m hb => by
    rcases each b m with e | ⟨y, e⟩
    · rcases List.mem_cons.mp (I.stkSub b hb) with z | z
      · exact absurd I.lt (by rw [← z, e]; exact Nat.not_lt.mpr hfs)
      · exact I.nofs hfs (e ▸ z)
    · rcases List.mem_cons.mp (I1.stkSub b hb) with z | z
      · exact I1.cne y b (clo1 y b e) z
      · obtain ⟨_, o, ho, _⟩ := I1.ok.funs.mem z
        exact absurd (Nat.lt_of_lt_of_le (Heap.lt_size ho) (I1.ok.cab y b (hfn y) (clo1 y b e))) (Nat.lt_irrefl _)
  have nbs : ∀ b ∈ l, X.base.get? b = none := fun b m => by
    cases q : X.base.get? b with
    | none => rfl
    | some o =>
      exfalso
      have q1 := I1.bk b o q
      rcases each b m with e | ⟨y, e⟩
      · exact absurd (Nat.lt_of_lt_of_le (Heap.lt_size (I.bk b o q)) (e ▸ hfs)) (Nat.lt_irrefl _)
      · have q2 := (I1.ok.bs b o q).1
        exact absurd (Nat.lt_of_lt_of_le (Heap.lt_size q2) (I1.ok.cab y b (hfn y) (clo1 y b e))) (Nat.lt_irrefl _)
  have rF : LamAt X.K X.mg (putL l G (upd F c' (LamX.CodeO c' L.q))) Z.dr (.ref f) L cs := by
    have xF : Fx F (putL l G (upd F c' (LamX.CodeO c' L.q))) := fun b o e => by
      have m : b ∉ l := trk.out (sub1 b o e)
      rw [putL_out m]
      by_cases hb : b = c'
      · subst hb
        rw [upd_same]
        exact hco.symm.trans (sub1 _ _ e)
      · rw [upd_ne hb]
        exact e
    have nc : c' ∉ l := trk.out hco
    have xC : Fx F (cutL (clsOf cl) (putL l G (upd F c' (LamX.CodeO c' L.q)))) := fun b o e => by
      have nb : b ∉ clsOf cl := fun m => by
        obtain ⟨y, _, h2⟩ := List.mem_filterMap.mp m
        have z := I1.freeC y b (clo1 y b h2)
        rw [sub1 b o e] at z
        cases z
      unfold cutL
      rw [if_neg nb]
      exact xF b o e
    have fl : f ∈ l := hl ▸ List.mem_cons_self
    refine .mk ((putL_in fl).trans (by rw [← hG]; show (s'.heap.get? _).map _ = _; rw [hf]; rfl)) ((putL_out nc).trans upd_same) ⟨fun y c e => ?_, fun x y c e1 e2 => I1.ok.inj x y c (clo1 x c e1) (clo1 y c e2), clo2⟩ (fun j n v e1 e2 => ?_) (rpl_ofD vl fun j v d e1 e2 => ((va j v d e1 e2).1).mono xC)
    · obtain ⟨o, u, a1, a2, a3⟩ := cell_ e
      exact ⟨o, u, (putL_in (inl e)).trans a3, a2⟩
    · have hj : j < cs.length := vl ▸ (List.getElem?_eq_some_iff.mp e2).1
      obtain ⟨c, u, a1, ⟨o, a2, a3⟩, a4⟩ := (va j v _ e2 (List.getElem?_eq_getElem hj)).2 n e1
      exact ⟨c, o, u, a1, (putL_in (inl a1)).trans (by rw [← hG]; show (s'.heap.get? _).map _ = _; rw [a2]; rfl), a3, a4⟩
  have tb1 : ∀ b ps, H1 b = some (.tbl ps) → ∃ q, (b, q) ∈ T := fun b ps e => by
    obtain ⟨ps', e'⟩ := tbb b ps e
    exact rep.ok.tbT b ps' e'
  have nAl : ∀ b ∈ l, ¬ Am T Z.dr b := fun b m => by
    rintro (⟨q, hT⟩ | ⟨a, l', e, z⟩)
    · obtain ⟨ps, h1, _⟩ := T1 _ hT
      rw [trk.no b m] at h1
      cases h1
    · obtain ⟨c, r, t, big, cells, h1, h2, _⟩ := (rep.ok.drw a l' e).at_
      have g1 := eN _ _ h1 fun _ z => nomatch z
      have g2 := eN _ _ h2 fun _ z => nomatch z
      rcases z with z | z
      · rw [← z, trk.no b m] at g1
        cases g1
      · rw [← z, trk.no b m] at g2
        cases g2
  have nAc : ¬ Am T Z.dr c' := by
    rintro (⟨q, hT⟩ | ⟨a, l', e, z⟩)
    · obtain ⟨ps, h1, _⟩ := T1 _ hT
      rw [hco] at h1
      exact LamX.codeO_ne ps (Option.some.inj h1)
    · obtain ⟨c, r, t, big, cells, h1, h2, _⟩ := (rep.ok.drw a l' e).at_
      have g1 := eN _ _ h1 fun _ z => nomatch z
      have g2 := eN _ _ h2 fun _ z => nomatch z
      rcases z with z | z
      · rw [← z, hco] at g1
        cases g1
      · rw [← z, hco] at g2
        cases g2
  have drw1 : ∀ a l', Z.dr = some (a, l') → DrawAt X.K F H1 a l' := fun a l' e => by
    obtain ⟨c, r, t, big, cells, h1, h2, _⟩ := (rep.ok.drw a l' e).at_
    exact (rep.ok.drw a l' e).mono (Fx.refl F) ((eN _ _ h1 fun _ z => nomatch z).trans h1.symm) ((eN _ _ h2 fun _ z => nomatch z).trans h2.symm)
  have k1 : FOk X.K T Z.dr F H1 := ⟨sub1, rep.ok.ntb, T1, drw1, tb1⟩
  have g01 : Grw T Z.dr F H F H1 := ⟨fun b o e m => eN b o e fun qs z => by
      obtain ⟨q, hT⟩ := rep.ok.tbT b qs (z ▸ e)
      exact m (.inl ⟨q, hT⟩), Fx.refl F, fun b o e => .inl e⟩
  have ks : FOk X.K T Z.dr (putL l G (upd F c' (LamX.CodeO c' L.q))) (putL l G H1) := by
    have xH : ∀ b o, H1 b = some o → putL l G H1 b = some o := fun b o e => (putL_out (trk.out e)).trans e
    refine k1.grow (fun b o e => ?_) (fun b o e => ?_) xH (fun b am => ?_) (fun b ps e => ?_)
    · rw [putL_out (trk.out (sub1 b o e))]
      by_cases hb : b = c'
      · subst hb
        rw [upd_same]
        exact hco.symm.trans (sub1 _ _ e)
      · rw [upd_ne hb]
        exact e
    · by_cases m : b ∈ l
      · rw [putL_in m] at e ⊢
        exact e
      · rw [putL_out m] at e ⊢
        by_cases hb : b = c'
        · subst hb
          rw [upd_same] at e
          exact hco.trans e
        · rw [upd_ne hb] at e
          exact sub1 b o e
    · have m : b ∉ l := fun m => nAl b m am
      have hb : b ≠ c' := fun z => nAc (z ▸ am)
      rw [putL_out m, upd_ne hb]
      exact rep.ok.ntb b am
    · by_cases m : b ∈ l
      · rw [putL_in m] at e
        obtain ⟨o, q, _⟩ := trk.at_ b m
        rw [q] at e
        cases e
      · rw [putL_out m] at e
        exact tb1 b ps e
  have back : ∀ {H' F' : Hp}, Grw T Z.dr (putL l G (upd F c' (LamX.CodeO c' L.q))) (putL l G H1) F' H' → FOk X.K T Z.dr F' H' → Pin l H' → Grw T Z.dr F H1 (cutL l F') (cutL l H') ∧ FOk X.K T Z.dr (cutL l F') (cutL l H') ∧ Pin l F' := fun {H' F'} g kk pn => by
    have pF : Pin l F' := fun b m => by
      obtain ⟨o, q, _⟩ := trk.at_ b m
      exact ⟨o, g.ff b _ ((putL_in m).trans q)⟩
    refine ⟨⟨fun b o e am => ?_, fun b o e => ?_, fun b o e => ?_⟩, pF.fok pn kk, pF⟩
    · have m := trk.out e
      rw [cutL_out m]
      exact g.hh b o ((putL_out m).trans e) am
    · have m := trk.out (sub1 b o e)
      rw [cutL_out m]
      refine g.ff b o ((putL_out m).trans ?_)
      by_cases hb : b = c'
      · subst hb
        rw [upd_same]
        exact hco.symm.trans (sub1 _ _ e)
      · rw [upd_ne hb]
        exact e
    · by_cases m : b ∈ l
      · rw [cutL_in m] at e
        cases e
      · rw [cutL_out m] at e
        rcases g.new b o e with z | z | z
        · rw [putL_out m] at z
          by_cases hb : b = c'
          · subst hb
            rw [upd_same] at z
            exact .inr (.inr ⟨_, (Option.some.inj z).symm⟩)
          · rw [upd_ne hb] at z
            exact .inl z
        · rw [putL_out m] at z
          exact .inr (.inl z)
        · exact .inr (.inr z)
  have hb1 := hb s' [.ref f] I1.kIn (by
    have z := ok.len [V.ref f] _ (fun _ _ => True) (fun _ _ _ => True) ⟨_, Z.dr, [.lam L cs], _, _, ks, .cons (show RpA X.K X.mg _ Z.dr (.ref f) (.lam L cs) from rF) .nil, h, fun _ _ _ _ _ _ _ _ => trivial, fun _ _ _ _ _ _ _ _ _ => trivial⟩
    simpa using z)
  rw [List.append_nil] at hb1
  refine wpAny_call (codeAny_mono (ok.run X.A X.stack s' (putL l G H1) ⟨[.ref f], []⟩ [.ref f] [.ref f] (fun v H' => Pin l H' → Q v (cutL l H')) (fun cls d H' => Pin l H' → Wer X.K X.mg T Z er cls d σ (cutL l H')) (hr.mono hkj) (trk.env0 I1.env0 nfr nbs) hb1 (.cons rfl .nil) ?_) fun r s2 rc => ?_)
  · refine ⟨_, Z.dr, [.lam L cs], _, _, ks, .cons (show RpA X.K X.mg _ Z.dr (.ref f) (.lam L cs) from rF) .nil, h, fun v H' F' d g kk rv hR pn => ?_, fun cls dd H' F' e g kk ea he pn => ?_⟩
    · obtain ⟨g1, k2, pF⟩ := back g kk pn
      exact hk v _ _ d ρ g1.ff (rep.step (g01.trans g1 k2.ntb) k2) (rv.cutX pF hR.1) hR.2
    · obtain ⟨g1, k2, pF⟩ := back g kk pn
      exact ⟨ρ, _, e, rep.step (g01.trans g1 k2.ntb) k2, ea.cut pF he.1, he.2⟩
  · have hq2 := cr_put_cut (r := r) (s' := s2) (Q' := Q) (E' := WE (Wer X.K X.mg T Z er) σ) trk nfr (fun v H' pn q => q pn) (fun cls d H' pn q => q pn) rc
    cases r with
    | error e => exact passAt tk σ pins H1 s' e s2 I1 hq2
    | ok fl =>
      cases fl with
      | ret u => exact I1.after hq2
      | next => exact False.elim hq2
      | brk => exact False.elim hq2
      | cont => exact False.elim hq2
end
end DL
set_option Elab.async false
set_option linter.all false
set_option maxRecDepth 100000
set_option maxHeartbeats 2000000
namespace DL
open PySem PySem.Spec PyProof.Rows L2
/-! ### {k: v for x in .. if t} -/
def putD (kvs : List (Key × D)) (k : Key) (d : D) : List (Key × D) := if (kvs.any fun kv => decide (kv.1 = k)) = true then kvs.map (fun kv => if kv.1 = k then (kv.1, d) else kv) else kvs ++ [(k, d)]
section
variable {K : PySem.W.Frag} {mg : Mg} {F : Hp}
theorem RpK.any {p : Key → Bool} : ∀ {ks : List (Key × V)} {ds : List (Key × D)}, RpK K mg F ks ds → (ks.any fun kv => p kv.1) = ds.any fun kv => p kv.1
  | _, _, .nil => rfl
  | _, _, .cons _ t => by
    rw [List.any_cons, List.any_cons, RpK.any t]
theorem RpK.mapPut {k : Key} {v : V} {d : D} (r : Rp K mg F v d) : ∀ {ks : List (Key × V)} {ds : List (Key × D)}, RpK K mg F ks ds → RpK K mg F (ks.map fun kv => if kv.1 = k then (kv.1, v) else kv) (ds.map fun kv => if kv.1 = k then (kv.1, d) else kv)
  | _, _, .nil => .nil
  | _, _, .cons (k := k0) q t => by
    rw [List.map_cons, List.map_cons]
    by_cases e : k0 = k
    · rw [if_pos (show ((k0, _) : Key × V).1 = k from e), if_pos (show ((k0, _) : Key × D).1 = k from e)]
      exact .cons r (RpK.mapPut r t)
    · rw [if_neg (show ¬ ((k0, _) : Key × V).1 = k from e), if_neg (show ¬ ((k0, _) : Key × D).1 = k from e)]
      exact .cons q (RpK.mapPut r t)
theorem RpK.snoc {k : Key} {v : V} {d : D} (r : Rp K mg F v d) : ∀ {ks : List (Key × V)} {ds : List (Key × D)}, RpK K mg F ks ds → RpK K mg F (ks ++ [(k, v)]) (ds ++ [(k, d)])
  | _, _, .nil => .cons r .nil
  | _, _, .cons q t => .cons q (RpK.snoc r t)
theorem RpK.put {k : Key} {v : V} {d : D} {ks : List (Key × V)} {ds : List (Key × D)} (t : RpK K mg F ks ds) (r : Rp K mg F v d) : RpK K mg F (putK ks k v) (putD ds k d) := by
  unfold putK putD
  rw [RpK.any (p := fun q => decide (q = k)) t]
  split
  · exact RpK.mapPut r t
  · exact RpK.snoc r t
end
theorem valD_map (k j : Key) (y : D) : ∀ kvs : List (Key × D), (valD (kvs.map fun kv => if kv.1 = k then (kv.1, y) else kv) j).isSome = (valD kvs j).isSome
  | [] => rfl
  | p :: r => by
    have ih := valD_map k j y r
    unfold valD at ih ⊢
    rw [List.map_cons]
    by_cases h : p.1 = k
    · rw [if_pos h]
      by_cases e : p.1 = j
      · simp [List.find?_cons, e]
      · simpa [List.find?_cons, e] using ih
    · rw [if_neg h]
      by_cases e : p.1 = j
      · simp [List.find?_cons, e]
      · simpa [List.find?_cons, e] using ih
theorem valD_snoc (k j : Key) (y : D) : ∀ kvs : List (Key × D), (valD (kvs ++ [(k, y)]) j).isSome = (decide (k = j) || (valD kvs j).isSome)
  | [] => by
    unfold valD
    by_cases e : k = j <;> simp [List.find?_cons, e]
  | p :: r => by
    have ih := valD_snoc k j y r
    unfold valD at ih ⊢
    rw [List.cons_append]
    by_cases e : p.1 = j
    · simp [List.find?_cons, e]
    · simpa [List.find?_cons, e] using ih
theorem valD_any (k : Key) : ∀ kvs : List (Key × D), (kvs.any fun kv => decide (kv.1 = k)) = (valD kvs k).isSome
  | [] => rfl
  | p :: r => by
    have ih := valD_any k r
    unfold valD at ih ⊢
    rw [List.any_cons]
    by_cases e : p.1 = k
    · simp [List.find?_cons, e]
    · simpa [List.find?_cons, e] using ih
/-- what is in it behind d[k] = v -/
theorem valD_put (kvs : List (Key × D)) (k j : Key) (y : D) : (valD (putD kvs k y) j).isSome = (decide (k = j) || (valD kvs j).isSome) := by
  unfold putD
  by_cases a : (kvs.any fun kv => decide (kv.1 = k)) = true
  · rw [if_pos a, valD_map]
    rw [valD_any] at a
    by_cases e : k = j
    · subst e
      simp [a]
    · simp [e]
  · rw [if_neg a, valD_snoc]
theorem length_putD (kvs : List (Key × D)) (k : Key) (v : D) : (putD kvs k v).length ≤ kvs.length + 1 := by
  unfold putD
  split
  · rw [List.length_map]; omega
  · rw [List.length_append, List.length_cons, List.length_nil]; omega
theorem keyD_kV {K : PySem.W.Frag} {mg : Mg} {F : Hp} {v : V} {y : D} {k : Key} (r : Rp K mg F v y) (h : keyD y = some k) : v = kV k := by
  cases r <;> first | (cases h; rfl) | (cases h; done)
def dDc (wi : DTI) (i : Nat) (vs : List Nat) (tt : DTT) (tk tv : DTE) : DEnv → (Own → DEnv → Prop) → (Er → Prop) → Prop := fun ρ R er => wi ρ (fun ds ρ1 => ∃ Iv : Nat → List (Key × D) → Prop, Iv 0 [] ∧
  (∀ k d acc, ds[k]? = some d → Iv k acc → tt ((inE ρ1 vs).set i (some (.d d))) (fun b ρ2 => match b with
    | true => tk ρ2 (fun y ρ3 => tv ρ3 (fun z _ => ∃ key, keyD y = some key ∧ acc.length < sizeLine ∧ Iv (k + 1) (putD acc key z)) (fun _ => False)) (fun _ => False)
    | false => Iv (k + 1) acc) (fun _ => False)) ∧ ∀ acc, Iv ds.length acc → R (.dic acc) ρ1) er
section
variable {J : It} {n : Nat} {G : Hp → Prop} {Y : Nat → Hp → V → Hp → Prop}
theorem dc_it (w : Walk J n G Y) {g : TG} {tt : TT} {tk tv : TE} {vs : List Nat} {σ : L2.St} {h1 : Hp} {a : Addr} {Z : Hp → Prop} (Pv : Nat → Hp → Prop) (z0 : Pv 0 (upd h1 a (.dK []))) (zG : ∀ t h, t ≤ n → Pv t h → G h)
    (zs : ∀ t x h h', t < n → Pv t h → Y t h x h' → g x (wipe σ vs) h' fun τ h2 => wipe τ vs = wipe σ vs ∧ tt τ h2 fun b h3 =>
      if b = true then tk τ h3 fun y h4 => tv τ h4 fun z h5 => ∃ ks q, y = kV q ∧ h5 a = some (.dK ks) ∧ ks.length < sizeLine ∧ Pv (t + 1) (upd h5 a (.dK (putK ks q z)))
      else Pv (t + 1) h3) (zd : ∀ h, Pv n h → Z h) :
    ∃ W : Nat → Nat → Hp → Prop, (∃ r, W 0 r (upd h1 a (.dK []))) ∧ ∀ t r h, W t r h →
      (J.stop t h ∧ Z h) ∨ (J.go t h ∧ ∃ N : Hp → Prop, (∀ h', N h' → ∃ r', r' < r ∧ W (t + 1) r' h') ∧
        ∀ x h', J.yld t h x h' → g x (wipe σ vs) h' fun τ h2 => wipe τ vs = wipe σ vs ∧ tt τ h2 fun b h3 =>
          if b = true then tk τ h3 fun y h4 => tv τ h4 fun z h5 => ∃ ks q, y = kV q ∧ h5 a = some (.dK ks) ∧ ks.length < sizeLine ∧ N (upd h5 a (.dK (putK ks q z)))
          else N h3) := by
  refine ⟨fun t r h => r = n - t ∧ t ≤ n ∧ Pv t h, ⟨n, (Nat.sub_zero n).symm, Nat.zero_le n, z0⟩, fun t r h hw => ?_⟩
  obtain ⟨er, le, pv⟩ := hw
  have gh := zG t h le pv
  rcases Nat.lt_or_ge t n with lt | ge
  · exact .inr ⟨w.goes t h lt gh, Pv (t + 1), fun h' pv' => ⟨n - (t + 1), by omega, rfl, lt, pv'⟩, fun x h' y => zs t x h h' lt pv (w.yields t h x h' lt gh y)⟩
  · obtain rfl : t = n := Nat.le_antisymm le ge
    exact .inl ⟨w.stops h gh, zd h pv⟩
end
section
variable {X : Cx} {T : List (Addr × Str)} {Z : Zx} {tg iter kx vx : PySem.Expr} {ifs : List PySem.Expr} {scope : Scope} {own : List (Str × Nat)} {pos : Pos} {wi : DTI} {tt : DTT} {tk tv : DTE} {i : Nat}
theorem dc_up (him : i ∈ own.map (·.2)) : ∀ σ H Q, upN X T Z (dDc wi i (own.map (·.2)) tt tk tv) σ H Q → tDc (upI X T Z wi) (gName i) (upTB X.K X.mg T tt) (upB X.K X.mg T tk) (upB X.K X.mg T tv) (own.map (·.2)) σ H Q := fun σ H Q ⟨ρ, F, er, R, rep, tk0, h, hk⟩ => ⟨ρ, F, er, _, rep, tk0, h, fun J H1 F1 ds ρ1 e1 rep1 wd ⟨Iv, i0, istep, iend⟩ => fun Dd hD => by
  have nA : ¬ Am T Z.dr Dd := rep1.ok.notAm hD
  have n0 : Z.H0 Dd = none := by
    cases q : Z.H0 Dd with
    | none => rfl
    | some u =>
      have z := rep1.gr.hh Dd u q nA
      rw [hD] at z
      cases z
  have nO : ∀ (j : Nat) (c : Own), ρ1[j]? = some (some (.own c)) → σ[j]? ≠ some (some (.ref Dd)) := fun j c e z => by
    obtain ⟨p, h1, h2, _⟩ := rep1.own j c e
    rw [z] at h1
    cases h1
    obtain ⟨o, ho, _⟩ := h2.some
    rw [hD] at ho
    cases ho
  obtain ⟨k1, g1, f1⟩ := rep1.ok.laidOwn (o := .dK []) hD
  refine dc_it wd (fun k H' => ∃ F' acc xs, Fx F1 F' ∧ Rep X.K X.mg T Z ρ1 F' σ H' ∧ H' Dd = some (.dK xs) ∧ RpK X.K X.mg F' xs acc ∧ F' Dd = none ∧ Iv k acc) ?_ ?_ ?_ ?_
  · exact ⟨F1, [], [], Fx.refl F1, rep1.step g1 k1, upd_same, .nil, f1, i0⟩
  · rintro k H' _ ⟨F', acc, xs, e, r', _⟩
    exact e.trans r'.ok.sub
  · rintro k x H' H'' hlt ⟨F', acc, xs, e, r', hl, rl, fD, inv⟩ y
    obtain ⟨F'', g2, k2, d, hd, rd⟩ := y F' e r'.ok
    have r2 := r'.step g2 k2
    have hl2 : H'' Dd = some (.dK xs) := g2.hh Dd _ hl nA
    have fD2 : F'' Dd = none := g2.un k2.sub hl (fun _ z => nomatch z) nA fD
    have rin : Rep X.K X.mg T ⟨Z.dr, F'', H''⟩ ((inE ρ1 (own.map (·.2))).set i (some (.d d))) F'' ((wipe σ (own.map (·.2))).set i (some x)) H'' := Rep.set (i := i) (r2.rebase.wiped (own.map fun x : Str × Nat => x.2)) rd
    show wipe _ _ = _ ∧ upTB X.K X.mg T tt _ H'' _
    refine ⟨wipe_set him, ⟨Z.dr, F'', H''⟩, _, F'', _, rin, istep k d acc hd inv, fun b H3 F3 ρ3 e3 r3 h3 => ?_⟩
    have s3 := r2.step r3.gr r3.ok
    have hl3 : H3 Dd = some (.dK xs) := r3.gr.hh Dd _ hl2 nA
    have fD3 : F3 Dd = none := r3.gr.un r3.ok.sub hl2 (fun _ z => nomatch z) nA fD2
    cases b with
    | true =>
      refine iteT ?_
      refine ⟨⟨Z.dr, F'', H''⟩, ρ3, F3, _, r3, h3, fun v H4 F4 d4 ρ4 e4 r4 rv4 h4 => ?_⟩
      refine ⟨⟨Z.dr, F'', H''⟩, ρ4, F4, _, r4, h4, fun v5 H5 F5 d5 ρ5 e5 r5 rv5 h5 => ?_⟩
      obtain ⟨key, hkey, hz, inv5⟩ := h5
      have s5 := r2.step r5.gr r5.ok
      have hl5 : H5 Dd = some (.dK xs) := r5.gr.hh Dd _ hl2 nA
      have fD5 : F5 Dd = none := r5.gr.un r5.ok.sub hl2 (fun _ z => nomatch z) nA fD2
      have rl5 : RpK X.K X.mg F5 xs acc := rl.mono (g2.ff.trans (e3.trans (e4.trans e5)))
      refine ⟨xs, key, keyD_kV rv4 hkey, hl5, by rw [rl.length]; exact hz, F5, putD acc key d5, putK xs key v5, e.trans (g2.ff.trans (e3.trans (e4.trans e5))), s5.write fD5 n0 nA ⟨_, hl5, .inr ⟨xs, rfl⟩⟩ nO, upd_same, rl5.put rv5, fD5, inv5⟩
    | false =>
      refine iteF ?_
      exact ⟨F3, acc, xs, e.trans (g2.ff.trans e3), s3, hl3, rl.mono (g2.ff.trans e3), fD3, h3⟩
  · rintro H' ⟨F', acc, xs, e, r', hl, rl, fD, inv⟩
    exact hk Dd H' F' (.dic acc) ρ1 (e1.trans e) r' ⟨xs, hl, rl⟩ fD n0 nA nO (iend acc inv)⟩
theorem qn_dc (hc : X.calm = true) (hN : X.N.Nodup) (ok : BlkOk X.N X.env.scope scope own) (him : i ∈ own.map (·.2)) (hi : QI X T Z tg iter wi)
    (hg : ∀ (s : Shared) (H : Hp) (C : Addr) (cl : List (Str × Addr)) (fp : List Addr), PG (X.blk s H scope (compEnvC scope cl C X.env) fp) tg (gName i))
    (ht : ∀ (s : Shared) (H : Hp) (C : Addr) (cl : List (Str × Addr)) (fp : List Addr) (Z' : Zx), QTs (X.blk s H scope (compEnvC scope cl C X.env) fp) T Z' ifs tt)
    (hk : ∀ (s : Shared) (H : Hp) (C : Addr) (cl : List (Str × Addr)) (fp : List Addr) (Z' : Zx), QE (X.blk s H scope (compEnvC scope cl C X.env) fp) T Z' kx tk)
    (hv : ∀ (s : Shared) (H : Hp) (C : Addr) (cl : List (Str × Addr)) (fp : List Addr) (Z' : Zx), QE (X.blk s H scope (compEnvC scope cl C X.env) fp) T Z' vx tv) (hs : ∀ x, foldedSetIterable iter X.env x = pure x := by intro _; rfl) :
    QN X T Z (.DictComp kx vx [⟨tg, iter, ifs, 0⟩] scope pos) (dDc wi i (own.map (·.2)) tt tk tv) :=
  pe_imp (pe_dc hc hN hi ok hg (pts_blk ht) (pe_blk hk) (pe_blk hv) hs) (dc_up him)
end
/-! ### k in d, k not in d -/
def gInK (x y : D) (R : D → Prop) : Prop := ∃ ks k, y = .dic ks ∧ keyD x = some k ∧ R (.bl (valD ks k).isSome)
def gNotInK (x y : D) (R : D → Prop) : Prop := ∃ ks k, y = .dic ks ∧ keyD x = some k ∧ R (.bl (!(valD ks k).isSome))
section
variable {X : Cx} {T : List (Addr × Str)} {Z : Zx} {a b : PySem.Expr} {ta tb : DTE} {pos : Pos}
theorem RpK.isS {K : PySem.W.Frag} {mg : Mg} {F : Hp} {ks : List (Key × V)} {ds : List (Key × D)} (r : RpK K mg F ks ds) (k : Key) : (valV ks k).isSome = (valD ds k).isSome := by
  rw [← valV_any, ← valD_any]
  exact RpK.any (p := fun q => decide (q = k)) r
theorem in_up {σ : L2.St} {H : Hp} {Q : VK} : up X T Z (dBin gInK ta tb) σ H Q → tDIn (up X T Z ta) (up X T Z tb) σ H Q := fun ⟨ρ, F, er, R, rep, tk, h, hk⟩ => ⟨ρ, F, er, _, rep, tk, h, fun v H1 F1 x ρ1 e1 rep1 rv h1 => ⟨ρ1, F1, er, _, rep1, tk, h1, fun w H2 F2 y ρ2 e2 rep2 rw_ h2 => by
    obtain ⟨ks, k, rfl, hkx, hR⟩ := h2
    cases rw_ with
    | dic q1 q2 =>
      rw [keyD_kV rv hkx]
      exact ⟨_, _, rfl, DGet.k (k := k) (rep2.ok.sub _ _ q1), by rw [RpK.isS q2 k]; exact hk _ H2 F2 _ ρ2 (e1.trans e2) rep2 (.bl _) hR⟩⟩⟩
theorem notIn_up {σ : L2.St} {H : Hp} {Q : VK} : up X T Z (dBin gNotInK ta tb) σ H Q → tDNotIn (up X T Z ta) (up X T Z tb) σ H Q := fun ⟨ρ, F, er, R, rep, tk, h, hk⟩ => ⟨ρ, F, er, _, rep, tk, h, fun v H1 F1 x ρ1 e1 rep1 rv h1 => ⟨ρ1, F1, er, _, rep1, tk, h1, fun w H2 F2 y ρ2 e2 rep2 rw_ h2 => by
    obtain ⟨ks, k, rfl, hkx, hR⟩ := h2
    cases rw_ with
    | dic q1 q2 =>
      rw [keyD_kV rv hkx]
      exact ⟨_, _, rfl, DGet.k (k := k) (rep2.ok.sub _ _ q1), by rw [RpK.isS q2 k]; exact hk _ H2 F2 _ ρ2 (e1.trans e2) rep2 (.bl _) hR⟩⟩⟩
theorem qe_inK (hu : X.A.units + 64 < cLine) (ha : QE X T Z a ta) (hb : QE X T Z b tb) (hm : behindInMarks .In b = false := by rfl) : QE X T Z (.Compare a [.In] [b] pos) (dBin gInK ta tb) := pe_imp (pe_cmp (pc_din (by omega) ha hb) hm) fun _ _ _ u => in_up u
theorem qe_notInK (hu : X.A.units + 64 < cLine) (ha : QE X T Z a ta) (hb : QE X T Z b tb) (hm : behindInMarks .NotIn b = false := by rfl) : QE X T Z (.Compare a [.NotIn] [b] pos) (dBin gNotInK ta tb) := pe_imp (pe_cmp (pc_dnotin (by omega) ha hb) hm) fun _ _ _ u => notIn_up u
theorem qt_inK (hu : X.A.units + 64 < cLine) (ha : QE X T Z a ta) (hb : QE X T Z b tb) (hm : behindInMarks .In b = false := by rfl) : QT X T Z (.Compare a [.In] [b] pos) (dVal (dBin gInK ta tb)) := pt_imp (pt_cmp (pc_din (by omega) ha hb) hm) fun _ _ _ u => in_up (valUp u)
theorem qt_notInK (hu : X.A.units + 64 < cLine) (ha : QE X T Z a ta) (hb : QE X T Z b tb) (hm : behindInMarks .NotIn b = false := by rfl) : QT X T Z (.Compare a [.NotIn] [b] pos) (dVal (dBin gNotInK ta tb)) := pt_imp (pt_cmp (pc_dnotin (by omega) ha hb) hm) fun _ _ _ u => notIn_up (valUp u)
end
/-! ### a def that makes lambdas, its reading over the frame's cells -/
section
variable {P : Program} {w : World} {K : PySem.W.Frag} {mg : Mg} {base : Heap} {T : List (Addr × Str)} {x : Str} {st : Stmt} {f : Addr} {fd : FuncData} {N ps : List Str} {k : Nat} {ts : List (Str × Addr) → DTS} {pt : Pt}
theorem def_okGK {c : Addr} (hc : ∀ (oc : Value) (od : Option Addr) (fd' : FuncData) (osl : Array (Option Value)) (c' : Addr), K.lookup f = some ⟨oc, od, .func fd', osl⟩ → fd'.code = .ref c' → c' = c) (hm : mg x = some (.ref f)) (F : FunD K x x (defArgs st) (defBody st) (defScope st) [] [] f fd) (S : FnScope N ps (defScope st)) (hbd : Binds K fd ps [])
    (hb : ∀ (f : Addr) (A : Around) (outer : List Env) (s : Shared) (H : Hp) (E : XK) (Z : Zx), Room k (A.deeper (envOfC x (defScope st) s.heap.objs.size f (.ref c))) → A.guards = some [] → QSs (CxD P w K mg base N x st f (.ref c) A outer s H E) T Z (defBody st) (ts (CxD P w K mg base N x st f (.ref c) A outer s H E).env.cells))
    (hp : ∀ κ, Pure N.length ps.length (ts κ) pt) : Go P w K mg base x st ps (k + 1) (SpF K mg T pt) := by
  refine ⟨f, fd, hm, F, hbd, fun vs H Q E h => sp_len (hp []) h, fun A outer s H args us vs Q E hr hg e0 hbi r h => ?_⟩
  obtain ⟨oc, od, dV, kV, doc, pm, an, cdv, ct, osl, rfl, lk, hcd, hD, hK⟩ := F.ex
  obtain ⟨c', rfl⟩ := He.codeIn_ref hcd
  obtain rfl : c' = c := hc _ _ _ _ _ lk rfl
  exact LamX.run_ofS lk hcd S hr e0 hbi r (sp_len (hp []) h) fun hr' => body_run (fun Z => hb f A outer s H E Z hr' hg) (hp _) h
/-- .. that lets no repr be asked -/
theorem def_okCK {c : Addr} (hc : ∀ (oc : Value) (od : Option Addr) (fd' : FuncData) (osl : Array (Option Value)) (c' : Addr), K.lookup f = some ⟨oc, od, .func fd', osl⟩ → fd'.code = .ref c' → c' = c) (hm : mg x = some (.ref f)) (F : FunD K x x (defArgs st) (defBody st) (defScope st) [] [] f fd) (S : FnScope N ps (defScope st)) (hbd : Binds K fd ps [])
    (hb : ∀ (f : Addr) (A : Around) (outer : List Env) (s : Shared) (H : Hp) (E : XK) (Z : Zx), Room k (A.deeper (envOfC x (defScope st) s.heap.objs.size f (.ref c))) → QSs (CxD P w K mg base N x st f (.ref c) A outer s H E) T Z (defBody st) (ts (CxD P w K mg base N x st f (.ref c) A outer s H E).env.cells))
    (hp : ∀ κ, Pure N.length ps.length (ts κ) pt) : Go P w K mg base x st ps (k + 1) (SpF K mg T pt) := def_okGK hc hm F S hbd (fun f A outer s H E Z hr _ => hb f A outer s H E Z hr) hp
end
end DL
set_option Elab.async false
set_option linter.all false
set_option maxRecDepth 100000
set_option maxHeartbeats 4000000
namespace DL
open PySem PySem.Spec PyProof.Rows L2
/-! ### [g(w) for w in ws], the items lambdas of the frame around -/
/-- the cells of a closure, known at a block's beginning: nothing tracks them -/
structure CellsOk (Y : Cx) (L : LamSite) (cl : List (Str × Addr)) (vs : List V) : Prop where
  at_ : ∀ y c, cl.lookup y = some c → ∃ o u, Y.s_0.heap.get? c = some o ∧ o.data = .cell u ∧ Y.H_0 c = none ∧ c ∉ Y.fs ∧ c ∉ Y.ex ∧ c ∉ frs Y.stack ∧ Y.base.get? c = none
  inj : ∀ x y c, cl.lookup x = some c → cl.lookup y = some c → x = y
  has : ∀ y, L.scope.names.lookup y = some .free → ∃ c, cl.lookup y = some c
  con : ∀ (j : Nat) (n : Str) (v : V), L.ns[j]? = some n → vs[j]? = some v → ∃ c u, cl.lookup n = some c ∧ Y.s_0.heap.IsCell c (some u) ∧ RelV v u
theorem call_clo {Y : Cx} {T : List (Addr × Str)} {dr : Option (Addr × Addr)} {L : LamSite} {cl : List (Str × Addr)} {pins : List (Addr × Obj)} {σ : L2.St} {H F : Hp} {s : Shared} {vs : List V} {cs : List D} {x w : Str} {st : Stmt} {ps : List Str} {k j i : Nat} {pt : Pt} {f c' : Addr} {pm ctv : Value} {p p2 pos : Pos} {R : D → Prop}
    (I : Inv Y pins σ H s) (O : Fo Y.prog Y.w Y.K Y.mg Y.base x st ps k (SpF Y.K Y.mg T pt)) (hr : Room j Y.A) (hkj : k ≤ j) (hg : Gl Y x) (hdb : (x == ("__debug__" : Str)) = false)
    (hw : PE Y (.Name w p2) (tVar i)) (hi : σ[i]? = some (some (.ref f)))
    (hst : starEach [.Name w p2] Y.env = (false, eval (.Name w p2) Y.env) :: starEach [] Y.env)
    (C : CellsOk Y L cl vs) (k0 : FOk Y.K T dr F H) (w1 : F f = some (.frz (PySem.W.kla_obj "<lambda>" L.q L.params L.body L.scope cl pm c' ctv) (.own f))) (w2 : F c' = some (LamX.CodeO c' L.q))
    (rl : RpL Y.K Y.mg F vs cs) (h : pt [.d (.lam L cs)] (fun d => d.plainX = true ∧ R d) fun _ => False) :
    wpAny (model Y.prog Y.w) Y.A (eval (.Call (.Name x p) [.Name w p2] [] pos) Y.env) (EP Y pins σ fun v H' => ∃ F' d, Grw T dr F H F' H' ∧ FOk Y.K T dr F' H' ∧ Rp Y.K Y.mg F' v d ∧ R d) Y.xe s := by
  obtain ⟨g, fd, hm, F0, hb, ok⟩ := O.ex
  refine wpAny_Call_Name_kw (ld_glob I hg hm ?_ hdb)
  refine PySem.W.callWith_K (h₀ := Y.base) I.ok.mod.kin F0.kp ?_ hst (by rfl)
  show wpAny _ _ (spliced ((false, eval (.Name w p2) Y.env) :: backTo pos (starEach [] Y.env))) _ _ s
  refine Calls.spliced_cons (thn (hw.run pins s σ H (fun v H1 => v = .ref f ∧ H1 = H) I ⟨.ref f, hi, rfl, rfl⟩) fun u s' ⟨v, H1, I1, r1, q1⟩ => ?_)
  obtain ⟨ev, eH⟩ := q1
  subst ev
  rw [eH] at I1
  obtain rfl : u = Value.ref f := r1
  refine Calls.spliced_nil ⟨I1.kIn, ?_⟩
  have now : ∀ y c, cl.lookup y = some c → ∃ o u, s'.heap.get? c = some o ∧ o.data = .cell u ∧ H c = none := fun y c e => by
    obtain ⟨o, u, a1, a2, a3, a4, a5, _⟩ := C.at_ y c e
    exact ⟨o, u, I1.base.keep c o a1 a3 a4 a5, a2, I1.base.free c o a1 a3 a5⟩
  have con : ∀ (j : Nat) (n : Str) (v : V), L.ns[j]? = some n → vs[j]? = some v → ∃ c u, cl.lookup n = some c ∧ s'.heap.IsCell c (some u) ∧ RelV v u := fun j n v e1 e2 => by
    obtain ⟨c, u, b1, ⟨ob, b2, b3⟩, b4⟩ := C.con j n v e1 e2
    obtain ⟨o, u', a1, a2, a3, a4, a5, _⟩ := C.at_ n c b1
    exact ⟨c, u, b1, ⟨ob, I1.base.keep c ob b2 a3 a4 a5, b3⟩, b4⟩
  have tk0 : Takes Y fun _ _ _ _ => False := Takes.imp (takesF (K := Y.K) (mg := Y.mg) (T := T) (Z := ⟨none, F, H⟩)) fun _ _ _ _ z => z.elim
  generalize hQ : (fun v H' => ∃ F' d, Grw T dr F H F' H' ∧ FOk Y.K T dr F' H' ∧ Rp Y.K Y.mg F' v d ∧ R d : VK) = QV
  generalize hG : (fun b => (s'.heap.get? b).map fun o => HO.frz o (.own b) : Hp) = G
  generalize hl : (cl.map (·.1)).filterMap (cl.lookup ·) = l
  have inl : ∀ {y c}, cl.lookup y = some c → c ∈ l := fun {y c} e => hl ▸ mem_clo e
  have cell_ : ∀ {y c}, cl.lookup y = some c → ∃ o u, s'.heap.get? c = some o ∧ o.data = .cell u ∧ G c = some (.frz o (.own c)) := fun {y c} e => by
    obtain ⟨o, v, a1, a2, _⟩ := now y c e
    exact ⟨o, v, a1, a2, by rw [← hG]; show (s'.heap.get? c).map _ = _; rw [a1]; rfl⟩
  have each : ∀ b ∈ l, ∃ y, cl.lookup y = some b := fun b m => by
    rw [← hl] at m
    obtain ⟨y, _, h2⟩ := List.mem_filterMap.mp m
    exact ⟨y, h2⟩
  have trk : Trk l G H s'.heap := ⟨fun b m => by
    obtain ⟨y, e⟩ := each b m
    obtain ⟨_, _, _, _, z⟩ := now y b e
    exact z, fun b m => by
    obtain ⟨y, e⟩ := each b m
    obtain ⟨o, u, a1, a2, a3⟩ := cell_ e
    exact ⟨o, a3, a1⟩⟩
  have nfr : ∀ b ∈ l, b ∉ frs Y.stack := fun b m => by
    obtain ⟨y, e⟩ := each b m
    obtain ⟨_, _, _, _, _, _, _, z, _⟩ := C.at_ y b e
    exact z
  have nbs : ∀ b ∈ l, Y.base.get? b = none := fun b m => by
    obtain ⟨y, e⟩ := each b m
    obtain ⟨_, _, _, _, _, _, _, _, z⟩ := C.at_ y b e
    exact z
  have xF : Fx F (putL l G F) := fun b o e => (putL_out (trk.out (k0.sub b o e))).trans e
  have rF : Rp Y.K Y.mg (putL l G F) (.ref f) (.lam L cs) := by
    refine .lam (xF _ _ w1) (xF _ _ w2) ⟨fun y c e => ?_, C.inj, C.has⟩ (fun j n v e1 e2 => ?_) (rl.mono xF)
    · obtain ⟨o, u, a1, a2, a3⟩ := cell_ e
      exact ⟨o, u, (putL_in (inl e)).trans a3, a2⟩
    · obtain ⟨c, u, a1, ⟨o, a2, a3⟩, a4⟩ := con j n v e1 e2
      exact ⟨c, o, u, a1, (putL_in (inl a1)).trans (by rw [← hG]; show (s'.heap.get? _).map _ = _; rw [a2]; rfl), a3, a4⟩
  have nAl : ∀ b ∈ l, ¬ Am T dr b := fun b m => by
    rintro (⟨q, hT⟩ | ⟨a, l', e, z⟩)
    · obtain ⟨ps, h1, _⟩ := k0.tabs _ hT
      rw [trk.no b m] at h1
      cases h1
    · obtain ⟨c, r, t, big, cells, h1, h2, _⟩ := (k0.drw a l' e).at_
      rcases z with z | z
      · rw [← z, trk.no b m] at h1
        cases h1
      · rw [← z, trk.no b m] at h2
        cases h2
  have ks : FOk Y.K T dr (putL l G F) (putL l G H) := by
    have xH : ∀ b o, H b = some o → putL l G H b = some o := fun b o e => (putL_out (trk.out e)).trans e
    refine k0.grow xF (fun b o e => ?_) xH (fun b am => ?_) (fun b ps e => ?_)
    · by_cases m : b ∈ l
      · rw [putL_in m] at e ⊢
        exact e
      · rw [putL_out m] at e ⊢
        exact k0.sub b o e
    · have m : b ∉ l := fun m => nAl b m am
      rw [putL_out m]
      exact k0.ntb b am
    · by_cases m : b ∈ l
      · rw [putL_in m] at e
        obtain ⟨o, q, _⟩ := trk.at_ b m
        rw [q] at e
        cases e
      · rw [putL_out m] at e
        exact k0.tbT b ps e
  have back : ∀ {H' F' : Hp}, Grw T dr (putL l G F) (putL l G H) F' H' → FOk Y.K T dr F' H' → Pin l H' → Grw T dr F H (cutL l F') (cutL l H') ∧ FOk Y.K T dr (cutL l F') (cutL l H') ∧ Pin l F' := fun {H' F'} g kk pn => by
    have pF : Pin l F' := fun b m => by
      obtain ⟨o, q, _⟩ := trk.at_ b m
      exact ⟨o, g.ff b _ ((putL_in m).trans q)⟩
    refine ⟨⟨fun b o e am => ?_, fun b o e => ?_, fun b o e => ?_⟩, pF.fok pn kk, pF⟩
    · have m := trk.out e
      rw [cutL_out m]
      exact g.hh b o ((putL_out m).trans e) am
    · have m := trk.out (k0.sub b o e)
      rw [cutL_out m]
      exact g.ff b o ((putL_out m).trans e)
    · by_cases m : b ∈ l
      · rw [cutL_in m] at e
        cases e
      · rw [cutL_out m] at e
        rcases g.new b o e with z | z | z
        · rw [putL_out m] at z
          exact .inl z
        · rw [putL_out m] at z
          exact .inr (.inl z)
        · exact .inr (.inr z)
  have hb1 := hb s' [.ref f] I1.kIn (by
    have z := ok.len [V.ref f] _ (fun _ _ => True) (fun _ _ _ => True) ⟨_, dr, [.d (.lam L cs)], _, _, ks, .cons rF .nil, h, fun _ _ _ _ _ _ _ _ => trivial, fun _ _ _ _ _ _ _ _ _ => trivial⟩
    simpa using z)
  rw [List.append_nil] at hb1
  refine wpAny_call (codeAny_mono (ok.run Y.A Y.stack s' (putL l G H) ⟨[.ref f], []⟩ [.ref f] [.ref f] (fun v H' => Pin l H' → QV v (cutL l H')) (fun cls d H' => Pin l H' → False) (hr.mono hkj) (trk.env0 I1.env0 nfr nbs) hb1 (.cons rfl .nil) ?_) fun r s2 rc => ?_)
  · refine ⟨_, dr, [.d (.lam L cs)], (fun d => d.plainX = true ∧ R d), (fun _ => False), ks, .cons rF .nil, h, fun v H' F' d g kk rv hR pn => ?_, fun cls dd H' F' e g kk ea he pn => ?_⟩
    · obtain ⟨g1, k2, pF⟩ := back g kk pn
      rw [← hQ]
      exact ⟨_, d, g1, k2, rv.cutX pF hR.1, hR.2⟩
    · exact he.elim
  · have hq2 := cr_put_cut (r := r) (s' := s2) (Q' := QV) (E' := WE (fun _ _ _ _ => False) σ) trk nfr (fun v H' pn q => q pn) (fun cls d H' pn q => q pn) rc
    cases r with
    | error e => exact passAt tk0 σ pins H s' e s2 I1 hq2
    | ok fl =>
      cases fl with
      | ret u => exact I1.after hq2
      | next => exact False.elim hq2
      | brk => exact False.elim hq2
      | cont => exact False.elim hq2
end DL
set_option Elab.async false
set_option linter.all false
set_option maxRecDepth 100000
set_option maxHeartbeats 4000000
namespace DL
open PySem PySem.Spec PyProof.Rows L2
def dLcK (κ : List (Str × Addr)) (wi : DTI) (tab : List (LamSite × List Nat)) (pt : Pt) : DEnv → (Own → DEnv → Prop) → (Er → Prop) → Prop := fun ρ R er => wi ρ (fun ds ρ1 => ∃ Iv : Nat → List D → Prop, Iv 0 [] ∧
  (∀ k d acc, ds[k]? = some d → Iv k acc → ∃ L ix cs, d = .clo L κ ∧ (L, ix) ∈ tab ∧ ix.map (ρ1[·]?) = cs.map (fun d => some (some (DV.d d))) ∧ pt [.d (.lam L cs)] (fun y => y.plainX = true ∧ acc.length < sizeLine ∧ Iv (k + 1) (acc ++ [y])) fun _ => False) ∧
  ∀ acc, Iv ds.length acc → R (.lst acc) ρ1) er
section
variable {X : Cx} {T : List (Addr × Str)} {Z : Zx}
/-- the cells of a lambda of the frame, at the beginning of a block of it -/
theorem blk_cells {pins : List (Addr × Obj)} {σ : L2.St} {H F : Hp} {s : Shared} {scope : Scope} {ce : Env} {fp : List Addr} {L : LamSite} {ix : List Nat} {cs : List D} {ρ : DEnv} (I : Inv X pins σ H s) (hfn : ∀ y, X.fn y = true) (S : LamSt L)
    (hfree : ∀ y ∈ L.scope.names, y.2 = .free → X.env.scope.names.lookup y.1 = some .cell ∨ X.env.scope.names.lookup y.1 = some .free) (hix : ix.map (X.N[·]?) = L.ns.map some) (hcs : ix.map (ρ[·]?) = cs.map (fun d => some (some (DV.d d))))
    (dat : ∀ (i : Nat) (d : D), ρ[i]? = some (some (.d d)) → ∃ v, σ[i]? = some (some v) ∧ Rp X.K X.mg F v d) (hf : ∀ b ∈ fp, ∀ y c, X.env.cells.lookup y = some c → c ≠ b) :
    ∃ vs : List V, RpL X.K X.mg F vs cs ∧ CellsOk (X.blk s H scope ce fp) L (cloFrom X.env.cells L.scope.names []) vs := by
  obtain ⟨clo1, clo2⟩ := lam_cells I S hfree
  generalize cloFrom X.env.cells L.scope.names [] = cl at clo1 clo2
  obtain ⟨len, at1⟩ := ix_one hcs hix
  obtain ⟨m, hns, hloc⟩ := id I.loc
  obtain ⟨vs, vl, va⟩ := vals_of (P := fun j v d => Rp X.K X.mg F v d ∧ ∀ n, L.ns[j]? = some n → ∃ c u, cl.lookup n = some c ∧ s.heap.IsCell c (some u) ∧ RelV v u) cs fun j d e => by
    have hj : j < L.ns.length := len ▸ (List.getElem?_eq_some_iff.mp e).1
    obtain ⟨i', d', a1, a2, a3⟩ := at1 j _ (List.getElem?_eq_getElem hj)
    rw [a3] at e
    cases e
    obtain ⟨v, s1, r1⟩ := dat i' _ a2
    refine ⟨v, r1, fun n hn => ?_⟩
    rw [List.getElem?_eq_getElem hj] at hn
    cases hn
    have hfl := S.ns _ (List.getElem_mem hj)
    have hvis := hfree _ (PySem.mem_of_lookup hfl) rfl
    obtain ⟨u, ru, q⟩ := hloc i' _ v a1 s1 (.inr hvis)
    obtain ⟨cc, hcc⟩ := clo2 _ hfl
    have hX := clo1 _ _ hcc
    rcases q with ⟨k', _⟩ | ⟨_, c3, e', z⟩
    · have k' : X.env.scope.names.lookup _ = some .local := k'
      rcases hvis with k2 | k2 <;> rw [k2] at k' <;> cases k'
    · rw [hX] at e'
      cases e'
      exact ⟨cc, u, hcc, z, ru⟩
  refine ⟨vs, rpl_of vl fun j v d e1 e2 => (va j v d e1 e2).1, fun y c e => ?_, fun x y c e1 e2 => I.ok.inj x y c (clo1 x c e1) (clo1 y c e2), clo2, fun j n v e1 e2 => ?_⟩
  · have hX := clo1 y c e
    obtain ⟨u, o, a1, a2⟩ := I.cell y c hX
    have hcab := I.ok.cab y c (hfn y) hX
    have nst : c ∉ frs X.stack := fun hb => by
      rcases List.mem_cons.mp (I.stkSub c hb) with z | z
      · exact I.cne y c hX z
      · obtain ⟨_, o, ho, _⟩ := I.ok.funs.mem z
        exact absurd (Nat.lt_of_lt_of_le (Heap.lt_size ho) hcab) (Nat.lt_irrefl _)
    refine ⟨o, u, a1, a2, I.freeC y c hX, nst, fun z => hf c z y c hX rfl, nst, ?_⟩
    show X.base.get? c = none
    cases q : X.base.get? c with
    | none => rfl
    | some ob => exact absurd (Nat.lt_of_lt_of_le (Heap.lt_size (I.ok.bs c ob q).1) hcab) (Nat.lt_irrefl _)
  · have hj : j < cs.length := vl ▸ (List.getElem?_eq_some_iff.mp e2).1
    exact (va j v _ e2 (List.getElem?_eq_getElem hj)).2 n e1
theorem qn_lcK {x w : Str} {st : Stmt} {ps : List Str} {k j iw : Nat} {pt : Pt} {tab : List (LamSite × List Nat)} {scope : Scope} {iter : PySem.Expr} {wi : DTI} {p p2 pw pos pos2 : Pos}
    (hc : X.calm = true) (hN : X.N.Nodup) (ok : BlkOk X.N X.env.scope scope [(w, iw)]) (hi : QI X T Z (.Name w pw) iter wi) (O : Fo X.prog X.w X.K X.mg X.base x st ps k (SpF X.K X.mg T pt)) (hr : Room j X.A) (hkj : k ≤ j)
    (hg : ∀ (s : Shared) (H : Hp) (C : Addr) (cl : List (Str × Addr)) (fp : List Addr), Gl (X.blk s H scope (compEnvC scope cl C X.env) fp) x)
    (hpg : ∀ (s : Shared) (H : Hp) (C : Addr) (cl : List (Str × Addr)) (fp : List Addr), PG (X.blk s H scope (compEnvC scope cl C X.env) fp) (.Name w pw) (gName iw))
    (hw : ∀ (s : Shared) (H : Hp) (C : Addr) (cl : List (Str × Addr)) (fp : List Addr), PE (X.blk s H scope (compEnvC scope cl C X.env) fp) (.Name w p2) (tVar iw))
    (hst : ∀ (C : Addr) (cl : List (Str × Addr)), starEach [.Name w p2] (compEnvC scope cl C X.env) = (false, eval (.Name w p2) (compEnvC scope cl C X.env)) :: starEach [] (compEnvC scope cl C X.env))
    (TS : ∀ q ∈ tab, LamSt q.1 ∧ (∀ y ∈ q.1.scope.names, y.2 = .free → X.env.scope.names.lookup y.1 = some .cell ∨ X.env.scope.names.lookup y.1 = some .free) ∧ q.2.map (X.N[·]?) = q.1.ns.map some)
    (hfn : ∀ y, X.fn y = true) (hdb : (x == ("__debug__" : Str)) = false) (hs : ∀ v, foldedSetIterable iter X.env v = pure v) :
    QN X T Z (.ListComp (.Call (.Name x p) [.Name w p2] [] pos2) [⟨.Name w pw, iter, [], 0⟩] scope pos) (dLcK X.env.cells wi tab pt) := by
  refine ⟨fun pins s σ H Q I ⟨ρ, F, er, R, rep, tk, h, hk⟩ => ?_⟩
  rw [eval_ListComp]
  have cap : ∀ y ∈ scope.names, y.2 = .free → ∃ c, X.env.cells.lookup y.1 = some c := fun y my ey => (ok.free y my ey).elim (fun q => I.ok.has _ (.inl q)) fun q => I.ok.has _ (.inr q)
  have went := hi.run pins s σ H (fun J H1 => ∃ F1 ds ρ1, Fx F F1 ∧ Rep X.K X.mg T Z ρ1 F1 σ H1 ∧ WalkD X.K X.mg T Z.dr J F1 ds ∧ ∃ Iv : Nat → List D → Prop, Iv 0 [] ∧
    (∀ k d acc, ds[k]? = some d → Iv k acc → ∃ L ix cs, d = .clo L X.env.cells ∧ (L, ix) ∈ tab ∧ ix.map (ρ1[·]?) = cs.map (fun d => some (some (DV.d d))) ∧ pt [.d (.lam L cs)] (fun y => y.plainX = true ∧ acc.length < sizeLine ∧ Iv (k + 1) (acc ++ [y])) fun _ => False) ∧
    ∀ acc, Iv ds.length acc → R (.lst acc) ρ1) I ⟨ρ, F, er, _, rep, tk, h, fun J H1 F1 ds ρ1 e1 rep1 wd hd => ⟨F1, ds, ρ1, e1, rep1, wd, hd⟩⟩
  refine wpAny_comprehension_free (use := none) rfl hs (closure_ok cap) ok.kind (fun y my ey => (ok.uniq y my).trans (by rw [ey])) (thn went fun xv sA hA => thn hA fun itv sB hB => ?_)
  obtain ⟨it, fp, tn, J, HB, eit, IB, Tn, stB, fB, F1, ds, ρ1, e1, rep1, wd, Iv, i0, istep, iend⟩ := hB
  subst eit
  refine wpAny_newObj_type (newEnv_comp ?_) (Nat.zero_le _)
  generalize eD : sB.heap.objs.size = Dd
  have nD : HB Dd = none := IB.hok.fresh (Nat.le_of_eq eD)
  have nA : ¬ Am T Z.dr Dd := rep1.ok.notAm nD
  have n0 : Z.H0 Dd = none := by
    cases q : Z.H0 Dd with
    | none => rfl
    | some u =>
      have z := rep1.gr.hh Dd u q nA
      rw [nD] at z
      cases z
  have nO : ∀ (j : Nat) (c : Own), ρ1[j]? = some (some (.own c)) → σ[j]? ≠ some (some (.ref Dd)) := fun j c e z => by
    obtain ⟨q, h1, h2, _⟩ := rep1.own j c e
    rw [z] at h1
    cases h1
    obtain ⟨o, ho, _⟩ := h2.some
    rw [nD] at ho
    cases ho
  obtain ⟨k1, g1, fD1⟩ := rep1.ok.laidOwn (o := .lst []) nD
  generalize eS : ({ sB with heap := sB.heap.push { cls := .type "list", data := .seq ([] : List Value).toArray } } : Shared) = sC
  have hC : sC.heap = sB.heap.push { cls := .type "list", data := .seq ([] : List Value).toArray } := by rw [← eS]
  have IC : Inv X pins σ (upd HB Dd (.lst [])) sC := by
    subst eS eD
    exact IB.laid (t' := sB.toks) (fun b o q => Heap.get?_push_of_some _ q) (Nat.le_refl _) ⟨Nat.zero_le _, [], 0, .nil, Heap.get?_push_size _ rfl⟩
  have keepC : ∀ b o, sB.heap.get? b = some o → sC.heap.get? b = some o := fun b o q => by
    rw [hC]
    exact Heap.get?_push_of_some _ q
  have ltB : ∀ b ∈ fp, b < sB.heap.objs.size := fun b mb => by
    obtain ⟨o, q, _⟩ := Tn.obj _ _ stB b mb
    exact Heap.lt_size q
  have fC : ∀ b ∈ fp, FpOk X pins (upd HB Dd (.lst [])) b ∧ b < sC.heap.objs.size := fun b mb => by
    have lt := ltB b mb
    have ne : b ≠ Dd := fun z => absurd lt (by rw [z, ← eD]; exact Nat.lt_irrefl _)
    exact ⟨⟨(upd_ne ne).trans (fB b mb).1, (fB b mb).2⟩, by rw [hC, Heap.size_push]; exact Nat.lt_succ_of_lt lt⟩
  have stC : tn 0 sC.heap := Tn.keep _ _ _ stB fun b _ o q => keepC b o q
  have IK := block_start IC ok hN fC
  have Pg := hpg sC (upd HB Dd (.lst [])) sC.heap.objs.size (cellsFrom (sC.heap.objs.size + 1) scope.names (cloFrom X.env.cells scope.names [])) fp
  have Gg := hg sC (upd HB Dd (.lst [])) sC.heap.objs.size (cellsFrom (sC.heap.objs.size + 1) scope.names (cloFrom X.env.cells scope.names [])) fp
  have Pw := hw sC (upd HB Dd (.lst [])) sC.heap.objs.size (cellsFrom (sC.heap.objs.size + 1) scope.names (cloFrom X.env.cells scope.names [])) fp
  have St1 := hst sC.heap.objs.size (cellsFrom (sC.heap.objs.size + 1) scope.names (cloFrom X.env.cells scope.names []))
  show codeAny _ _ (.compStart (.ListComp (.Call (.Name x p) [.Name w p2] [] pos2) [⟨.Name w pw, iter, [], 0⟩] scope pos) 0 (.ref it) (.ref Dd) (compEnvC scope (cellsFrom (sC.heap.objs.size + 1) scope.names (cloFrom X.env.cells scope.names [])) sC.heap.objs.size X.env))
    (compPost (model X.prog X.w) X.A X.xe none (EP X pins σ Q) (.ref Dd) sC.heap.objs.size) { sC with heap := pushCells (sC.heap.push { cls := .type "dict", data := .dict #[] }) scope.names }
  generalize eE : compEnvC scope (cellsFrom (sC.heap.objs.size + 1) scope.names (cloFrom X.env.cells scope.names [])) sC.heap.objs.size X.env = ce at IK Pg Gg Pw St1 ⊢
  have lE : ce.locals = sC.heap.objs.size := by
    subst eE
    rfl
  generalize eH : upd HB Dd (.lst []) = HC at IC IK Pg Gg Pw fC g1 k1
  have atD : HC Dd = some (.lst []) := by rw [← eH]; exact upd_same
  generalize eK : ({ sC with heap := pushCells (sC.heap.push { cls := .type "dict", data := .dict #[] }) scope.names } : Shared) = sK at IK ⊢
  have stK : tn 0 sK.heap := Tn.keep _ _ _ stC fun b _ o q => by
    rw [← eK]
    exact pushCells_keeps _ _ _ _ (Heap.get?_push_of_some _ q)
  have outs : ∀ {τ : L2.St} {H' : Hp} {s' : Shared}, Inv (X.blk sC HC scope ce fp) [] τ H' s' → (∀ b ∈ fp, H' b = none) → ∀ b ∈ fp, FpOk (X.blk sC HC scope ce fp) [] H' b := fun {τ H' s'} J' hn b mb => by
    refine ⟨hn b mb, (J'.ok.exf b mb).1, J'.ok.exfs b mb, .inl mb, (fun y c e => (J'.ok.exf b mb).2 y c e), fun q mq => ?_⟩
    rcases List.mem_append.mp mq with z | z <;> cases z
  have lenW : (wipe σ [iw]).length = σ.length := wipe_length σ [iw]
  have hiw : iw < (wipe σ [iw]).length := by
    have q := (List.getElem?_eq_some_iff.mp (ok.ix (w, iw) List.mem_cons_self)).1
    rw [lenW, I.len]
    exact q
  have loop : codeAny (model X.prog X.w) X.A (.compLoop (.ListComp (.Call (.Name x p) [.Name w p2] [] pos2) [⟨.Name w pw, iter, [], 0⟩] scope pos) 0 (.ref it) (.ref Dd) ce) (compPost (model X.prog X.w) X.A X.xe none (EP X pins σ Q) (.ref Dd) sC.heap.objs.size) sK := by
    refine compLoop_any (fun n s' => ∃ i H', Inv (X.blk sC HC scope ce fp) [] (wipe σ [iw]) H' s' ∧ tn i s'.heap ∧ (∀ b ∈ fp, H' b = none) ∧ n = ds.length - i ∧ i ≤ ds.length ∧
      ∃ F' acc xs, Fx F1 F' ∧ Rep X.K X.mg T Z ρ1 F' σ H' ∧ H' Dd = some (.lst xs) ∧ RpL X.K X.mg F' xs acc ∧ F' Dd = none ∧ Iv i acc) ?_ ds.length
      ⟨0, HC, IK, stK, fun b mb => (fC b mb).1.1, (Nat.sub_zero _).symm, Nat.zero_le _, F1, [], [], Fx.refl F1, rep1.step g1 k1, atD, .nil, fD1, i0⟩
    rintro n s5 ⟨i, H5, I5, st5, n5, en, le5, F5, acc, xs, x5, r5, hl5, rl5, fD5, iv5⟩
    have sub5 : Fx F1 H5 := x5.trans r5.ok.sub
    by_cases lt : i < ds.length
    · refine thnF (Tn.item (X.blk sC HC scope ce fp) rfl rfl rfl hc i [] s5 _ H5 (fun _ _ => False) I5 (outs I5 n5) st5 (wd.goes i H5 lt sub5)) fun r s6 ⟨u, er6, h6⟩ => ?_
      subst er6
      refine thnF h6 fun _ s7 ⟨v7, H7, I7, rv7, y7, st7, n7⟩ => ?_
      obtain ⟨F7, g7, k7, d, hd, rd⟩ := wd.yields i H5 v7 H7 lt sub5 y7 F5 x5 r5.ok
      have r7 := r5.step g7 k7
      have P7 := I7.pinned (outs I7 n7) (Tn.obj _ _ st7)
      refine thnF (Pg.run _ s7 _ H7 v7 u (fun τ H' => τ = (wipe σ [iw]).set iw (some v7) ∧ H' = H7) P7 rv7 ⟨rfl, rfl⟩) fun _ s8 ⟨τ, H8, I8, eτ, eH8⟩ => ?_
      subst eτ eH8
      refine thnF ((pts_nil (X := X.blk sC HC scope ce fp)).run _ s8 _ H8 (fun b H' => b = true ∧ H' = H8) I8 ⟨rfl, rfl⟩) fun b s9 ⟨H9, I9, eb, eH9⟩ => ?_
      subst eb eH9
      rw [if_pos rfl]
      obtain ⟨L, ix, cs, ed, hmem, hcs, hpt⟩ := istep i d acc hd iv5
      subst ed
      cases rd with
      | clo w1 w2 =>
        rename_i f c' pm ctv
        obtain ⟨S, hfree, hix⟩ := TS _ hmem
        obtain ⟨vs, rvs, cok⟩ := blk_cells (ce := ce) (fp := fp) (scope := scope) IC hfn S hfree hix hcs r7.dat fun b mb => (fC b mb).1.2.2.2.2.1
        refine thnF (call_clo (Y := X.blk sC HC scope ce fp) (dr := Z.dr) (R := fun y => acc.length < sizeLine ∧ Iv (i + 1) (acc ++ [y])) I9 O hr hkj Gg hdb Pw (List.getElem?_set_self hiw) St1 cok k7 w1 w2 rvs hpt) fun u10 s10 ⟨v10, H10, I10, rv10, F10, d10, g10, k10, rd10, hz, iv10⟩ => ?_
        have r10 := r7.step g10 k10
        have hl7 := g7.hh Dd _ hl5 nA
        have hl10 : H10 Dd = some (.lst xs) := g10.hh Dd _ hl7 nA
        have fD7 : F7 Dd = none := g7.un k7.sub hl5 (fun _ z => nomatch z) nA fD5
        have fD10 : F10 Dd = none := g10.un k10.sub hl7 (fun _ z => nomatch z) nA fD7
        have rl10 : RpL X.K X.mg F10 xs acc := rl5.mono (g7.ff.trans g10.ff)
        refine app_ok (X := X.blk sC HC scope ce fp) I10 hl10 (by rw [rl10.length]; exact hz) rv10 fun s11 I11 => ?_
        have pin : ∀ b ∈ fp, ∀ o, s7.heap.get? b = some o → s11.heap.get? b = some o ∧ upd H10 Dd (.lst (xs ++ [v10])) b = none := fun b mb o q =>
          ⟨(I11.pin (b, o) (List.mem_append_right _ (List.mem_append_right _ (mem_pinsAt mb q)))).1, (I11.pin (b, o) (List.mem_append_right _ (List.mem_append_right _ (mem_pinsAt mb q)))).2.1⟩
        refine ⟨ds.length - (i + 1), by omega, i + 1, _, (I11.unpinned (pins := [])).weak (by rw [List.length_set]) (fun a v q => ?_), Tn.keep _ _ _ st7 fun b mb o q => (pin b mb o q).1, fun b mb => ?_, rfl, lt, F10, acc ++ [d10], xs ++ [v10],
          x5.trans (g7.ff.trans g10.ff), r10.write fD10 n0 nA ⟨_, hl10, .inl ⟨xs, rfl⟩⟩ nO, upd_same, rl10.append (.cons rd10 .nil), fD10, iv10⟩
        · have ne : iw ≠ a := fun z => (wipe_some q).2 (by rw [z]; exact List.mem_cons_self)
          rw [List.getElem?_set_ne ne]
          exact q
        · obtain ⟨o, q, _⟩ := Tn.obj _ _ st7 b mb
          exact (pin b mb o q).2
    · have ei : i = ds.length := by omega
      subst ei
      refine thnF (Tn.done (X.blk sC HC scope ce fp) rfl rfl rfl hc _ [] s5 _ H5 (fun _ _ => False) I5 (outs I5 n5) st5 (wd.stops H5 sub5)) fun r s6 ⟨er6, I6⟩ => ?_
      subst er6
      have back : Inv X pins σ H5 s6 := IC.call' (ch := fp) I6.os I6.base I6.hok I6.bare fun b mb => ⟨(fC b mb).1.2.2.2.1, (fC b mb).1.2.1, (fC b mb).1.2.2.2.2⟩
      have nL : H5 sC.heap.objs.size = none := by
        have z : H5 ce.locals = none := I6.free
        rw [lE] at z
        exact z
      obtain ⟨m, hm, _⟩ := I6.loc
      have hm : s6.heap.Ns ce.locals m := hm
      rw [lE] at hm
      obtain ⟨f0, f1, f2, f3, f4, f5⟩ := IC.fpOk (H' := H5) (Nat.le_refl _) nL
      refine ⟨m, hm, fun h'' sb => ?_⟩
      exact ⟨.ref Dd, H5, back.turned (t' := s6.toks) (fun b o nb q => (sb.2 b nb).trans q) f0 f1 f3 f4 f5, rfl, hk Dd H5 F5 (.lst acc) ρ1 (e1.trans x5) r5 ⟨xs, hl5, rl5⟩ fD5 n0 nA nO (iend acc iv5)⟩
  exact codeAny_compStart_list loop (Tn.self X.A 0 _ _ _ stK loop)
end
end DL
set_option Elab.async false
set_option linter.all false
set_option maxRecDepth 100000
set_option maxHeartbeats 2000000
namespace DL
open PySem PySem.Spec PyProof.Rows L2
/-! ### name = {k: v for ..} on one line -/
theorem dsw_true {kx vx : PySem.Expr} {gs : List Comprehension} {scope : Scope} {pos py : Pos} {y : Str} {l : Nat} {env : Env} (q1 : env.scope.kind = .function) (q2 : env.scope.names.lookup y = some .local) (q3 : (py.line == pos.line) = true)
    (q4 : (scope.names.any fun (n, k) => n == y && (k == .local || k == .cell)) = false) : swapsWith (.DictComp kx vx gs scope pos) (some (.Name y py)) l env = pure true := by
  have e1 : env.kindOf y = some .local := q2
  have e2 : env.blockKind = .function := by
    unfold Env.blockKind
    rw [q1]
    rfl
  simp only [swapsWith, e1, e2, q4, PySem.Expr.pos, q3]
  rfl
section
variable {X : Cx} {T : List (Addr × Str)} {Z : Zx} {tg iter kx vx : PySem.Expr} {ifs : List PySem.Expr} {scope : Scope} {own : List (Str × Nat)} {pos : Pos}
theorem ps_setDc {i : Nat} {y : Str} {py spos : Pos} {wi : TI} {g : TG} {tt : TT} {tk tv : TE} (hc : X.calm = true) (hN : X.N.Nodup) (hy : X.N[i]? = some y) (hyl : X.env.scope.names.lookup y = some .local)
    (hsw : swapsWith (.DictComp kx vx [⟨tg, iter, ifs, 0⟩] scope pos) (some (.Name y py)) spos.line X.env = pure true) (hi : PI X tg iter wi) (ok : BlkOk X.N X.env.scope scope own)
    (hg : ∀ (s : Shared) (H : Hp) (C : Addr) (cl : List (Str × Addr)) (fp : List Addr), PG (X.blk s H scope (compEnvC scope cl C X.env) fp) tg g) (ht : ∀ (s : Shared) (H : Hp) (C : Addr) (cl : List (Str × Addr)) (fp : List Addr), PTs (X.blk s H scope (compEnvC scope cl C X.env) fp) ifs tt)
    (hk : ∀ (s : Shared) (H : Hp) (C : Addr) (cl : List (Str × Addr)) (fp : List Addr), PE (X.blk s H scope (compEnvC scope cl C X.env) fp) kx tk) (hv : ∀ (s : Shared) (H : Hp) (C : Addr) (cl : List (Str × Addr)) (fp : List Addr), PE (X.blk s H scope (compEnvC scope cl C X.env) fp) vx tv)
    (hs : ∀ x, foldedSetIterable iter X.env x = pure x) : PS X (.Assign [.Name y py] (.DictComp kx vx [⟨tg, iter, ifs, 0⟩] scope pos) spos) (tAsg (tDc wi g tt tk tv (own.map (·.2))) (gName i)) := by
  refine ⟨fun pins s σ H D I h => ?_⟩
  rw [exec_Assign_Name_used _ _ _ _ hsw]; refine wpAny_bind (wpAny_standAt (wpAny_bind ?_))
  show wpAny _ X.A (do let _ ← comprehension (.DictComp kx vx [⟨tg, iter, ifs, 0⟩] scope pos) scope X.env (firstIterPos [⟨tg, iter, ifs, 0⟩] pos) newDict false (eval iter X.env) (some (assign (.Name y py) X.env))) _ _ s
  have asked : tDc wi g tt tk tv (own.map (·.2)) σ H fun x h1 => gName i x σ h1 D.nx := h
  have core := dc_core (Qf := fun _ t => SP X pins D .next t) (use := some (assign (.Name y py) X.env)) (pos := pos) (pos' := firstIterPos [⟨tg, iter, ifs, 0⟩] pos) hc hN I hi ok hg ht hk hv hs asked fun a C t m h1 J q hn fp => by
    show wpAny _ _ (assign (.Name y py) X.env (.ref a)) _ _ _
    refine wpAny_assign_Name (store_ok2 (v := V.ref a) J hN hy (.inl hyl) rfl (fun t2 J2 ⟨b, sb, hb⟩ => ?_) (.inr hyl))
    have ne : C ≠ b := hb.elim (fun z => z ▸ fp.2.1) fun z e => fp.2.2.2.2.1 y b z e.symm
    exact ⟨m, hn.sameBut sb ne, fun h3 sb3 => ⟨_, h1, J2.turned (t' := t2.toks) (fun c o nc e => (sb3.2 c nc).trans e) fp.1 fp.2.1 fp.2.2.2.1 fp.2.2.2.2.1 fp.2.2.2.2.2, q⟩⟩
  exact wpAny_bind (thn core fun _ t ht => wpAny_pure (wpAny_pure ht))
theorem qs_setDc (i : Nat) {wi : DTI} {j : Nat} {py spos : Pos} {y : Str} {tt : DTT} {tk tv : DTE} (hc : X.calm = true) (hN : X.N.Nodup) (ok : BlkOk X.N X.env.scope scope own) (him : j ∈ own.map (·.2)) (hi : QI X T Z tg iter wi)
    (hg : ∀ (s : Shared) (H : Hp) (C : Addr) (cl : List (Str × Addr)) (fp : List Addr), PG (X.blk s H scope (compEnvC scope cl C X.env) fp) tg (gName j))
    (ht : ∀ (s : Shared) (H : Hp) (C : Addr) (cl : List (Str × Addr)) (fp : List Addr) (Z' : Zx), QTs (X.blk s H scope (compEnvC scope cl C X.env) fp) T Z' ifs tt)
    (hk : ∀ (s : Shared) (H : Hp) (C : Addr) (cl : List (Str × Addr)) (fp : List Addr) (Z' : Zx), QE (X.blk s H scope (compEnvC scope cl C X.env) fp) T Z' kx tk)
    (hv : ∀ (s : Shared) (H : Hp) (C : Addr) (cl : List (Str × Addr)) (fp : List Addr) (Z' : Zx), QE (X.blk s H scope (compEnvC scope cl C X.env) fp) T Z' vx tv) (hy : X.N[i]? = some y := by rfl) (hyl : X.env.scope.names.lookup y = some .local := by rfl)
    (hsw : swapsWith (.DictComp kx vx [⟨tg, iter, ifs, 0⟩] scope pos) (some (.Name y py)) spos.line X.env = pure true := by exact dsw_true rfl rfl rfl (by decide +kernel)) (hs : ∀ x, foldedSetIterable iter X.env x = pure x := by intro _; rfl) :
    QS X T Z (.Assign [.Name y py] (.DictComp kx vx [⟨tg, iter, ifs, 0⟩] scope pos) spos) (dSetOwn i (dDc wi j (own.map (·.2)) tt tk tv)) :=
  ps_imp (ps_setDc hc hN hy hyl hsw hi ok hg (pts_blk ht) (pe_blk hk) (pe_blk hv) hs) fun E σ H u => dc_up him σ H _ (setOwn_up u)
end
end DL
set_option Elab.async false
set_option linter.all false
set_option maxRecDepth 100000
set_option maxHeartbeats 4000000
namespace DL
open PySem PySem.Spec PyProof.Rows L2
/-! ### lambdas with one parameter -/
structure LamSt1 (L : LamSite) (p : Str) : Prop where
  kind : L.scope.kind = .function
  co : L.scope.isCoroutine = false
  gen : L.scope.isGenerator = false
  own : ∀ y ∈ L.scope.names, y.2 ≠ .cell
  par : L.scope.names.lookup p = some .local
  ns : ∀ n ∈ L.ns, L.scope.names.lookup n = some .free
  bind : ∀ (cl : List (Str × Addr)) (pm cv ctv u : Value), bindArgs (PySem.W.kla_fn "<lambda>" L.q L.params L.body L.scope cl pm cv ctv) ⟨[u], []⟩ = pure [(p, u)]
def lamSt1B (L : LamSite) (p : Str) : Bool := decide (L.scope.kind = .function) && (!L.scope.isCoroutine && (!L.scope.isGenerator && ((L.scope.names.all fun y => !decide (y.2 = .cell)) && (decide (L.scope.names.lookup p = some .local) && L.ns.all fun n => decide (L.scope.names.lookup n = some .free)))))
theorem lamSt1_by {L : LamSite} {p : Str} (h : lamSt1B L p = true) (hb : ∀ (cl : List (Str × Addr)) (pm cv ctv u : Value), bindArgs (PySem.W.kla_fn "<lambda>" L.q L.params L.body L.scope cl pm cv ctv) ⟨[u], []⟩ = pure [(p, u)]) : LamSt1 L p := by
  unfold lamSt1B at h
  simp only [Bool.and_eq_true, Bool.not_eq_true', decide_eq_true_eq, decide_eq_false_iff_not, List.all_eq_true] at h
  obtain ⟨h1, h2, h3, h4, h5, h6⟩ := h
  exact ⟨h1, h2, h3, h4, h5, h6, hb⟩
abbrev LPt1 := List D → D → (D → Prop) → (Er → Prop) → Prop
def SpL1 (K : PySem.W.Frag) (mg : Mg) (T : List (Addr × Str)) (pt : LPt1) (vs : List V) (v : V) (H : Hp) (Q : VK) (E : XK) : Prop := ∃ (F : Hp) (dr : Option (Addr × Addr)) (cs : List D) (d : D) (R : D → Prop) (er : Er → Prop), FOk K T dr F H ∧ RpL K mg F vs cs ∧ Rp K mg F v d ∧ pt cs d R er ∧
  (∀ v H' F' d, Grw T dr F H F' H' → FOk K T dr F' H' → Rp K mg F' v d → R d → Q v H') ∧ (∀ cls dd H' F' e, Grw T dr F H F' H' → FOk K T dr F' H' → ErAt K mg F' cls dd e → er e → E cls dd H')
def lamC1 (P : Program) (w : World) (K : PySem.W.Frag) (mg : Mg) (base : Heap) (L : LamSite) (p : Str) (A : Around) (outer : List Env) (s : Shared) (H : Hp) (E : XK) (f c' : Addr) (cl : List (Str × Addr)) : Cx :=
  { lamC P w K mg base L A outer s H E f c' cl with N := p :: L.ns }
section
variable {P : Program} {w : World} {K : PySem.W.Frag} {mg : Mg} {base : Heap} {A : Around} {outer : List Env} {s : Shared} {H : Hp} {E : XK} {Q : VK} {L : LamSite} {p : Str} {f c' : Addr} {cl : List (Str × Addr)} {pm ctv : Value} {vs : List V} {v : V} {u : Value} {k : Nat} {T : List (Addr × Str)}
theorem lam_inv1 (S : LamSt1 L p) (hd : A.handled = none) (e0 : Env0 P w K mg base A outer s H) (C : CloH s.heap H L cl vs) (rv : RelV v u) {h₁ : Heap} {tk : Nat} (hns : h₁.Ns s.heap.objs.size fun y => ([(p, u)] : List (Str × Value)).reverse.lookup y) (kp : ∀ b o, s.heap.get? b = some o → h₁.get? b = some o) :
    Inv (lamC1 P w K mg base L p A outer s H E f c' cl) [] ((v :: vs).map some) H { s with heap := h₁, toks := tk } where
  ok := ⟨e0.mod, S.kind, rfl, rfl, Nat.le_refl _, C.inj, fun y hy => by
      have hy : L.scope.names.lookup y = some .cell ∨ L.scope.names.lookup y = some .free := hy
      rcases hy with hy | hy
      · exact absurd rfl (S.own _ (PySem.mem_of_lookup hy))
      · exact C.has y hy, fun y c z => absurd (show false = true from z) Bool.false_ne_true, fun _ => hd, Around.frames_deeper e0.frames, .inr ⟨rfl, rfl⟩, fun b z => (nomatch (show b ∈ ([] : List Addr) from z)), e0.bs, e0.bsz, fun b _ _ z => (nomatch (show b ∈ ([] : List Addr) from z)),
    fun b z => (nomatch (show b ∈ ([] : List Addr) from z)), e0.funs, e0.frf⟩
  os := rfl
  bare := e0.bare
  base := Un.kept kp
  loc := ⟨_, hns, fun i y v2 h1 h2 h3 => by
    cases i with
    | zero =>
      have h1 : some p = some y := h1
      have h2 : some (some v) = some (some v2) := h2
      cases h1
      cases h2
      refine ⟨u, rv, .inl ⟨S.par, ?_⟩⟩
      show ([(p, u)] : List (Str × Value)).reverse.lookup p = some u
      simp
    | succ i =>
      have h1 : L.ns[i]? = some y := h1
      have h2 : (vs.map some)[i]? = some (some v2) := h2
      rw [List.getElem?_map] at h2
      have h2 : vs[i]? = some v2 := by
        cases q : vs[i]? with
        | none => rw [q] at h2; cases h2
        | some u => rw [q] at h2; cases h2; rfl
      obtain ⟨c, u, a1, ⟨o, a2, a3⟩, a4⟩ := C.at_ i y v2 h1 h2
      exact ⟨u, a4, .inr ⟨.inr (S.ns y (List.mem_of_getElem? h1)), c, a1, o, kp _ _ a2, a3⟩⟩⟩
  cell := fun y c e => by
    obtain ⟨v, o, a1, a2⟩ := (C.no y c e).2
    exact ⟨v, o, kp _ _ a1, a2⟩
  free := e0.hok.fresh (Nat.le_refl _)
  freeC := fun y c e => (C.no y c e).1
  pin := fun q hq => nomatch (show q ∈ ([] : List (Addr × Obj)) ++ [] from hq)
  hok := e0.hok.kept kp
  len := by
    show ((v :: vs).map some).length = (p :: L.ns).length
    rw [List.length_map, List.length_cons, List.length_cons, C.len]
theorem lam_run1 (S : LamSt1 L p) (hr : Room (k + 1) A) (e0 : Env0 P w K mg base A outer s H) (C : CloH s.heap H L cl vs) (rv : RelV v u) (hf : s.heap.get? f = some (PySem.W.kla_obj "<lambda>" L.q L.params L.body L.scope cl pm c' ctv)) (hc : s.heap.CodeRec (.ref c') L.q)
    (hb : Room k (A.deeper (lamE L s.heap.objs.size f c' cl)) → ∃ t, PE (lamC1 P w K mg base L p A outer s H E f c' cl) L.body t ∧ t ((v :: vs).map some) H Q) : codeAny (model P w) A (.call (.ref f) ⟨[u], []⟩) (CR (L2.CX P w) outer P w H s Q E) s := by
  have lim : s.heap.NoLimit := e0.mod.nolimit.keeps fun b o e => (e0.bs b o e).1
  refine PySem.W.kla_callFunE hr.depth hf rfl S.co S.gen rfl hc ?_
  rw [S.bind]
  refine wpAny_pure (wpAny_newFunctionEnv S.own (fun y hy => ?_) (fun h₁ hns hsb => ⟨lim.fresh _ hsb, ?_⟩) S.kind)
  · have e : y = (p, u) := by simpa using hy
    rw [e]
    exact S.par
  show codeAny _ _ (.expr L.body (lamE L s.heap.objs.size f c' cl)) _ _
  have kp : ∀ b o, s.heap.get? b = some o → h₁.get? b = some o := fun b o e => hsb.extBut b o (Nat.ne_of_lt (Heap.lt_size e)) (Heap.get?_push_of_some _ e)
  obtain ⟨t, ht, hq⟩ := hb (hr.deeper _)
  have J := lam_inv1 (E := E) (f := f) (c' := c') (tk := s.toks + ([(p, u)] : List (Str × Value)).length) S hr.hd e0 C rv hns kp
  refine PySem.W.kla_codeExpr (wpAny_mono (ht.run [] _ _ H Q J hq) (fun v s' hv => ?_) fun e s' hv => hv)
  obtain ⟨u, H', J', rv, q⟩ := hv
  exact ⟨u, H', J'.os, J'.bare, J'.base, J'.hok, rv, q⟩
structure LamOk1 (P : Program) (w : World) (K : PySem.W.Frag) (mg : Mg) (base : Heap) (T : List (Addr × Str)) (k : Nat) (L : LamSite) (pt : LPt1) : Prop where
  run : ∀ (A : Around) (outer : List Env) (s : Shared) (H : Hp) (f c' : Addr) (cl : List (Str × Addr)) (pm ctv : Value) (vs : List V) (v : V) (u : Value) (Q : VK) (E : XK), Room k A → Env0 P w K mg base A outer s H → CloH s.heap H L cl vs → RelV v u →
    s.heap.get? f = some (PySem.W.kla_obj "<lambda>" L.q L.params L.body L.scope cl pm c' ctv) → s.heap.CodeRec (.ref c') L.q → SpL1 K mg T pt vs v H Q E → codeAny (model P w) A (.call (.ref f) ⟨[u], []⟩) (CR (L2.CX P w) outer P w H s Q E) s
theorem lam_ok1 {pt : LPt1} {te : DTE} (S : LamSt1 L p) (hb : ∀ (A : Around) (outer : List Env) (s : Shared) (H : Hp) (E : XK) (f c' : Addr) (cl : List (Str × Addr)) (Z : Zx), Room k (A.deeper (lamE L s.heap.objs.size f c' cl)) → QE (lamC1 P w K mg base L p A outer s H E f c' cl) T Z L.body te)
    (hp : ∀ cs d R er, pt cs d R er → te ((d :: cs).map fun d => some (.d d)) (fun d _ => R d) er) : LamOk1 P w K mg base T (k + 1) L pt :=
  ⟨fun A outer s H f c' cl pm ctv vs v u Q E hr e0 C rv hf hc ⟨F, dr, cs, d, R, er, kk, r, rd, h, hq, he⟩ => lam_run1 S hr e0 C rv hf hc fun hr' => ⟨_, hb A outer s H E f c' cl ⟨dr, F, H⟩ hr', _, F, er, _, rep_lam kk (.cons rd r), by
    refine Takes.imp (takes_of (X := lamC1 P w K mg base L p A outer s H E f c' cl) (E := E) rfl rfl rfl rfl) ?_
    rintro cls dd σ' H' ⟨ρ', F', e, rep', ea, hE⟩
    exact he cls dd H' F' e rep'.gr rep'.ok ea hE, hp cs d R er h, fun v H' F' d ρ' _ rep' rv hR => hq v H' F' d rep'.gr rep'.ok rv hR⟩⟩
theorem LamOk1.mono {pt : LPt1} {j : Nat} (h : LamOk1 P w K mg base T j L pt) (l : j ≤ k) : LamOk1 P w K mg base T k L pt := ⟨fun A outer s H f c' cl pm ctv vs v u Q E hr => h.run A outer s H f c' cl pm ctv vs v u Q E (hr.mono l)⟩
end
/-! ### x(e), x a def or such a lambda -/
def dCallP (FT : List (Str × Pt)) (LP : List (LamSite × LPt1)) (i : Nat) (te : DTE) : DTE := fun ρ R er => match ρ[i]? with
  | some (some (.d (.fn x))) => ∃ pt, (x, pt) ∈ FT ∧ te ρ (fun d ρ1 => pt [.d d] (fun d => R d ρ1) er) er
  | some (some (.d (.lam L cs))) => ∃ pt, (L, pt) ∈ LP ∧ cs.length = L.ns.length ∧ (∀ c ∈ cs, D.plainX c = true) ∧ te ρ (fun d ρ1 => d.plainX = true ∧ pt cs d (fun d => R d ρ1) er) er
  | _ => False
section
variable {X : Cx} {T : List (Addr × Str)} {Z : Zx} {FT : List (Str × Pt)} {LP : List (LamSite × LPt1)} {k j : Nat} {e : PySem.Expr} {te : DTE}
theorem qe_callP (i : Nat) {a : Str} {p1 pos : Pos} (FO : ∀ p ∈ FT, ∃ st ps k, k ≤ j ∧ Fo X.prog X.w X.K X.mg X.base p.1 st ps k (SpF X.K X.mg T p.2)) (LO1 : ∀ p ∈ LP, LamOk1 X.prog X.w X.K X.mg X.base T k p.1 p.2) (hr : Room j X.A) (hkj : k ≤ j) (ha : QE X T Z e te) (hN : X.N[i]? = some a := by rfl)
    (hv : Vis X.env.scope a := by first | exact Or.inl rfl | exact Or.inr (Or.inl rfl) | exact Or.inr (Or.inr rfl)) (hd : (a == ("__debug__" : Str)) = false := by decide) (hcd : (a == ("__classdict__" : Str)) = false := by decide)
    (he : starEach [e] X.env = (false, eval e X.env) :: starEach [] X.env := by rfl) (hpl : (backTo pos (starEach [] X.env)).any (·.1) = false := by rfl) :
    QE X T Z (.Call (.Name a p1) [e] [] pos) (dCallP FT LP i te) := by
  refine ⟨fun pins s σ H Q I ⟨ρ, F, er, R, rep, tk, h, hk⟩ => ?_⟩
  unfold dCallP at h
  split at h
  · rename_i x hi
    obtain ⟨pt, hm, h⟩ := h
    exact (qe_callV (FT := FT) i FO hr (qa_cons ha qa_nil he) hN hv hd hcd he hpl).run pins s σ H Q I ⟨ρ, F, er, R, rep, tk, by
      unfold dCallV
      rw [hi]
      exact ⟨pt, hm, h⟩, hk⟩
  · rename_i L cs hi
    obtain ⟨pt, hm, hlen, hpl', h⟩ := h
    obtain ⟨v, hs, rv⟩ := rep.dat i _ hi
    cases rv with
    | lam h1 h2 h3 h4 h5 =>
      rename_i f c' cl pm ctv vs
      have hpl := hpl'
      refine wpAny_Call_Name_kw (thn ((pe_var (pos := p1) (i := i) hN hv hd hcd).run pins s σ H (fun v H1 => v = .ref f ∧ H1 = H) I ⟨.ref f, hs, rfl, rfl⟩) fun u s1 ⟨v, H1, I1, r1, q1⟩ => ?_)
      obtain ⟨ev, eH⟩ := q1
      subst ev
      rw [eH] at I1
      obtain rfl : u = Value.ref f := r1
      have hF1 : s1.heap.get? f = some (PySem.W.kla_obj "<lambda>" L.q L.params L.body L.scope cl pm c' ctv) := (I1.hok f _ (rep.ok.sub _ _ h1)).1
      have asked := (pa_cons ha pa_nil he).run pos pins s1 σ H (fun ws H2 => ∃ v2 F1 x ρ1, ws = [v2] ∧ Fx F F1 ∧ Rep X.K X.mg T Z ρ1 F1 σ H2 ∧ Rp X.K X.mg F1 v2 x ∧ x.plainX = true ∧ pt cs x (fun d => R d ρ1) er) I1
        ⟨ρ, F, er, _, rep, tk, h, fun v2 H2 F1 x ρ1 e1 rep1 rx ⟨px, h2⟩ => ⟨v2, F1, x, ρ1, rfl, e1, rep1, rx, px, h2⟩⟩
      refine PySem.W.callWith_F ⟨_, _, _, _, hF1⟩ (thn asked fun us s2 hx => ?_) he (by rfl)
      obtain ⟨ws, H2, I2, rws, v2, F1, x, ρ1, ew, e1, rep1, rx, px, h2'⟩ := hx
      subst ew
      obtain ⟨u2, rfl, rv2⟩ := rws.one
      have hF : s2.heap.get? f = some (PySem.W.kla_obj "<lambda>" L.q L.params L.body L.scope cl pm c' ctv) := (I2.hok f _ (rep1.ok.sub _ _ (e1 _ _ h1))).1
      refine ⟨⟨_, _, _, _, hF⟩, ?_⟩
      show wpAny _ _ (call (.ref f) [u2]) _ _ s2
      obtain ⟨⟨oc, ws, t, hoc, hdc, hvc⟩, _, _⟩ := I2.hok c' _ (rep1.ok.sub _ _ (e1 _ _ h2))
      generalize hl : (cl.map (·.1)).filterMap (cl.lookup ·) = l
      have pF : Pin l F1 := hl ▸ pin_of (h3.mono e1)
      have pH : Pin l H2 := fun b m => by
        obtain ⟨o, q⟩ := pF b m
        exact ⟨o, rep1.ok.sub _ _ q⟩
      have nf : ∀ b ∈ l, b ∉ frs X.stack := fun b m hb => by
        obtain ⟨o, q⟩ := pH b m
        rw [I2.stkFree b hb] at q
        cases q
      have inl : ∀ {y c}, cl.lookup y = some c → c ∈ l := fun {y c} e => hl ▸ mem_clo e
      have clo : CloH s2.heap (cutL l H2) L cl vs := ⟨fun y c e => by
          obtain ⟨o, u, a1, a2⟩ := (h3.mono e1).held y c e
          exact ⟨cutL_in (inl e), u, o, (I2.hok c _ (rep1.ok.sub _ _ a1)).1, a2⟩, h3.inj, h3.has, fun j n v a1 a2 => by
          obtain ⟨c, o, u, a1, a2, a3, a4⟩ := (h4.mono e1) j n v a1 a2
          exact ⟨c, u, a1, ⟨o, (I2.hok c _ (rep1.ok.sub _ _ a2)).1, a3⟩, a4⟩, h5.length.trans hlen⟩
      have rc := (LO1 _ hm).run X.A X.stack s2 (cutL l H2) f c' cl pm ctv vs v2 u2 (fun v H' => (∀ b ∈ l, H' b = none) → Q v (putL l H2 H')) (fun cls d H' => (∀ b ∈ l, H' b = none) → Wer X.K X.mg T Z er cls d σ (putL l H2 H')) (hr.mono hkj) (pH.env0 I2.env0) clo rv2 hF ⟨c', oc, ws, t, rfl, hoc, hdc, hvc⟩ ?_
      · refine wpAny_call (codeAny_mono rc fun r s' rc => ?_)
        have rc2 := cr_cut_put (Q' := Q) (E' := WE (Wer X.K X.mg T Z er) σ) (r := r) (s' := s') pH I2.hok nf (fun v H' fr q => q fr) (fun cls d H' fr q => q fr) rc
        have hq := rc2
        cases r with
        | error e => exact passAt tk σ pins H2 s2 e s' I2 hq
        | ok fl =>
          cases fl with
          | ret u => exact I2.after hq
          | next => exact False.elim hq
          | brk => exact False.elim hq
          | cont => exact False.elim hq
      · have back : ∀ {H' F' : Hp}, Grw T Z.dr (cutL l F1) (cutL l H2) F' H' → FOk X.K T Z.dr F' H' → (∀ b ∈ l, H' b = none) → Grw T Z.dr F1 H2 (putL l F1 F') (putL l H2 H') ∧ FOk X.K T Z.dr (putL l F1 F') (putL l H2 H') ∧ Fx F' (putL l F1 F') := fun {H' F'} g kk fr => by
          have hFn : ∀ b ∈ l, F' b = none := fun b m => by
            cases q : F' b with
            | none => rfl
            | some o =>
              have z := kk.sub _ _ q
              rw [fr b m] at z
              cases z
          have nAm : ∀ b ∈ l, ¬ Am T Z.dr b := fun b m am => by
            obtain ⟨o, q⟩ := pF b m
            rw [rep1.ok.ntb b am] at q
            cases q
          have xH : Fx H' (putL l H2 H') := fun b o e => by
            have m : b ∉ l := fun m => by
              rw [fr b m] at e
              cases e
            exact (putL_out m).trans e
          have xF : Fx F' (putL l F1 F') := fun b o e => by
            have m : b ∉ l := fun m => by
              rw [hFn b m] at e
              cases e
            exact (putL_out m).trans e
          refine ⟨⟨fun b o e am => ?_, fun b o e => ?_, fun b o e => ?_⟩, kk.grow xF (fun b o e => ?_) xH (fun b am => ?_) (fun b ps e => ?_), xF⟩
          · by_cases m : b ∈ l
            · exact (putL_in m).trans e
            · rw [putL_out m]
              exact g.hh b o ((cutL_out m).trans e) am
          · by_cases m : b ∈ l
            · exact (putL_in m).trans e
            · rw [putL_out m]
              exact g.ff b o ((cutL_out m).trans e)
          · by_cases m : b ∈ l
            · rw [putL_in m] at e
              exact .inl e
            · rw [putL_out m] at e
              rcases g.new b o e with z | z | z
              · rw [cutL_out m] at z
                exact .inl z
              · rw [cutL_out m] at z
                exact .inr (.inl z)
              · exact .inr (.inr z)
          · by_cases m : b ∈ l
            · rw [putL_in m] at e ⊢
              exact rep1.ok.sub _ _ e
            · rw [putL_out m] at e ⊢
              exact kk.sub _ _ e
          · by_cases m : b ∈ l
            · exact absurd am (nAm b m)
            · rw [putL_out m]
              exact kk.ntb b am
          · by_cases m : b ∈ l
            · rw [putL_in m] at e
              obtain ⟨o, q⟩ := pH b m
              rw [q] at e
              cases e
            · rw [putL_out m] at e
              exact kk.tbT b ps e
        refine ⟨cutL l F1, Z.dr, cs, x, fun d => R d ρ1, er, pF.fok pH rep1.ok, (h5.mono e1).cutX pF hpl, rx.cutX pF px, h2', ?_, ?_⟩
        · rintro v H' F' d g kk rv hR fr
          obtain ⟨g1, k1, x1⟩ := back g kk fr
          exact hk v _ _ d ρ1 (e1.trans g1.ff) (rep1.step g1 k1) (rv.mono x1) hR
        · rintro cls dd H' F' e g kk ea he fr
          obtain ⟨g1, k1, x1⟩ := back g kk fr
          exact ⟨ρ1, _, e, rep1.step g1 k1, ea.mono x1, he⟩
  · exact h.elim
end
end DL
set_option Elab.async false
set_option linter.all false
set_option maxRecDepth 100000
set_option maxHeartbeats 4000000
namespace DL
open PySem PySem.Spec PyProof.Rows L2
/-! ### x(lambda: ..) that holds data, the draws, lambdas of the frame -/
def lamDis (L L' : LamSite) : Bool := L.scope.names.all fun y => L'.scope.names.all fun z => !(decide (y.2 = .free) && (decide (z.2 = .free) && decide (y.1 = z.1)))
theorem lamDis_ne {L L' : LamSite} (h : lamDis L L' = true) {y z : Str} (hy : (y, NameKind.free) ∈ L.scope.names) (hz : (z, NameKind.free) ∈ L'.scope.names) (e : y = z) : False := by
  have q := List.all_eq_true.mp (List.all_eq_true.mp h _ hy) _ hz
  rw [e] at q
  simp at q
def capOk (κ : List (Str × Addr)) (tab : List (LamSite × List Nat)) (L : LamSite) (ρ : DEnv) (i : Nat) (c : Option D) : Prop := (ρ[i]? = some (some .drw) ∧ c = none) ∨ (∃ d, ρ[i]? = some (some (.d d)) ∧ c = some d) ∨
  ∃ L' ix' cs', ρ[i]? = some (some (.d (.clo L' κ))) ∧ c = some (.lam L' cs') ∧ (L', ix') ∈ tab ∧ ix'.map (ρ[·]?) = cs'.map (fun d => some (some (DV.d d))) ∧ lamDis L L' = true
def capR (K : PySem.W.Frag) (mg : Mg) (F : Hp) (dr : Option (Addr × Addr)) (κ : List (Str × Addr)) (tab : List (LamSite × List Nat)) (L : LamSite) (ρ : DEnv) (v : V) (c : Option D) : Prop := (c = none ∧ ∃ a l, dr = some (a, l) ∧ v = .ref a) ∨ (∃ d, c = some d ∧ Rp K mg F v d) ∨
  ∃ L' ix' cs', c = some (.lam L' cs') ∧ Rp K mg F v (.clo L' κ) ∧ (L', ix') ∈ tab ∧ ix'.map (ρ[·]?) = cs'.map (fun d => some (some (DV.d d))) ∧ lamDis L L' = true
def dMkX (κ : List (Str × Addr)) (tab : List (LamSite × List Nat)) (L : LamSite) (ix : List Nat) (pt : Pt) : DTE := fun ρ R er => ∃ cs : List (Option D), Paired (capOk κ tab L ρ) ix cs ∧ pt [.lam L cs] (fun d => d.plainX = true ∧ R d ρ) (fun e => e.pl = true ∧ er e)
/-- x(), x such a lambda -/
def dLamX (LT : List (LamSite × LPt)) (LTD : List (LamSite × LPtD)) (i : Nat) : DTE := fun ρ R er => match ρ[i]? with
  | some (some (.lam L cs)) => ∃ pt, (L, pt) ∈ LTD ∧ cs.length = L.ns.length ∧ pt cs (fun d => R d ρ) er
  | _ => dLam LT i ρ R er
theorem cap_one {κ : List (Str × Addr)} {tab : List (LamSite × List Nat)} {L : LamSite} {ρ : DEnv} : ∀ {ix : List Nat} {cs : List (Option D)} {ns : List Str} {N : List Str}, Paired (capOk κ tab L ρ) ix cs → ix.map (N[·]?) = ns.map some →
    cs.length = ns.length ∧ ∀ (j : Nat) (n : Str), ns[j]? = some n → ∃ (i : Nat) (d : Option D), N[i]? = some n ∧ capOk κ tab L ρ i d ∧ cs[j]? = some d
  | [], [], [], _, _, _ => ⟨rfl, fun j n e => by simp at e⟩
  | [], [], _ :: _, _, _, h => by cases h
  | _ :: _, _ :: _, [], _, _, h => by cases h
  | i :: ix, c :: cs, m :: ns, N, .cons h1 h3, h2 => by
    simp only [List.map_cons, List.cons.injEq] at h2
    obtain ⟨q1, q2⟩ := cap_one (ix := ix) (cs := cs) (ns := ns) (N := N) h3 h2.2
    refine ⟨by rw [List.length_cons, List.length_cons, q1], fun j n e => ?_⟩
    cases j with
    | zero =>
      simp at e
      subst e
      exact ⟨i, c, h2.1, h1, rfl⟩
    | succ j =>
      obtain ⟨i', d, a1, a2, a3⟩ := q2 j n (by simpa using e)
      exact ⟨i', d, a1, a2, by simpa using a3⟩
section
variable {X : Cx} {T : List (Addr × Str)} {Z : Zx} {LT : List (LamSite × LPt)} {LTD : List (LamSite × LPtD)} {k j : Nat}
theorem lam_cells1 {pins : List (Addr × Obj)} {σ : L2.St} {H : Hp} {s : Shared} {L : LamSite} (I : Inv X pins σ H s) (hfree : ∀ y ∈ L.scope.names, y.2 = .free → X.env.scope.names.lookup y.1 = some .cell ∨ X.env.scope.names.lookup y.1 = some .free) :
    (∀ y c, (cloFrom X.env.cells L.scope.names []).lookup y = some c → X.env.cells.lookup y = some c) ∧ (∀ y, L.scope.names.lookup y = some .free → ∃ c, (cloFrom X.env.cells L.scope.names []).lookup y = some c) := by
  have hl : ∀ y ∈ L.scope.names, y.2 = .free → ∃ c, X.env.cells.lookup y.1 = some c := fun y hy e => by
    rcases hfree y hy e with k | k
    · exact I.ok.has _ (.inl k)
    · exact I.ok.has _ (.inr k)
  refine ⟨fun y c e => ?_, fun y e => ?_⟩
  · rcases cloFrom_mem (PySem.mem_of_lookup e) with hm | ⟨h1, h2⟩
    · cases hm
    · obtain ⟨c1, hc⟩ := hl _ h1 rfl
      have hc : X.env.cells.lookup y = some c1 := hc
      have e2 : c = c1 := by
        rw [h2, hc] <;> rfl
      rw [e2]
      exact hc
  · have hy : (y, NameKind.free) ∈ L.scope.names := PySem.mem_of_lookup e
    exact mem_lookup (cloFrom_has (cells := X.env.cells) (acc := []) hy)
theorem qe_mkLamX {L : LamSite} {tab : List (LamSite × List Nat)} {x : Str} {st : Stmt} {ps : List Str} {ix : List Nat} {pt : Pt} {c P : Addr} {p lpos pos : Pos} (O : Fo X.prog X.w X.K X.mg X.base x st ps k (SpF X.K X.mg T pt)) (hr : Room j X.A) (hkj : k ≤ j) (hg : Gl X x) (S : LamSt L)
    (hq : X.env.qual ++ "<lambda>" = L.q) (TB : LamX.TabB X.base X.mg c P) (hcode : X.env.code = .ref c) (hmT : (P, L.q) ∈ T) (hu : ∀ p ∈ T, p.1 = P → p.2 = L.q) (hfree : ∀ y ∈ L.scope.names, y.2 = .free → X.env.scope.names.lookup y.1 = some .cell ∨ X.env.scope.names.lookup y.1 = some .free)
    (TS : ∀ q ∈ tab, (∀ y ∈ q.1.scope.names, y.2 = .free → X.env.scope.names.lookup y.1 = some .cell ∨ X.env.scope.names.lookup y.1 = some .free) ∧ q.2.map (X.N[·]?) = q.1.ns.map some ∧ (∀ n ∈ q.1.ns, q.1.scope.names.lookup n = some .free)) (hix : ix.map (X.N[·]?) = L.ns.map some) (hfn : ∀ y, X.fn y = true := by exact fun _ => rfl) (hdef : defaultsOf L.params X.env = ([], []) := by rfl) (hdb : (x == ("__debug__" : Str)) = false := by decide) :
    QE X T Z (.Call (.Name x p) [.Lambda L.params L.body L.scope lpos] [] pos) (dMkX X.env.cells tab L ix pt) := by
  obtain ⟨g, fd, hm, F0, hb, ok⟩ := O.ex
  refine ⟨fun pins s σ H Q I ⟨ρ, F, er, R, rep, tk, ⟨cs, hcs, h⟩, hk⟩ => ?_⟩
  refine wpAny_Call_Name_kw (ld_glob I hg hm ?_ hdb)
  refine PySem.W.callWith_K (h₀ := X.base) I.ok.mod.kin F0.kp ?_ (by rfl) (by rfl)
  show wpAny _ _ (spliced ((false, eval (.Lambda L.params L.body L.scope lpos) X.env) :: backTo pos (starEach [] X.env))) _ _ s
  refine Calls.spliced_cons (lam_new I TB hcode hq hmT hu rep.ok.tabs hdef (fun y hy e => by
    rcases hfree y hy e with k | k
    · exact I.ok.has _ (.inl k)
    · exact I.ok.has _ (.inr k)) fun f c' pm ctv H1 s' I1 eN T1 hf hfn1 hfs tbb hco => ?_)
  refine Calls.spliced_nil ⟨I1.kIn, ?_⟩
  -- the state with the lambda made
  have notT : ∀ b o, F b = some o → ∀ qs, o ≠ .tbl qs := fun b o e qs z => by
    obtain ⟨q, hT⟩ := rep.ok.tbT b qs (z ▸ rep.ok.sub b o e)
    rw [rep.ok.ntb b (.inl ⟨q, hT⟩)] at e
    cases e
  have drN : ∀ b o, H b = some o → ¬ (∃ q, (b, q) ∈ T) → H1 b = some o := fun b o e n => eN b o e fun qs z => n (rep.ok.tbT b qs (z ▸ e))
  obtain ⟨clo1, clo2⟩ := lam_cells1 I1 hfree
  generalize hcl : cloFrom X.env.cells L.scope.names [] = cl at clo1 clo2 hf
  have sub1 : Fx F H1 := fun b o e => eN b o (rep.ok.sub b o e) (notT b o e)
  obtain ⟨len, at1⟩ := cap_one hcs hix
  obtain ⟨m, hns, hloc⟩ := id I1.loc
  have cellOf : ∀ {i' : Nat} {n : Str} {v : V} {L' : LamSite} {cl' : List (Str × Addr)}, X.N[i']? = some n → σ[i']? = some (some v) → L'.scope.names.lookup n = some .free → (∀ y ∈ L'.scope.names, y.2 = .free → X.env.scope.names.lookup y.1 = some .cell ∨ X.env.scope.names.lookup y.1 = some .free) →
      (∀ y c, cl'.lookup y = some c → X.env.cells.lookup y = some c) → (∀ y, L'.scope.names.lookup y = some .free → ∃ c, cl'.lookup y = some c) → ∃ c u, cl'.lookup n = some c ∧ s'.heap.IsCell c (some u) ∧ RelV v u := fun {i' n v L' cl'} a1 s1 hfl hfr c1 c2 => by
    have hvis := hfr _ (PySem.mem_of_lookup hfl) rfl
    obtain ⟨u, ru, q⟩ := hloc i' _ v a1 s1 (.inr hvis)
    obtain ⟨cc, hcc⟩ := c2 _ hfl
    have hX := c1 _ _ hcc
    rcases q with ⟨k', _⟩ | ⟨_, c3, e', z⟩
    · have k' : X.env.scope.names.lookup _ = some .local := k'
      rcases hvis with k2 | k2 <;> rw [k2] at k' <;> cases k'
    · rw [hX] at e'
      cases e'
      exact ⟨cc, u, hcc, z, ru⟩
  obtain ⟨vs, vl, va⟩ := vals_ofD (P := fun j v d => capR X.K X.mg F Z.dr X.env.cells tab L ρ v d ∧ ∀ n, L.ns[j]? = some n → ∃ c u, cl.lookup n = some c ∧ s'.heap.IsCell c (some u) ∧ RelV v u) cs fun j d e => by
    have hj : j < L.ns.length := len ▸ (List.getElem?_eq_some_iff.mp e).1
    obtain ⟨i, d', a1, a2, a3⟩ := at1 j _ (List.getElem?_eq_getElem hj)
    rw [a3] at e
    cases e
    obtain ⟨v, s1, r1⟩ : ∃ v, σ[i]? = some (some v) ∧ capR X.K X.mg F Z.dr X.env.cells tab L ρ v d := by
      rcases a2 with ⟨q1, q2⟩ | ⟨x, q1, q2⟩ | ⟨L', ix', cs', q1, q2, q3⟩
      · obtain ⟨a, l, z1, z2⟩ := rep.drs i q1
        exact ⟨_, z2, .inl ⟨q2, a, l, z1, rfl⟩⟩
      · obtain ⟨v, s1, r1⟩ := rep.dat i x q1
        exact ⟨v, s1, .inr (.inl ⟨x, q2, r1⟩)⟩
      · obtain ⟨v, s1, r1⟩ := rep.dat i _ q1
        exact ⟨v, s1, .inr (.inr ⟨L', ix', cs', q2, r1, q3⟩)⟩
    refine ⟨v, r1, fun n hn => ?_⟩
    rw [List.getElem?_eq_getElem hj] at hn
    cases hn
    exact cellOf a1 s1 (S.ns _ (List.getElem_mem hj)) hfree clo1 clo2
  -- what is known for the time of the call
  generalize hG : (fun b => (s'.heap.get? b).map fun o => HO.frz o (.own b) : Hp) = G
  generalize hl : f :: clsOf X.env.cells = l
  have inE : ∀ {y c}, X.env.cells.lookup y = some c → c ∈ l := fun {y c} e => hl ▸ List.mem_cons_of_mem _ (mem_clo e)
  have inl : ∀ {y c}, cl.lookup y = some c → c ∈ l := fun {y c} e => inE (clo1 y c e)
  have cell_ : ∀ {y c}, X.env.cells.lookup y = some c → ∃ o u, s'.heap.get? c = some o ∧ o.data = .cell u ∧ G c = some (.frz o (.own c)) := fun {y c} e => by
    obtain ⟨v, o, a1, a2⟩ := I1.cell y c e
    exact ⟨o, v, a1, a2, by rw [← hG]; show (s'.heap.get? c).map _ = _; rw [a1]; rfl⟩
  have each : ∀ b ∈ l, b = f ∨ ∃ y, X.env.cells.lookup y = some b := fun b m => by
    rw [← hl] at m
    rcases List.mem_cons.mp m with e | m
    · exact .inl e
    · obtain ⟨y, _, h2⟩ := List.mem_filterMap.mp m
      exact .inr ⟨y, h2⟩
  have trk : Trk l G H1 s'.heap := ⟨fun b m => by
    rcases each b m with e | ⟨y, e⟩
    · rw [e]
      exact hfn1
    · exact I1.freeC y b e, fun b m => by
    rcases each b m with e | ⟨y, e⟩
    · subst e
      exact ⟨_, by rw [← hG]; show (s'.heap.get? _).map _ = _; rw [hf]; rfl, hf⟩
    · obtain ⟨o, u, a1, a2, a3⟩ := cell_ e
      exact ⟨o, a3, a1⟩⟩
  have nfr : ∀ b ∈ l, b ∉ frs X.stack := fun b m hb => by
    rcases each b m with e | ⟨y, e⟩
    · rcases List.mem_cons.mp (I.stkSub b hb) with z | z
      · exact absurd I.lt (by rw [← z, e]; exact Nat.not_lt.mpr hfs)
      · exact I.nofs hfs (e ▸ z)
    · rcases List.mem_cons.mp (I1.stkSub b hb) with z | z
      · exact I1.cne y b e z
      · obtain ⟨_, o, ho, _⟩ := I1.ok.funs.mem z
        exact absurd (Nat.lt_of_lt_of_le (Heap.lt_size ho) (I1.ok.cab y b (hfn y) e)) (Nat.lt_irrefl _)
  have nbs : ∀ b ∈ l, X.base.get? b = none := fun b m => by
    cases q : X.base.get? b with
    | none => rfl
    | some o =>
      exfalso
      have q1 := I1.bk b o q
      rcases each b m with e | ⟨y, e⟩
      · exact absurd (Nat.lt_of_lt_of_le (Heap.lt_size (I.bk b o q)) (e ▸ hfs)) (Nat.lt_irrefl _)
      · have q2 := (I1.ok.bs b o q).1
        exact absurd (Nat.lt_of_lt_of_le (Heap.lt_size q2) (I1.ok.cab y b (hfn y) e)) (Nat.lt_irrefl _)
  have sF : LamAt X.K X.mg (putL l G (upd F c' (LamX.CodeO c' L.q))) Z.dr (.ref f) L cs := by
    have xF : Fx F (putL l G (upd F c' (LamX.CodeO c' L.q))) := fun b o e => by
      have m : b ∉ l := trk.out (sub1 b o e)
      rw [putL_out m]
      by_cases hb : b = c'
      · subst hb
        rw [upd_same]
        exact hco.symm.trans (sub1 _ _ e)
      · rw [upd_ne hb]
        exact e
    have nc : c' ∉ l := trk.out hco
    have fl : f ∈ l := hl ▸ List.mem_cons_self
    have inC : ∀ b, b ∈ clsOf cl → ∃ y, cl.lookup y = some b := fun b m => by
      obtain ⟨y, _, h2⟩ := List.mem_filterMap.mp m
      exact ⟨y, h2⟩
    have xC : Fx F (cutL (clsOf cl) (putL l G (upd F c' (LamX.CodeO c' L.q)))) := fun b o e => by
      have nb : b ∉ clsOf cl := fun m => by
        obtain ⟨y, h2⟩ := inC b m
        have z := I1.freeC y b (clo1 y b h2)
        rw [sub1 b o e] at z
        cases z
      unfold cutL
      rw [if_neg nb]
      exact xF b o e
    have cap : ∀ {v : V} {d : Option D}, capR X.K X.mg F Z.dr X.env.cells tab L ρ v d → RpB X.K X.mg (cutL (clsOf cl) (putL l G (upd F c' (LamX.CodeO c' L.q)))) Z.dr v d := fun {v d} h => by
      rcases h with ⟨rfl, a, l', z1, rfl⟩ | ⟨x, rfl, r1⟩ | ⟨L', ix', cs', rfl, r1, ht, hc', hdis⟩
      · exact .drw z1
      · exact .d (r1.mono xC)
      · obtain ⟨hfr', hix', hns'⟩ := TS _ ht
        cases r1 with
        | clo w1 w2 =>
          rename_i f2 c2 pm2 ctv2
          obtain ⟨k1, k2⟩ := lam_cells1 I1 hfr'
          have fr2 : ∀ {y c}, (cloFrom X.env.cells L'.scope.names []).lookup y = some c → (y, NameKind.free) ∈ L'.scope.names := fun {y c} e => by
            rcases cloFrom_mem (PySem.mem_of_lookup e) with z | ⟨z, _⟩
            · cases z
            · exact z
          generalize hcl2 : cloFrom X.env.cells L'.scope.names [] = cl2 at k1 k2 w1 fr2
          obtain ⟨len2, at2⟩ := ix_one hc' hix'
          obtain ⟨vs2, vl2, va2⟩ := vals_of (P := fun j v d => Rp X.K X.mg F v d ∧ ∀ n, L'.ns[j]? = some n → ∃ c u, cl2.lookup n = some c ∧ s'.heap.IsCell c (some u) ∧ RelV v u) cs' fun j d e => by
            have hj : j < L'.ns.length := len2 ▸ (List.getElem?_eq_some_iff.mp e).1
            obtain ⟨i, d', a1, a2, a3⟩ := at2 j _ (List.getElem?_eq_getElem hj)
            rw [a3] at e
            cases e
            obtain ⟨v, s1, r1⟩ := rep.dat i _ a2
            refine ⟨v, r1, fun n hn => ?_⟩
            rw [List.getElem?_eq_getElem hj] at hn
            cases hn
            exact cellOf a1 s1 (hns' _ (List.getElem_mem hj)) hfr' k1 k2
          have keep : ∀ {y c}, cl2.lookup y = some c → ∃ o u, s'.heap.get? c = some o ∧ o.data = .cell u ∧ cutL (clsOf cl) (putL l G (upd F c' (LamX.CodeO c' L.q))) c = some (.frz o (.own c)) := fun {y c} e => by
            obtain ⟨o, u, a1, a2, a3⟩ := cell_ (k1 y c e)
            have nb : c ∉ clsOf cl := fun m => by
              obtain ⟨y', h2⟩ := inC c m
              have ey := I1.ok.inj y' y c (clo1 y' c h2) (k1 y c e)
              have hf1 : (y', NameKind.free) ∈ L.scope.names := by
                rw [← hcl] at h2
                rcases cloFrom_mem (PySem.mem_of_lookup h2) with z | ⟨z, _⟩
                · cases z
                · exact z
              exact lamDis_ne hdis hf1 (fr2 e) ey
            refine ⟨o, u, a1, a2, ?_⟩
            unfold cutL
            rw [if_neg nb]
            exact (putL_in (inE (k1 y c e))).trans a3
          refine .d (.lam (xC _ _ w1) (xC _ _ w2) ⟨fun y c e => ?_, fun x y c e1 e2 => I1.ok.inj x y c (k1 x c e1) (k1 y c e2), k2⟩ (fun j n v e1 e2 => ?_) (rpl_of vl2 fun j v d e1 e2 => ((va2 j v d e1 e2).1).mono xC))
          · obtain ⟨o, u, a1, a2, a3⟩ := keep e
            exact ⟨o, u, a3, a2⟩
          · have hj : j < cs'.length := vl2 ▸ (List.getElem?_eq_some_iff.mp e2).1
            obtain ⟨c, u, a1, ⟨o, a2, a3⟩, a4⟩ := (va2 j v _ e2 (List.getElem?_eq_getElem hj)).2 n e1
            obtain ⟨o', u', b1, b2, b3⟩ := keep a1
            rw [a2] at b1
            cases b1
            exact ⟨c, o, u, a1, b3, a3, a4⟩
    refine .mk ((putL_in fl).trans (by rw [← hG]; show (s'.heap.get? _).map _ = _; rw [hf]; rfl)) ((putL_out nc).trans upd_same) ⟨fun y c e => ?_, fun x y c e1 e2 => I1.ok.inj x y c (clo1 x c e1) (clo1 y c e2), clo2⟩ (fun j n v e1 e2 => ?_) (rpl_ofD vl fun j v d e1 e2 => cap (va j v d e1 e2).1)
    · obtain ⟨o, u, a1, a2, a3⟩ := cell_ (clo1 _ _ e)
      exact ⟨o, u, (putL_in (inl e)).trans a3, a2⟩
    · have hj : j < cs.length := vl ▸ (List.getElem?_eq_some_iff.mp e2).1
      obtain ⟨c, u, a1, ⟨o, a2, a3⟩, a4⟩ := (va j v _ e2 (List.getElem?_eq_getElem hj)).2 n e1
      exact ⟨c, o, u, a1, (putL_in (inl a1)).trans (by rw [← hG]; show (s'.heap.get? _).map _ = _; rw [a2]; rfl), a3, a4⟩
  have rF := sF
  have tb1 : ∀ b ps, H1 b = some (.tbl ps) → ∃ q, (b, q) ∈ T := fun b ps e => by
    obtain ⟨ps', e'⟩ := tbb b ps e
    exact rep.ok.tbT b ps' e'
  have nAl : ∀ b ∈ l, ¬ Am T Z.dr b := fun b m => by
    rintro (⟨q, hT⟩ | ⟨a, l', e, z⟩)
    · obtain ⟨ps, h1, _⟩ := T1 _ hT
      rw [trk.no b m] at h1
      cases h1
    · obtain ⟨c, r, t, big, cells, h1, h2, _⟩ := (rep.ok.drw a l' e).at_
      have g1 := eN _ _ h1 fun _ z => nomatch z
      have g2 := eN _ _ h2 fun _ z => nomatch z
      rcases z with z | z
      · rw [← z, trk.no b m] at g1
        cases g1
      · rw [← z, trk.no b m] at g2
        cases g2
  have nAc : ¬ Am T Z.dr c' := by
    rintro (⟨q, hT⟩ | ⟨a, l', e, z⟩)
    · obtain ⟨ps, h1, _⟩ := T1 _ hT
      rw [hco] at h1
      exact LamX.codeO_ne ps (Option.some.inj h1)
    · obtain ⟨c, r, t, big, cells, h1, h2, _⟩ := (rep.ok.drw a l' e).at_
      have g1 := eN _ _ h1 fun _ z => nomatch z
      have g2 := eN _ _ h2 fun _ z => nomatch z
      rcases z with z | z
      · rw [← z, hco] at g1
        cases g1
      · rw [← z, hco] at g2
        cases g2
  have drw1 : ∀ a l', Z.dr = some (a, l') → DrawAt X.K F H1 a l' := fun a l' e => by
    obtain ⟨c, r, t, big, cells, h1, h2, _⟩ := (rep.ok.drw a l' e).at_
    exact (rep.ok.drw a l' e).mono (Fx.refl F) ((eN _ _ h1 fun _ z => nomatch z).trans h1.symm) ((eN _ _ h2 fun _ z => nomatch z).trans h2.symm)
  have k1 : FOk X.K T Z.dr F H1 := ⟨sub1, rep.ok.ntb, T1, drw1, tb1⟩
  have g01 : Grw T Z.dr F H F H1 := ⟨fun b o e m => eN b o e fun qs z => by
      obtain ⟨q, hT⟩ := rep.ok.tbT b qs (z ▸ e)
      exact m (.inl ⟨q, hT⟩), Fx.refl F, fun b o e => .inl e⟩
  have ks : FOk X.K T Z.dr (putL l G (upd F c' (LamX.CodeO c' L.q))) (putL l G H1) := by
    have xH : ∀ b o, H1 b = some o → putL l G H1 b = some o := fun b o e => (putL_out (trk.out e)).trans e
    refine k1.grow (fun b o e => ?_) (fun b o e => ?_) xH (fun b am => ?_) (fun b ps e => ?_)
    · rw [putL_out (trk.out (sub1 b o e))]
      by_cases hb : b = c'
      · subst hb
        rw [upd_same]
        exact hco.symm.trans (sub1 _ _ e)
      · rw [upd_ne hb]
        exact e
    · by_cases m : b ∈ l
      · rw [putL_in m] at e ⊢
        exact e
      · rw [putL_out m] at e ⊢
        by_cases hb : b = c'
        · subst hb
          rw [upd_same] at e
          exact hco.trans e
        · rw [upd_ne hb] at e
          exact sub1 b o e
    · have m : b ∉ l := fun m => nAl b m am
      have hb : b ≠ c' := fun z => nAc (z ▸ am)
      rw [putL_out m, upd_ne hb]
      exact rep.ok.ntb b am
    · by_cases m : b ∈ l
      · rw [putL_in m] at e
        obtain ⟨o, q, _⟩ := trk.at_ b m
        rw [q] at e
        cases e
      · rw [putL_out m] at e
        exact tb1 b ps e
  have back : ∀ {H' F' : Hp}, Grw T Z.dr (putL l G (upd F c' (LamX.CodeO c' L.q))) (putL l G H1) F' H' → FOk X.K T Z.dr F' H' → Pin l H' → Grw T Z.dr F H1 (cutL l F') (cutL l H') ∧ FOk X.K T Z.dr (cutL l F') (cutL l H') ∧ Pin l F' := fun {H' F'} g kk pn => by
    have pF : Pin l F' := fun b m => by
      obtain ⟨o, q, _⟩ := trk.at_ b m
      exact ⟨o, g.ff b _ ((putL_in m).trans q)⟩
    refine ⟨⟨fun b o e am => ?_, fun b o e => ?_, fun b o e => ?_⟩, pF.fok pn kk, pF⟩
    · have m := trk.out e
      rw [cutL_out m]
      exact g.hh b o ((putL_out m).trans e) am
    · have m := trk.out (sub1 b o e)
      rw [cutL_out m]
      refine g.ff b o ((putL_out m).trans ?_)
      by_cases hb : b = c'
      · subst hb
        rw [upd_same]
        exact hco.symm.trans (sub1 _ _ e)
      · rw [upd_ne hb]
        exact e
    · by_cases m : b ∈ l
      · rw [cutL_in m] at e
        cases e
      · rw [cutL_out m] at e
        rcases g.new b o e with z | z | z
        · rw [putL_out m] at z
          by_cases hb : b = c'
          · subst hb
            rw [upd_same] at z
            exact .inr (.inr ⟨_, (Option.some.inj z).symm⟩)
          · rw [upd_ne hb] at z
            exact .inl z
        · rw [putL_out m] at z
          exact .inr (.inl z)
        · exact .inr (.inr z)
  have hb1 := hb s' [.ref f] I1.kIn (by
    have z := ok.len [V.ref f] _ (fun _ _ => True) (fun _ _ _ => True) ⟨_, Z.dr, [.lam L cs], _, _, ks, .cons (show RpA X.K X.mg _ Z.dr (.ref f) (.lam L cs) from rF) .nil, h, fun _ _ _ _ _ _ _ _ => trivial, fun _ _ _ _ _ _ _ _ _ => trivial⟩
    simpa using z)
  rw [List.append_nil] at hb1
  refine wpAny_call (codeAny_mono (ok.run X.A X.stack s' (putL l G H1) ⟨[.ref f], []⟩ [.ref f] [.ref f] (fun v H' => Pin l H' → Q v (cutL l H')) (fun cls d H' => Pin l H' → Wer X.K X.mg T Z er cls d σ (cutL l H')) (hr.mono hkj) (trk.env0 I1.env0 nfr nbs) hb1 (.cons rfl .nil) ?_) fun r s2 rc => ?_)
  · refine ⟨_, Z.dr, [.lam L cs], _, _, ks, .cons (show RpA X.K X.mg _ Z.dr (.ref f) (.lam L cs) from rF) .nil, h, fun v H' F' d g kk rv hR pn => ?_, fun cls dd H' F' e g kk ea he pn => ?_⟩
    · obtain ⟨g1, k2, pF⟩ := back g kk pn
      exact hk v _ _ d ρ g1.ff (rep.step (g01.trans g1 k2.ntb) k2) (rv.cutX pF hR.1) hR.2
    · obtain ⟨g1, k2, pF⟩ := back g kk pn
      exact ⟨ρ, _, e, rep.step (g01.trans g1 k2.ntb) k2, ea.cut pF he.1, he.2⟩
  · have hq2 := cr_put_cut (r := r) (s' := s2) (Q' := Q) (E' := WE (Wer X.K X.mg T Z er) σ) trk nfr (fun v H' pn q => q pn) (fun cls d H' pn q => q pn) rc
    cases r with
    | error e => exact passAt tk σ pins H1 s' e s2 I1 hq2
    | ok fl =>
      cases fl with
      | ret u => exact I1.after hq2
      | next => exact False.elim hq2
      | brk => exact False.elim hq2
      | cont => exact False.elim hq2
theorem qe_lamX (i : Nat) {a : Str} {p1 p2 : Pos} (LO : ∀ p ∈ LT, LamOk X.prog X.w X.K X.mg X.base T k p.1 p.2) (LOD : ∀ p ∈ LTD, LamOkD X.prog X.w X.K X.mg X.base T k p.1 p.2) (hr : Room j X.A) (hkj : k ≤ j) (hN : X.N[i]? = some a := by rfl)
    (hv : Vis X.env.scope a := by first | exact Or.inl rfl | exact Or.inr (Or.inl rfl) | exact Or.inr (Or.inr rfl)) (hd : (a == ("__debug__" : Str)) = false := by decide) (hcd : (a == ("__classdict__" : Str)) = false := by decide) :
    QE X T Z (.Call (.Name a p1) [] [] p2) (dLamX LT LTD i) := by
  refine ⟨fun pins s σ H Q I ⟨ρ, F, er, R, rep, tk, h, hk⟩ => ?_⟩
  unfold dLamX at h
  split at h
  · rename_i L cs hi
    obtain ⟨pt, hm, hlen, h⟩ := h
    obtain ⟨v, hs, rv⟩ := rep.lam i _ _ hi
    cases rv with
    | mk h1 h2 h3 h4 h5 =>
      rename_i f c' cl pm ctv vs
      refine wpAny_Call_Name_kw (thn ((pe_var (pos := p1) (i := i) hN hv hd hcd).run pins s σ H (fun v H1 => v = .ref f ∧ H1 = H) I ⟨.ref f, hs, rfl, rfl⟩) fun u s1 ⟨v, H1, I1, r1, q1⟩ => ?_)
      obtain ⟨ev, eH⟩ := q1
      subst ev
      rw [eH] at I1
      obtain rfl : u = Value.ref f := r1
      have hF : s1.heap.get? f = some (PySem.W.kla_obj "<lambda>" L.q L.params L.body L.scope cl pm c' ctv) := (I1.hok f _ (rep.ok.sub _ _ h1)).1
      refine PySem.W.callWith_F0 ⟨_, _, _, _, hF⟩ ?_
      obtain ⟨⟨oc, ws, t, hoc, hdc, hvc⟩, _, _⟩ := I1.hok c' _ (rep.ok.sub _ _ h2)
      generalize hl : (cl.map (·.1)).filterMap (cl.lookup ·) = l
      have pF : Pin l F := hl ▸ pin_of h3
      have pH : Pin l H := fun b m => by
        obtain ⟨o, q⟩ := pF b m
        exact ⟨o, rep.ok.sub _ _ q⟩
      have nf : ∀ b ∈ l, b ∉ frs X.stack := fun b m hb => by
        obtain ⟨o, q⟩ := pH b m
        rw [I1.stkFree b hb] at q
        cases q
      have inl : ∀ {y c}, cl.lookup y = some c → c ∈ l := fun {y c} e => hl ▸ mem_clo e
      have clo : CloH s1.heap (cutL l H) L cl vs := ⟨fun y c e => by
          obtain ⟨o, u, a1, a2⟩ := h3.held y c e
          exact ⟨cutL_in (inl e), u, o, (I1.hok c _ (rep.ok.sub _ _ a1)).1, a2⟩, h3.inj, h3.has, fun j n v e1 e2 => by
          obtain ⟨c, o, u, a1, a2, a3, a4⟩ := h4 j n v e1 e2
          exact ⟨c, u, a1, ⟨o, (I1.hok c _ (rep.ok.sub _ _ a2)).1, a3⟩, a4⟩, (Paired.length h5).trans hlen⟩
      have rc := (LOD _ hm).run X.A X.stack s1 (cutL l H) f c' cl pm ctv vs (fun v H' => (∀ b ∈ l, H' b = none) → Q v (putL l H H')) (fun cls d H' => (∀ b ∈ l, H' b = none) → Wer X.K X.mg T Z er cls d σ (putL l H H')) (hr.mono hkj) (pH.env0 I1.env0) clo hF ⟨c', oc, ws, t, rfl, hoc, hdc, hvc⟩ ?_
      · refine wpAny_call (codeAny_mono rc fun r s' rc => ?_)
        have rc2 := cr_cut_put (Q' := Q) (E' := WE (Wer X.K X.mg T Z er) σ) (r := r) (s' := s') pH I1.hok nf (fun v H' fr q => q fr) (fun cls d H' fr q => q fr) rc
        have hq := rc2
        cases r with
        | error e => exact passAt tk σ pins H s1 e s' I1 hq
        | ok fl =>
          cases fl with
          | ret u => exact I1.after hq
          | next => exact False.elim hq
          | brk => exact False.elim hq
          | cont => exact False.elim hq
      · have back : ∀ {H' F' : Hp}, Grw T Z.dr (cutL l F) (cutL l H) F' H' → FOk X.K T Z.dr F' H' → (∀ b ∈ l, H' b = none) → Grw T Z.dr F H (putL l F F') (putL l H H') ∧ FOk X.K T Z.dr (putL l F F') (putL l H H') ∧ Fx F' (putL l F F') := fun {H' F'} g kk fr => by
          have hFn : ∀ b ∈ l, F' b = none := fun b m => by
            cases q : F' b with
            | none => rfl
            | some o =>
              have z := kk.sub _ _ q
              rw [fr b m] at z
              cases z
          have nAm : ∀ b ∈ l, ¬ Am T Z.dr b := fun b m am => by
            obtain ⟨o, q⟩ := pF b m
            rw [rep.ok.ntb b am] at q
            cases q
          have xH : Fx H' (putL l H H') := fun b o e => by
            have m : b ∉ l := fun m => by
              rw [fr b m] at e
              cases e
            exact (putL_out m).trans e
          have xF : Fx F' (putL l F F') := fun b o e => by
            have m : b ∉ l := fun m => by
              rw [hFn b m] at e
              cases e
            exact (putL_out m).trans e
          refine ⟨⟨fun b o e am => ?_, fun b o e => ?_, fun b o e => ?_⟩, kk.grow xF (fun b o e => ?_) xH (fun b am => ?_) (fun b ps e => ?_), xF⟩
          · by_cases m : b ∈ l
            · exact (putL_in m).trans e
            · rw [putL_out m]
              exact g.hh b o ((cutL_out m).trans e) am
          · by_cases m : b ∈ l
            · exact (putL_in m).trans e
            · rw [putL_out m]
              exact g.ff b o ((cutL_out m).trans e)
          · by_cases m : b ∈ l
            · rw [putL_in m] at e
              exact .inl e
            · rw [putL_out m] at e
              rcases g.new b o e with z | z | z
              · rw [cutL_out m] at z
                exact .inl z
              · rw [cutL_out m] at z
                exact .inr (.inl z)
              · exact .inr (.inr z)
          · by_cases m : b ∈ l
            · rw [putL_in m] at e ⊢
              exact rep.ok.sub _ _ e
            · rw [putL_out m] at e ⊢
              exact kk.sub _ _ e
          · by_cases m : b ∈ l
            · exact absurd am (nAm b m)
            · rw [putL_out m]
              exact kk.ntb b am
          · by_cases m : b ∈ l
            · rw [putL_in m] at e
              obtain ⟨o, q⟩ := pH b m
              rw [q] at e
              cases e
            · rw [putL_out m] at e
              exact kk.tbT b ps e
        refine ⟨cutL l F, Z.dr, cs, fun d => R d ρ, er, pF.fok pH rep.ok, hl ▸ h5, h, ?_, ?_⟩
        · rintro v H' F' d g kk rv hR fr
          obtain ⟨g1, k1, x1⟩ := back g kk fr
          exact hk v _ _ d ρ g1.ff (rep.step g1 k1) (rv.mono x1) hR
        · rintro cls dd H' F' e g kk ea he fr
          obtain ⟨g1, k1, x1⟩ := back g kk fr
          exact ⟨ρ, _, e, rep.step g1 k1, ea.mono x1, he⟩
  · exact (qe_lam i LO hr hkj hN hv hd hcd).run pins s σ H Q I ⟨ρ, F, er, R, rep, tk, h, hk⟩
end
end DL
set_option Elab.async false
set_option linter.all false
set_option maxRecDepth 100000
set_option maxHeartbeats 3200000
namespace DL
open PySem PySem.Spec PyProof.Rows L2
/-! ### sorted(set(xs)), xs a list of ints -/
abbrev nSet (w : World) : Obj := { cls := .type "set", dict := none, data := .set #[] 0 (.fresh 0 0 (!w.params.followText "set-order")) }
theorem ne2 {a b n : Nat} (h : a < n) (hb : b = n + 1) : a ≠ n ∧ a ≠ b := by omega
theorem set_lst {P : Program} {w : World} {A : Around} {E : Value → Shared → Prop} {s : Shared} {l : Addr} {items : Array Value} {ns : List Int} {Q : Value → Shared → Prop} (hh : A.handled = none) (hl : s.heap.IsList l items) (hi : IntsAre items.toList ns) (hb : ns.length + 1 < scanBound)
    (hq : ∀ (h' : Heap) (tk c : Nat), SetR w h' s.heap.objs.size (fun j => decide (j ∈ ns)) c → c ≤ ns.length → (∀ b o, s.heap.get? b = some o → h'.get? b = some o) → Q (.ref s.heap.objs.size) { s with heap := h', toks := tk }) :
    wpAny (model P w) A (call (.type "set") [.ref l]) Q E s := by
  have many : items.size = ns.length := by rw [← IntsAre.length hi, Array.length_toList]
  have ⟨⟨mc, ml, mro⟩, made, isub, nty, can, tyc⟩ := (⟨F.called_set.mro, F.called_set.made, F.called_set.sub, F.called_set.notType, F.called_set.canCreate, F.typeCall_set_1 (.ref l)⟩ : _ ∧ _ ∧ _ ∧ _ ∧ _ ∧ _)
  refine wpAny_call (codeAny_of_tree (show wpAny _ _ (callAny (.type "set") _) _ _ _ from wpAny_pure ⟨Code.quiet_builtin _ (by decide +kernel), codeAny_builtin F.entry_type_call ?_⟩))
  rw [Around.under_plain (weight_type_call_type "set" [.ref l] []) rfl]; repeat (any_goals (first | assumption | wp_step))
  have at0 : (s.heap.push (nSet w)).get? s.heap.objs.size = some (nSet w) := Heap.get?_push_size _ rfl
  have ty0 : Shared.TypeIs { s with heap := s.heap.push (nSet w) } (.ref s.heap.objs.size) "set" := ⟨_, at0, rfl⟩
  refine codeAny_mono (code_set_led1 (.ref l) (E := E) (Q₁ := fun o t => o = .ref s.heap.objs.size ∧ t = { s with heap := s.heap.push (nSet w) }) ⟨rfl, rfl⟩) fun r t hr => ?_
  match r, hr with
  | .error e, hr => exact hr
  | .ok (.ret o), hr =>
    obtain ⟨rfl, rfl⟩ := hr
    have ⟨ini, bnd⟩ := (⟨F.called_set.init.lookup, F.called_set.init.bind (.ref s.heap.objs.size)⟩ : _ ∧ _)
    repeat (any_goals (first | assumption | wp_step))
    refine codeAny_mono (codeAny_call_builtin (R := wants (fun r t => r = .none ∧ ∃ h' tk c, t = { s with heap := h', toks := tk } ∧ SetR w h' s.heap.objs.size (fun j => decide (j ∈ ns)) c ∧ c ≤ ns.length ∧ ∀ b o, s.heap.get? b = some o → h'.get? b = some o) E) F.called_set.init.plain F.entry_set_init (check_set_init_1 ty0 ?_)) fun r t hr => ?_
    · obtain ⟨ol, hol, hc, nl, hd⟩ := id hl
      obtain ⟨oc, od, odt, osl⟩ := ol
      obtain rfl : oc = Value.type "list" := hc
      obtain rfl : odt = Data.seq items nl := hd
      have at1 := Heap.get?_push_of_some (nSet w) hol
      have l1 : (s.heap.push (nSet w)).IsList l items := hl.push _
      have ⟨u1, u2, u3⟩ := (⟨F.sub_list_set, F.sub_list_frozenset, by decide⟩ : _ ∧ _ ∧ (Value.type "list" == Value.type "dict") = false)
      unfold Builtin.«set.__init__» noKeywords Builtin.Frozenset.updateFrom
      generalize hPI : pyIter = PI
      wp_walk
      subst hPI
      refine wpAny_pyIter_list l1 (wpAny_bind (wpAny_runValue ?_))
      have lt0 : l < s.heap.objs.size := Heap.lt_size hol
      have sz := Heap.size_push s.heap (nSet w)
      have nl1 : l ≠ (s.heap.push (nSet w)).objs.size := (ne2 lt0 sz).2
      have nS : s.heap.objs.size ∉ [(s.heap.push (nSet w)).objs.size, l] := by
        rw [sz]
        intro z
        rcases List.mem_cons.mp z with z | z
        · exact absurd z (Nat.ne_of_lt (Nat.lt_succ_self _))
        · exact absurd (List.mem_singleton.mp z) (Nat.ne_of_gt lt0)
      have each : ∀ (i : Nat) (v : Value), items[i]? = some v → ∃ k t, ns[i]? = some k ∧ v = .int k t := fun i v hv => by
        have lt : i < ns.length := many ▸ (Array.getElem?_eq_some_iff.mp hv).1
        obtain ⟨t, e⟩ := IntsAre.int_at hi i v ((Array.getElem?_toList ..).trans hv)
        exact ⟨ns[i], t, List.getElem?_eq_getElem lt, e.trans (by rw [List.getD_eq_getElem?_getD, List.getElem?_eq_getElem lt] <;> rfl)⟩
      refine set_update_ints ((Walks.list (by simp [hh]) _ l nl1 items).toS) s.heap.objs.size nS ns many hb each items.size 0 _ (Nat.sub_zero _) (Nat.zero_le _) ⟨⟨_, Heap.get?_push_size _ rfl, rfl, rfl⟩, l1.push _⟩ ⟨0, Nat.le_refl 0, setR_new_at (Heap.get?_push_of_some _ at0)⟩ fun t c mv hc st => ?_
      obtain ⟨h', g', d', k', o'⟩ := t
      obtain rfl : g' = s.gens := mv.gens
      obtain rfl : d' = s.drawn := mv.drawn
      obtain rfl : o' = s.os := mv.os
      refine wpAny_pure (show wpAny _ _ (ret Value.none) _ _ _ from wpAny_pure ⟨rfl, h', k', c, rfl, st, many ▸ hc, fun b o e => mv.heap b o (fun z => ?_) (Heap.get?_push_of_some _ (Heap.get?_push_of_some _ e))⟩)
      have lb := ne2 (Heap.lt_size e) sz
      rcases List.mem_cons.mp z with z | z
      · exact lb.1 z
      · exact lb.2 (List.mem_singleton.mp z)
    · match r, hr with
      | .error e, hr => exact hr
      | .ok (.ret o), hr =>
        obtain ⟨rfl, h', tk, c, rfl, st, hc, kp⟩ := hr
        repeat (any_goals (first | assumption | wp_step))
        exact hq _ _ _ st hc kp
      | .ok .next, hr => exact hr.elim
      | .ok .brk, hr => exact hr.elim
      | .ok .cont, hr => exact hr.elim
  | .ok .next, hr => exact hr.elim
  | .ok .brk, hr => exact hr.elim
  | .ok .cont, hr => exact hr.elim
end DL
set_option Elab.async false
set_option linter.all false
set_option maxRecDepth 100000
set_option maxHeartbeats 3200000
namespace DL
open PySem PySem.Spec PyProof.Rows L2
def rSetOfI (K : PySem.W.Frag) (w : World) : List V → Hp → VK → Prop := fun xs H Q => ∃ (l : Addr) (ns : List Int), xs = [V.ref l] ∧ SqL K H l (ns.map V.int) ∧ ns.length + 1 < scanBound ∧ (∀ ks : List Int, ks.Nodup → (∀ k ∈ ks, k ∈ ns) → ks.length < 64) ∧
  ∀ (a : Addr) (c : Nat), H a = none → c < 64 → Q (.ref a) (upd H a (SetO w a (fun j => decide (j ∈ ns)) c))
section
variable {X : Cx}
theorem cr_setOfI (hc : X.calm = true) : CallR X (.type "set") (rSetOfI X.K X.w) := by
  intro pins s σ H xs us Q I r h
  obtain ⟨l, ns, rfl, hs, hb, few, q⟩ := h
  rw [Vals.ref1 r]
  obtain ⟨its, rv, pl, hz⟩ := I.list hs
  refine set_lst (I.ok.hd hc) pl.isList (ns := ns) (by simpa using rv.ints) hb fun h' tk c st hc' kp => ?_
  have lt : c < 64 := by
    obtain ⟨o, es, ep, t, ho, hex, hd, good, nd, iff, hsz, hf, hn, _⟩ := id st
    have := few _ nd fun k hk => of_decide_eq_true ((iff k).mpr hk)
    rw [List.length_map, Array.length_toList] at this
    omega
  exact ⟨.ref _, _, I.laid (t' := tk) kp (Nat.le_refl _) (setO_new st), rfl, q _ c (I.hok.fresh (Nat.le_refl _)) lt⟩
end
def dSortSet (ta : DTE) : DTE := fun ρ R er => ta ρ (fun x ρ1 => match x with
  | .lst xs => (match inD xs with
    | some ns => ns.length + 1 < 4096 ∧ (∀ ks : List Int, ks.Nodup → (∀ k ∈ ks, k ∈ ns) → ks.length < 64) ∧ ∀ ms : List Int, ms.Pairwise (· < ·) → (∀ k : Int, k ∈ ms ↔ k ∈ ns) → R (.lst (ms.map D.int)) ρ1
    | none => False)
  | _ => False) er
section
variable {X : Cx} {T : List (Addr × Str)} {Z : Zx} {a : PySem.Expr} {ta : DTE} {p p2 pos pos2 : Pos}
theorem qe_sortSet (hc : X.calm = true) (hg : Gl X "sorted") (hm : X.mg "sorted" = none) (hg2 : Gl X "set") (hm2 : X.mg "set" = none) (ha : QE X T Z a ta)
    (he : starEach [a] X.env = (false, eval a X.env) :: starEach [] X.env := by rfl) (he2 : starEach [.Call (.Name "set" p2) [a] [] pos2] X.env = (false, eval (.Call (.Name "set" p2) [a] [] pos2) X.env) :: starEach [] X.env := by rfl)
    (hpl : (backTo pos2 (starEach [] X.env)).any (·.1) = false := by rfl) (hpl2 : (backTo pos (starEach [] X.env)).any (·.1) = false := by rfl) :
    QE X T Z (.Call (.Name "sorted" p) [.Call (.Name "set" p2) [a] [] pos2] [] pos) (dSortSet ta) :=
  pe_imp (pe_callB (cr_sortedSet hc) hg hm (by decide +kernel) (pa_cons (pe_callTy (cr_setOfI hc) hg2 hm2 (by decide +kernel) (pa_cons ha pa_nil he) (by decide) (by decide) he hpl) pa_nil he2) (by decide) (by decide) he2 hpl2) fun σ H Q ⟨ρ, F, er, R, rep, tk, h, hk⟩ =>
    ⟨ρ, F, er, _, rep, tk, h, fun v H1 F1 x ρ1 e1 rep1 rv h1 => by
      cases x <;> try exact h1.elim
      rename_i xs
      cases hx : inD xs with
      | none =>
        simp only [hx] at h1
      | some ns =>
        simp only [hx] at h1
        obtain ⟨hb, few, h1⟩ := h1
        cases rv with
        | lst q1 q2 =>
          rename_i l vs
          have ev : vs = ns.map V.int := RpL.ins q2 hx
          subst ev
          refine ⟨l, ns, rfl, SqL.of (rep1.ok.sub _ _ q1), by unfold scanBound; exact hb, few, fun b c hb hc' => ?_⟩
          obtain ⟨k1, g1, f1⟩ := rep1.ok.laidOwn (o := SetO X.w b (fun j => decide (j ∈ ns)) c) hb
          have rep2 := rep1.step g1 k1
          refine ⟨b, _, c, rfl, upd_same, hc', fun ms p hw hiff hlen hp => ?_⟩
          obtain ⟨g3, k3, r3⟩ := laid_lst (dr := Z.dr) rep2.ok hp (RpL.ofInts ms)
          exact hk _ _ _ _ ρ1 (e1.trans (g1.ff.trans g3.ff)) (rep2.step g3 k3) r3 (h1 ms hw fun k => (hiff k).trans (by simp))⟩
end
end DL
set_option Elab.async false
set_option linter.all false
set_option maxRecDepth 100000
set_option maxHeartbeats 4000000
namespace DL
open PySem PySem.Spec PyProof.Rows L2
/-! ### lambda x: .. as a value of the frame -/
section
variable {X : Cx} {T : List (Addr × Str)} {Z : Zx}
theorem qe_lamE1 {L : LamSite} {c P : Addr} {lpos : Pos} (hq : X.env.qual ++ "<lambda>" = L.q) (TB : LamX.TabB X.base X.mg c P) (hcode : X.env.code = .ref c) (hmT : (P, L.q) ∈ T) (hu : ∀ p ∈ T, p.1 = P → p.2 = L.q)
    (hfree : ∀ y ∈ L.scope.names, y.2 = .free → X.env.scope.names.lookup y.1 = some .cell ∨ X.env.scope.names.lookup y.1 = some .free) (hdef : defaultsOf L.params X.env = ([], []) := by rfl) :
    QE X T Z (.Lambda L.params L.body L.scope lpos) (dLamE X.env.cells L) := by
  refine ⟨fun pins s σ H Q I ⟨ρ, F, er, R, rep, tk, h, hk⟩ => ?_⟩
  refine lam_new I TB hcode hq hmT hu rep.ok.tabs hdef (fun y hy e => by
    rcases hfree y hy e with k | k
    · exact I.ok.has _ (.inl k)
    · exact I.ok.has _ (.inr k)) fun f c' pm ctv H1 s' I1 eN T1 hf hfn1 hfs tbb hco => ?_
  have notT : ∀ b o, F b = some o → ∀ qs, o ≠ .tbl qs := fun b o e qs z => by
    obtain ⟨q, hT⟩ := rep.ok.tbT b qs (z ▸ rep.ok.sub b o e)
    rw [rep.ok.ntb b (.inl ⟨q, hT⟩)] at e
    cases e
  have sub1 : Fx F H1 := fun b o e => eN b o (rep.ok.sub b o e) (notT b o e)
  have tb1 : ∀ b ps, H1 b = some (.tbl ps) → ∃ q, (b, q) ∈ T := fun b ps e => by
    obtain ⟨ps', e'⟩ := tbb b ps e
    exact rep.ok.tbT b ps' e'
  have nAc : ¬ Am T Z.dr c' := by
    rintro (⟨q, hT⟩ | ⟨a, l', e, z⟩)
    · obtain ⟨ps, h1, _⟩ := T1 _ hT
      rw [hco] at h1
      exact LamX.codeO_ne ps (Option.some.inj h1)
    · obtain ⟨c, r, t, big, cells, h1, h2, _⟩ := (rep.ok.drw a l' e).at_
      have g1 := eN _ _ h1 fun _ z => nomatch z
      have g2 := eN _ _ h2 fun _ z => nomatch z
      rcases z with z | z
      · rw [← z, hco] at g1
        cases g1
      · rw [← z, hco] at g2
        cases g2
  have drw1 : ∀ a l', Z.dr = some (a, l') → DrawAt X.K F H1 a l' := fun a l' e => by
    obtain ⟨c, r, t, big, cells, h1, h2, _⟩ := (rep.ok.drw a l' e).at_
    exact (rep.ok.drw a l' e).mono (Fx.refl F) ((eN _ _ h1 fun _ z => nomatch z).trans h1.symm) ((eN _ _ h2 fun _ z => nomatch z).trans h2.symm)
  have k1 : FOk X.K T Z.dr F H1 := ⟨sub1, rep.ok.ntb, T1, drw1, tb1⟩
  have g01 : Grw T Z.dr F H F H1 := ⟨fun b o e m => eN b o e fun qs z => by
      obtain ⟨q, hT⟩ := rep.ok.tbT b qs (z ▸ e)
      exact m (.inl ⟨q, hT⟩), Fx.refl F, fun b o e => .inl e⟩
  generalize hobj : PySem.W.kla_obj "<lambda>" L.q L.params L.body L.scope (cloFrom X.env.cells L.scope.names []) pm c' ctv = obj at hf
  obtain ⟨k2, g2⟩ := k1.laid (o := .frz obj (.own f)) hfn1
  have cf : c' ≠ f := ne_of_none hco hfn1
  have hco2 : upd H1 f (.frz obj (.own f)) c' = some (LamX.CodeO c' L.q) := (upd_ne cf).trans hco
  have x3 : Fx (upd F f (.frz obj (.own f))) (upd (upd F f (.frz obj (.own f))) c' (LamX.CodeO c' L.q)) := fun b o e => by
    by_cases hb : b = c'
    · subst hb
      rw [upd_same]
      exact hco2.symm.trans (k2.sub _ _ e)
    · rw [upd_ne hb]
      exact e
  have s3 : Fx (upd (upd F f (.frz obj (.own f))) c' (LamX.CodeO c' L.q)) (upd H1 f (.frz obj (.own f))) := fun b o e => by
    by_cases hb : b = c'
    · subst hb
      rw [upd_same] at e
      exact hco2.trans e
    · rw [upd_ne hb] at e
      exact k2.sub b o e
  have k3 : FOk X.K T Z.dr (upd (upd F f (.frz obj (.own f))) c' (LamX.CodeO c' L.q)) (upd H1 f (.frz obj (.own f))) := k2.grow x3 s3 (fun _ _ e => e) (fun b am => by
    have hb : b ≠ c' := fun z => nAc (z ▸ am)
    rw [upd_ne hb]
    exact k2.ntb b am) k2.tbT
  have g3 : Grw T Z.dr (upd F f (.frz obj (.own f))) (upd H1 f (.frz obj (.own f))) (upd (upd F f (.frz obj (.own f))) c' (LamX.CodeO c' L.q)) (upd H1 f (.frz obj (.own f))) := ⟨fun _ _ e _ => e, x3, fun b o e => by
    by_cases hb : b = c'
    · subst hb
      rw [upd_same] at e
      exact .inr (.inr ⟨_, (Option.some.inj e).symm⟩)
    · rw [upd_ne hb] at e
      exact .inl e⟩
  have g := g01.trans (g2.trans g3 k3.ntb) k3.ntb
  refine ⟨.ref f, _, adopt I I1 hf hfn1 hfs, rfl, hk _ _ _ _ ρ g.ff (rep.step g k3) (.clo (pm := pm) (ctv := ctv) ?_ upd_same) h⟩
  rw [hobj]
  exact (upd_ne (Ne.symm cf)).trans upd_same
end
end DL
set_option Elab.async false
set_option linter.all false
set_option maxRecDepth 100000
set_option maxHeartbeats 4000000
namespace DL
open PySem PySem.Spec PyProof.Rows L2
/-! ### x(e, lambda y: ..) -/
def dMk2 (te : DTE) (L : LamSite) (ix : List Nat) (pt : Pt) : DTE := fun ρ0 R er => te ρ0 (fun x ρ => ∃ cs : List D, ix.map (ρ[·]?) = cs.map (fun d => some (some (DV.d d))) ∧ (∀ c ∈ cs, D.plainX c = true) ∧ pt [.d x, .d (.lam L cs)] (fun d => d.plainX = true ∧ R d ρ) (fun e => e.pl = true ∧ er e)) er
section
variable {X : Cx} {T : List (Addr × Str)} {Z : Zx} {a : PySem.Expr} {te : DTE}
theorem qe_mkLam2 {L : LamSite} {x : Str} {st : Stmt} {ps : List Str} {ix : List Nat} {k j : Nat} {pt : Pt} {c P : Addr} {p lpos pos : Pos} (O : Fo X.prog X.w X.K X.mg X.base x st ps k (SpF X.K X.mg T pt)) (hr : Room j X.A) (hkj : k ≤ j) (hg : Gl X x) (hns0 : ∀ n ∈ L.ns, L.scope.names.lookup n = some .free) (ha : QE X T Z a te)
    (hq : X.env.qual ++ "<lambda>" = L.q) (TB : LamX.TabB X.base X.mg c P) (hcode : X.env.code = .ref c) (hmT : (P, L.q) ∈ T) (hu : ∀ p ∈ T, p.1 = P → p.2 = L.q) (hfree : ∀ y ∈ L.scope.names, y.2 = .free → X.env.scope.names.lookup y.1 = some .cell ∨ X.env.scope.names.lookup y.1 = some .free)
    (hix : ix.map (X.N[·]?) = L.ns.map some) (hfn : ∀ y, X.fn y = true := by exact fun _ => rfl) (hdef : defaultsOf L.params X.env = ([], []) := by rfl) (hdb : (x == ("__debug__" : Str)) = false := by decide)
    (he : starEach [a, .Lambda L.params L.body L.scope lpos] X.env = (false, eval a X.env) :: starEach [.Lambda L.params L.body L.scope lpos] X.env := by rfl) (hpl2 : (backTo pos (starEach [.Lambda L.params L.body L.scope lpos] X.env)).any (·.1) = false := by rfl) :
    QE X T Z (.Call (.Name x p) [a, .Lambda L.params L.body L.scope lpos] [] pos) (dMk2 te L ix pt) := by
  obtain ⟨g, fd, hm, F0, hb, ok⟩ := O.ex
  refine ⟨fun pins s0 σ H0 Q I0 ⟨ρ0, FF, er, R, rep0, tk, h0, hk0⟩ => ?_⟩
  refine wpAny_Call_Name_kw (ld_glob I0 hg hm ?_ hdb)
  refine PySem.W.callWith_K (h₀ := X.base) I0.ok.mod.kin F0.kp ?_ he hpl2
  rw [he]
  show wpAny _ _ (spliced ((false, eval a X.env) :: (false, eval (.Lambda L.params L.body L.scope lpos) X.env) :: backTo pos (starEach [] X.env))) _ _ s0
  refine Calls.spliced_cons (thn (ha.run pins s0 σ H0 (fun v0 H1 => ∃ F x0 ρ1, Fx FF F ∧ Rep X.K X.mg T Z ρ1 F σ H1 ∧ Rp X.K X.mg F v0 x0 ∧ ∃ cs : List D, ix.map (ρ1[·]?) = cs.map (fun d => some (some (DV.d d))) ∧ (∀ c ∈ cs, D.plainX c = true) ∧ pt [.d x0, .d (.lam L cs)] (fun d => d.plainX = true ∧ R d ρ1) (fun e => e.pl = true ∧ er e)) I0 ⟨ρ0, FF, er, _, rep0, tk, h0, fun v H1 F1 x1 ρ1 e1 rep1 rv h1 => ⟨F1, x1, ρ1, e1, rep1, rv, h1⟩⟩) fun u0 s ⟨v0, H, I, rv0, F, x0, ρ, e0, rep, rx0, cs, hcs, hpl, h⟩ => ?_)
  have hk : ∀ v H' F' d ρ', Fx F F' → Rep X.K X.mg T Z ρ' F' σ H' → Rp X.K X.mg F' v d → R d ρ' → Q v H' := fun v H' F' d ρ' e => hk0 v H' F' d ρ' (e0.trans e)
  refine Calls.spliced_cons (lam_new I TB hcode hq hmT hu rep.ok.tabs hdef (fun y hy e => by
    rcases hfree y hy e with k | k
    · exact I.ok.has _ (.inl k)
    · exact I.ok.has _ (.inr k)) fun f c' pm ctv H1 s' I1 eN T1 hf hfn1 hfs tbb hco => ?_)
  refine Calls.spliced_nil ⟨I1.kIn, ?_⟩
  -- the state with the lambda made
  have notT : ∀ b o, F b = some o → ∀ qs, o ≠ .tbl qs := fun b o e qs z => by
    obtain ⟨q, hT⟩ := rep.ok.tbT b qs (z ▸ rep.ok.sub b o e)
    rw [rep.ok.ntb b (.inl ⟨q, hT⟩)] at e
    cases e
  have drN : ∀ b o, H b = some o → ¬ (∃ q, (b, q) ∈ T) → H1 b = some o := fun b o e n => eN b o e fun qs z => n (rep.ok.tbT b qs (z ▸ e))
  obtain ⟨clo1, clo2⟩ := lam_cells1 I1 hfree
  generalize hcl : cloFrom X.env.cells L.scope.names [] = cl at clo1 clo2 hf
  have sub1 : Fx F H1 := fun b o e => eN b o (rep.ok.sub b o e) (notT b o e)
  obtain ⟨len, at1⟩ := ix_one hcs hix
  obtain ⟨m, hns, hloc⟩ := id I1.loc
  obtain ⟨vs, vl, va⟩ := vals_of (P := fun j v d => Rp X.K X.mg F v d ∧ ∀ n, L.ns[j]? = some n → ∃ c u, cl.lookup n = some c ∧ s'.heap.IsCell c (some u) ∧ RelV v u) cs fun j d e => by
    have hj : j < L.ns.length := len ▸ (List.getElem?_eq_some_iff.mp e).1
    obtain ⟨i, d', a1, a2, a3⟩ := at1 j _ (List.getElem?_eq_getElem hj)
    rw [a3] at e
    cases e
    obtain ⟨v, s1, r1⟩ := rep.dat i _ a2
    refine ⟨v, r1, fun n hn => ?_⟩
    rw [List.getElem?_eq_getElem hj] at hn
    cases hn
    have hfl := hns0 _ (List.getElem_mem hj)
    have hvis := hfree _ (PySem.mem_of_lookup hfl) rfl
    obtain ⟨u, ru, q⟩ := hloc i _ v a1 s1 (.inr hvis)
    obtain ⟨cc, hcc⟩ := clo2 _ hfl
    have hX := clo1 _ _ hcc
    rcases q with ⟨k', _⟩ | ⟨_, c3, e', z⟩
    · have k' : X.env.scope.names.lookup _ = some .local := k'
      rcases hvis with k2 | k2 <;> rw [k2] at k' <;> cases k'
    · rw [hX] at e'
      cases e'
      exact ⟨cc, u, hcc, z, ru⟩
  -- what is known for the time of the call
  generalize hG : (fun b => (s'.heap.get? b).map fun o => HO.frz o (.own b) : Hp) = G
  generalize hl : f :: (cl.map (·.1)).filterMap (cl.lookup ·) = l
  have inl : ∀ {y c}, cl.lookup y = some c → c ∈ l := fun {y c} e => hl ▸ List.mem_cons_of_mem _ (mem_clo e)
  have cell_ : ∀ {y c}, cl.lookup y = some c → ∃ o u, s'.heap.get? c = some o ∧ o.data = .cell u ∧ G c = some (.frz o (.own c)) := fun {y c} e => by
    obtain ⟨v, o, a1, a2⟩ := I1.cell y c (clo1 y c e)
    exact ⟨o, v, a1, a2, by rw [← hG]; show (s'.heap.get? c).map _ = _; rw [a1]; rfl⟩
  have each : ∀ b ∈ l, b = f ∨ ∃ y, cl.lookup y = some b := fun b m => by
    rw [← hl] at m
    rcases List.mem_cons.mp m with e | m
    · exact .inl e
    · obtain ⟨y, _, h2⟩ := List.mem_filterMap.mp m
      exact .inr ⟨y, h2⟩
  have trk : Trk l G H1 s'.heap := ⟨fun b m => by
    rcases each b m with e | ⟨y, e⟩
    · rw [e]
      exact hfn1
    · exact I1.freeC y b (clo1 y b e), fun b m => by
    rcases each b m with e | ⟨y, e⟩
    · subst e
      exact ⟨_, by rw [← hG]; show (s'.heap.get? _).map _ = _; rw [hf]; rfl, hf⟩
    · obtain ⟨o, u, a1, a2, a3⟩ := cell_ e
      exact ⟨o, a3, a1⟩⟩
  have nfr : ∀ b ∈ l, b ∉ frs X.stack := fun b m hb => by
    rcases each b m with e | ⟨y, e⟩
    · rcases List.mem_cons.mp (I.stkSub b hb) with z | z
      · exact absurd I.lt (by rw [← z, e]; exact Nat.not_lt.mpr hfs)
      · exact I.nofs hfs (e ▸ z)
    · rcases List.mem_cons.mp (I1.stkSub b hb) with z | z
      · exact I1.cne y b (clo1 y b e) z
      · obtain ⟨_, o, ho, _⟩ := I1.ok.funs.mem z
        exact absurd (Nat.lt_of_lt_of_le (Heap.lt_size ho) (I1.ok.cab y b (hfn y) (clo1 y b e))) (Nat.lt_irrefl _)
  have nbs : ∀ b ∈ l, X.base.get? b = none := fun b m => by
    cases q : X.base.get? b with
    | none => rfl
    | some o =>
      exfalso
      have q1 := I1.bk b o q
      rcases each b m with e | ⟨y, e⟩
      · exact absurd (Nat.lt_of_lt_of_le (Heap.lt_size (I.bk b o q)) (e ▸ hfs)) (Nat.lt_irrefl _)
      · have q2 := (I1.ok.bs b o q).1
        exact absurd (Nat.lt_of_lt_of_le (Heap.lt_size q2) (I1.ok.cab y b (hfn y) (clo1 y b e))) (Nat.lt_irrefl _)
  have xFF : Fx F (putL l G (upd F c' (LamX.CodeO c' L.q))) := fun b o e => by
      have m : b ∉ l := trk.out (sub1 b o e)
      rw [putL_out m]
      by_cases hb : b = c'
      · subst hb
        rw [upd_same]
        exact hco.symm.trans (sub1 _ _ e)
      · rw [upd_ne hb]
        exact e
  have rF : Rp X.K X.mg (putL l G (upd F c' (LamX.CodeO c' L.q))) (.ref f) (.lam L cs) := by
    have xF : Fx F (putL l G (upd F c' (LamX.CodeO c' L.q))) := fun b o e => by
      have m : b ∉ l := trk.out (sub1 b o e)
      rw [putL_out m]
      by_cases hb : b = c'
      · subst hb
        rw [upd_same]
        exact hco.symm.trans (sub1 _ _ e)
      · rw [upd_ne hb]
        exact e
    have nc : c' ∉ l := trk.out hco
    have fl : f ∈ l := hl ▸ List.mem_cons_self
    refine .lam ((putL_in fl).trans (by rw [← hG]; show (s'.heap.get? _).map _ = _; rw [hf]; rfl)) ((putL_out nc).trans upd_same) ⟨fun y c e => ?_, fun x y c e1 e2 => I1.ok.inj x y c (clo1 x c e1) (clo1 y c e2), clo2⟩ (fun j n v e1 e2 => ?_) (rpl_of vl fun j v d e1 e2 => ((va j v d e1 e2).1).mono xF)
    · obtain ⟨o, u, a1, a2, a3⟩ := cell_ e
      exact ⟨o, u, (putL_in (inl e)).trans a3, a2⟩
    · have hj : j < cs.length := vl ▸ (List.getElem?_eq_some_iff.mp e2).1
      obtain ⟨c, u, a1, ⟨o, a2, a3⟩, a4⟩ := (va j v _ e2 (List.getElem?_eq_getElem hj)).2 n e1
      exact ⟨c, o, u, a1, (putL_in (inl a1)).trans (by rw [← hG]; show (s'.heap.get? _).map _ = _; rw [a2]; rfl), a3, a4⟩
  have tb1 : ∀ b ps, H1 b = some (.tbl ps) → ∃ q, (b, q) ∈ T := fun b ps e => by
    obtain ⟨ps', e'⟩ := tbb b ps e
    exact rep.ok.tbT b ps' e'
  have nAl : ∀ b ∈ l, ¬ Am T Z.dr b := fun b m => by
    rintro (⟨q, hT⟩ | ⟨a, l', e, z⟩)
    · obtain ⟨ps, h1, _⟩ := T1 _ hT
      rw [trk.no b m] at h1
      cases h1
    · obtain ⟨c, r, t, big, cells, h1, h2, _⟩ := (rep.ok.drw a l' e).at_
      have g1 := eN _ _ h1 fun _ z => nomatch z
      have g2 := eN _ _ h2 fun _ z => nomatch z
      rcases z with z | z
      · rw [← z, trk.no b m] at g1
        cases g1
      · rw [← z, trk.no b m] at g2
        cases g2
  have nAc : ¬ Am T Z.dr c' := by
    rintro (⟨q, hT⟩ | ⟨a, l', e, z⟩)
    · obtain ⟨ps, h1, _⟩ := T1 _ hT
      rw [hco] at h1
      exact LamX.codeO_ne ps (Option.some.inj h1)
    · obtain ⟨c, r, t, big, cells, h1, h2, _⟩ := (rep.ok.drw a l' e).at_
      have g1 := eN _ _ h1 fun _ z => nomatch z
      have g2 := eN _ _ h2 fun _ z => nomatch z
      rcases z with z | z
      · rw [← z, hco] at g1
        cases g1
      · rw [← z, hco] at g2
        cases g2
  have drw1 : ∀ a l', Z.dr = some (a, l') → DrawAt X.K F H1 a l' := fun a l' e => by
    obtain ⟨c, r, t, big, cells, h1, h2, _⟩ := (rep.ok.drw a l' e).at_
    exact (rep.ok.drw a l' e).mono (Fx.refl F) ((eN _ _ h1 fun _ z => nomatch z).trans h1.symm) ((eN _ _ h2 fun _ z => nomatch z).trans h2.symm)
  have k1 : FOk X.K T Z.dr F H1 := ⟨sub1, rep.ok.ntb, T1, drw1, tb1⟩
  have g01 : Grw T Z.dr F H F H1 := ⟨fun b o e m => eN b o e fun qs z => by
      obtain ⟨q, hT⟩ := rep.ok.tbT b qs (z ▸ e)
      exact m (.inl ⟨q, hT⟩), Fx.refl F, fun b o e => .inl e⟩
  have ks : FOk X.K T Z.dr (putL l G (upd F c' (LamX.CodeO c' L.q))) (putL l G H1) := by
    have xH : ∀ b o, H1 b = some o → putL l G H1 b = some o := fun b o e => (putL_out (trk.out e)).trans e
    refine k1.grow (fun b o e => ?_) (fun b o e => ?_) xH (fun b am => ?_) (fun b ps e => ?_)
    · rw [putL_out (trk.out (sub1 b o e))]
      by_cases hb : b = c'
      · subst hb
        rw [upd_same]
        exact hco.symm.trans (sub1 _ _ e)
      · rw [upd_ne hb]
        exact e
    · by_cases m : b ∈ l
      · rw [putL_in m] at e ⊢
        exact e
      · rw [putL_out m] at e ⊢
        by_cases hb : b = c'
        · subst hb
          rw [upd_same] at e
          exact hco.trans e
        · rw [upd_ne hb] at e
          exact sub1 b o e
    · have m : b ∉ l := fun m => nAl b m am
      have hb : b ≠ c' := fun z => nAc (z ▸ am)
      rw [putL_out m, upd_ne hb]
      exact rep.ok.ntb b am
    · by_cases m : b ∈ l
      · rw [putL_in m] at e
        obtain ⟨o, q, _⟩ := trk.at_ b m
        rw [q] at e
        cases e
      · rw [putL_out m] at e
        exact tb1 b ps e
  have back : ∀ {H' F' : Hp}, Grw T Z.dr (putL l G (upd F c' (LamX.CodeO c' L.q))) (putL l G H1) F' H' → FOk X.K T Z.dr F' H' → Pin l H' → Grw T Z.dr F H1 (cutL l F') (cutL l H') ∧ FOk X.K T Z.dr (cutL l F') (cutL l H') ∧ Pin l F' := fun {H' F'} g kk pn => by
    have pF : Pin l F' := fun b m => by
      obtain ⟨o, q, _⟩ := trk.at_ b m
      exact ⟨o, g.ff b _ ((putL_in m).trans q)⟩
    refine ⟨⟨fun b o e am => ?_, fun b o e => ?_, fun b o e => ?_⟩, pF.fok pn kk, pF⟩
    · have m := trk.out e
      rw [cutL_out m]
      exact g.hh b o ((putL_out m).trans e) am
    · have m := trk.out (sub1 b o e)
      rw [cutL_out m]
      refine g.ff b o ((putL_out m).trans ?_)
      by_cases hb : b = c'
      · subst hb
        rw [upd_same]
        exact hco.symm.trans (sub1 _ _ e)
      · rw [upd_ne hb]
        exact e
    · by_cases m : b ∈ l
      · rw [cutL_in m] at e
        cases e
      · rw [cutL_out m] at e
        rcases g.new b o e with z | z | z
        · rw [putL_out m] at z
          by_cases hb : b = c'
          · subst hb
            rw [upd_same] at z
            exact .inr (.inr ⟨_, (Option.some.inj z).symm⟩)
          · rw [upd_ne hb] at z
            exact .inl z
        · rw [putL_out m] at z
          exact .inr (.inl z)
        · exact .inr (.inr z)
  have hb1 := hb s' [u0, .ref f] I1.kIn (by
    have z := ok.len [v0, V.ref f] _ (fun _ _ => True) (fun _ _ _ => True) ⟨_, Z.dr, [.d x0, .d (.lam L cs)], _, _, ks, .cons (rx0.mono xFF) (.cons rF .nil), h, fun _ _ _ _ _ _ _ _ => trivial, fun _ _ _ _ _ _ _ _ _ => trivial⟩
    simpa using z)
  rw [List.append_nil] at hb1
  refine wpAny_call (codeAny_mono (ok.run X.A X.stack s' (putL l G H1) ⟨[u0, .ref f], []⟩ [u0, .ref f] [v0, .ref f] (fun v H' => Pin l H' → Q v (cutL l H')) (fun cls d H' => Pin l H' → Wer X.K X.mg T Z er cls d σ (cutL l H')) (hr.mono hkj) (trk.env0 I1.env0 nfr nbs) hb1 (.cons rv0 (.cons rfl .nil)) ?_) fun r s2 rc => ?_)
  · refine ⟨_, Z.dr, [.d x0, .d (.lam L cs)], _, _, ks, .cons (rx0.mono xFF) (.cons rF .nil), h, fun v H' F' d g kk rv hR pn => ?_, fun cls dd H' F' e g kk ea he pn => ?_⟩
    · obtain ⟨g1, k2, pF⟩ := back g kk pn
      exact hk v _ _ d ρ g1.ff (rep.step (g01.trans g1 k2.ntb) k2) (rv.cutX pF hR.1) hR.2
    · obtain ⟨g1, k2, pF⟩ := back g kk pn
      exact ⟨ρ, _, e, rep.step (g01.trans g1 k2.ntb) k2, ea.cut pF he.1, he.2⟩
  · have hq2 := cr_put_cut (r := r) (s' := s2) (Q' := Q) (E' := WE (Wer X.K X.mg T Z er) σ) trk nfr (fun v H' pn q => q pn) (fun cls d H' pn q => q pn) rc
    cases r with
    | error e => exact passAt tk σ pins H1 s' e s2 I1 hq2
    | ok fl =>
      cases fl with
      | ret u => exact I1.after hq2
      | next => exact False.elim hq2
      | brk => exact False.elim hq2
      | cont => exact False.elim hq2
end
/-! ### for i, x in enumerate(..) -/
section
variable {X : Cx} {T : List (Addr × Str)} {Z : Zx} {a e : PySem.Expr} {ta : DTA} {p pos tpos : Pos} {elts : List PySem.Expr} {kk : Nat}
def enD (xs : List D) : List D := List.zipWith (fun (i : Nat) x => .tup [.int (i : Int), x]) (List.range xs.length) xs
def dEnum (ta : DTA) : DTI := fun ρ R er => ta ρ (fun ds ρ1 => match ds with
  | [.d (.lst xs)] => R (enD xs) ρ1
  | _ => False) er
theorem qi_enum (hg : Gl X "enumerate") (hm : X.mg "enumerate" = none) (ha : QA X T Z [a] ta) (hs : starEach [a] X.env = [(false, eval a X.env)] := by rfl) : QI X T Z (.Tuple elts kk tpos) (.Call (.Name "enumerate" p) [a] [] pos) (dEnum ta) :=
  pi_imp (pi_enum hg hm ha hs) fun σ H Q ⟨ρ, F, er, R, rep, tk, h, hk⟩ => ⟨ρ, F, er, _, rep, tk, h, fun vs H1 F1 ds ρ1 e1 rep1 rvs h1 => by
    split at h1
    · rename_i xs
      cases rvs with
      | cons r1 r2 =>
        cases r2
        cases (show Rp X.K X.mg F1 _ (.lst xs) from r1) with
        | lst q1 q2 =>
          refine ⟨_, _, rfl, SqL.of (rep1.ok.sub _ _ q1), hk _ H1 F1 _ ρ1 e1 rep1 (walkD_pair walk_enum ?_ (fun H e => SqL.of (e _ _ q1)) fun i x y hi hx hy => ?_) h1⟩
          · unfold enD
            rw [List.length_zipWith, List.length_range, q2.length]
            omega
          · obtain ⟨d, hd, rd⟩ := q2.get' hy
            cases hx
            have hi' : i < xs.length := (List.getElem?_eq_some_iff.mp hd).1
            exact ⟨_, d, by unfold enD; rw [List.getElem?_zipWith, hd, List.getElem?_range hi'], .int _, rd⟩
    · exact h1.elim⟩
end
end DL
set_option Elab.async false
set_option linter.all false
set_option maxRecDepth 100000
set_option maxHeartbeats 4000000
namespace DL
open PySem PySem.Spec PyProof.Rows L2
/-! ### defs with whole numbers as defaults -/
structure FoD (P : Program) (w : World) (K : PySem.W.Frag) (mg : Mg) (base : Heap) (x : Str) (st : Stmt) (ps : List Str) (zs : List Int) (k : Nat) (sp : Sp) : Prop where
  ex : ∃ f fd, mg x = some (.ref f) ∧ FunD K x x (defArgs st) (defBody st) (defScope st) (zs.map V.int) [] f fd ∧ Binds K fd ps [] ∧ (∃ ds, Vals (zs.map V.int) ds ∧ Binds K fd ps ds) ∧ FnOk P w K mg base (L2.CX P w) k f fd ps sp
def dCallD (pt : Pt) (zs : List Int) (ta : DTA) : DTE := fun ρ R er => ta ρ (fun ds ρ1 => pt (ds ++ zs.map fun i => .d (.int i)) (fun d => R d ρ1) er) er
theorem rpa_ints {K : PySem.W.Frag} {mg : Mg} {F : Hp} {dr : Option (Addr × Addr)} : ∀ zs : List Int, RpAs K mg F dr (zs.map V.int) (zs.map fun i => .d (.int i))
  | [] => .nil
  | z :: zs => .cons (show RpA K mg F dr (.int z) (.d (.int z)) from .int z) (rpa_ints zs)
section
variable {X : Cx} {T : List (Addr × Str)} {Z : Zx} {a : PySem.Expr} {ta : DTA} {es : List PySem.Expr} {p pos : Pos} {x : Str} {st : Stmt} {ps : List Str} {zs : List Int} {k j : Nat} {pt : Pt}
/-- f(e, ..), the last ones by default -/
theorem qe_callD (O : FoD X.prog X.w X.K X.mg X.base x st ps zs k (SpF X.K X.mg T pt)) (hr : Room j X.A) (hkj : k ≤ j) (hg : Gl X x) (ha : QA X T Z (a :: es) ta) (hdb : (x == ("__debug__" : Str)) = false := by decide)
    (he : starEach (a :: es) X.env = (false, eval a X.env) :: starEach es X.env := by rfl) (hpl : (backTo pos (starEach es X.env)).any (·.1) = false := by rfl) : QE X T Z (.Call (.Name x p) (a :: es) [] pos) (dCallD pt zs ta) := by
  obtain ⟨f, fd, hm, F0, _, ⟨ds0, hv, hb⟩, ok⟩ := O.ex
  refine ⟨fun pins s σ H Q I ⟨ρ, F, er, R, rep, tk, h, hk⟩ => ?_⟩
  refine (pe_callSD (E := WE (Wer X.K X.mg T Z er)) ok (hr.mono hkj) hg hm F0.kp hb hv (passAt tk) ha hdb he hpl).run pins s σ H Q I ?_
  exact ⟨ρ, F, er, _, rep, tk, h, fun vs H1 F1 ds ρ1 e1 rep1 rvs h1 => call_step (R := R) e1 rep1 (Paired.app rvs (rpa_ints zs)) h1 (fun _ _ _ w => w) hk⟩
/-- f(e, ..), all of them given -/
theorem qe_callA (O : FoD X.prog X.w X.K X.mg X.base x st ps zs k (SpF X.K X.mg T pt)) (hr : Room j X.A) (hkj : k ≤ j) (hg : Gl X x) (ha : QA X T Z (a :: es) ta) (hdb : (x == ("__debug__" : Str)) = false := by decide)
    (he : starEach (a :: es) X.env = (false, eval a X.env) :: starEach es X.env := by rfl) (hpl : (backTo pos (starEach es X.env)).any (·.1) = false := by rfl) : QE X T Z (.Call (.Name x p) (a :: es) [] pos) (dCall pt ta) := by
  obtain ⟨f, fd, hm, F0, hb, _, ok⟩ := O.ex
  refine ⟨fun pins s σ H Q I ⟨ρ, F, er, R, rep, tk, h, hk⟩ => ?_⟩
  refine (pe_callSD (E := WE (Wer X.K X.mg T Z er)) ok (hr.mono hkj) hg hm F0.kp hb .nil (passAt tk) ha hdb he hpl).run pins s σ H Q I ?_
  exact ⟨ρ, F, er, _, rep, tk, h, fun vs H1 F1 ds ρ1 e1 rep1 rvs h1 => by
    show SpF X.K X.mg T pt (vs ++ []) H1 Q _
    rw [List.append_nil]
    exact call_step (R := R) e1 rep1 rvs h1 (fun _ _ _ w => w) hk⟩
end
section
variable {P : Program} {w : World} {K : PySem.W.Frag} {mg : Mg} {base : Heap} {T : List (Addr × Str)} {x : Str} {st : Stmt} {f : Addr} {fd : FuncData} {N ps : List Str} {zs : List Int} {k : Nat} {pt : Pt} {ts : DTS}
theorem def_okD (hm : mg x = some (.ref f)) (F : FunD K x x (defArgs st) (defBody st) (defScope st) (zs.map V.int) [] f fd) (S : FnScope N ps (defScope st)) (hbd : Binds K fd ps []) (hbz : ∃ ds, Vals (zs.map V.int) ds ∧ Binds K fd ps ds) (hb : Body P w K mg base T N x st k ts) (hp : Pure N.length ps.length ts pt) : FoD P w K mg base x st ps zs (k + 1) (SpF K mg T pt) :=
  ⟨f, fd, hm, F, hbd, hbz, F.ok S (fun vs H Q E h => sp_len hp h) fun cdv A outer s H vs Q E hr h => body_run (fun Z => hb f cdv A outer s H E Z hr) hp h⟩
theorem binds_nil {ds : List Value} (h : Vals ([] : List V) ds) (b : Binds K fd ps ds) : Binds K fd ps [] := by
  cases h
  exact b
end
end DL
set_option Elab.async false
set_option linter.all false
set_option maxRecDepth 100000
set_option maxHeartbeats 4000000
/-! ### enumerate(v), v begins its own iterator -/
namespace PySem
open Sem (wp)
theorem meets_enumerate_newB1 {v : Value} {o : Obj} {H : Heap → Prop} (B : Begins v o H) :
    Meets (Builtin.«enumerate.__new__» ⟨[.type "enumerate", v], []⟩) (fun _ R s => H s.heap ∧
      R (.ok (.ret (.ref (s.heap.push o).objs.size))) { s with heap := (s.heap.push o).push { cls := .type "enumerate", data := .fields #[.none, .bool false, .ref s.heap.objs.size, rawInt 0, .none, .none] } }) :=
  .of_wp fun prog w A R s h => by
    obtain ⟨hp, g, d, tk, os⟩ := s; obtain ⟨h1, h⟩ := h
    have hsub := sub_enumerate
    have q1 : ∀ {A' : Around} {E : Value → Shared → Prop} {Q : Value → Shared → Prop}, Q (.ref hp.objs.size) ⟨hp.push o, g, d, tk, os⟩ → wpAny (model prog w) A' (pyIter v) Q E ⟨hp, g, d, tk, os⟩ :=
      fun q => B.iter prog w _ _ ⟨hp, g, d, tk, os⟩ _ h1 q
    wp_walk using q1
    refine wpAny_stack_any fun st => wpAny_pure ?_
    split
    · rename_i c _ _ _ _ _
      cases (c == Value.type "enumerate")
      · wp_walk using q1
        exact ⟨_, rfl, h⟩
      · wp_walk using q1
        exact ⟨_, rfl, h⟩
    · wp_walk using q1
      exact ⟨_, rfl, h⟩
section
variable {prog : Program} {w : World} {A : Around} {E : Value → Shared → Prop} {s : Shared}
theorem call_enumerate_B {v : Value} {o : Obj} {H : Heap → Prop} {Q : Value → Shared → Prop} (B : Begins v o H) (h1 : H s.heap)
    (h : ∀ h', IsEnum h' (s.heap.objs.size + 1) s.heap.objs.size 0 .none → h'.get? s.heap.objs.size = some o → h'.objs.size = s.heap.objs.size + 2 →
      (∀ b o, s.heap.get? b = some o → h'.get? b = some o) → Q (.ref (s.heap.objs.size + 1)) { s with heap := h' }) :
    wpAny (model prog w) A (call (.type "enumerate") [v]) Q E s := by
  refine callType_new F.called_enumerate (by decide) (F.typeCall_enumerate_1 _) (F.newCall_enumerate_1 _) (fun obj => F.args_object_init_2 obj _) F.entry_enumerate_new
    (meets_enumerate_newB1 B) ⟨h1, ?_⟩
  have hz : (s.heap.push o).objs.size = s.heap.objs.size + 1 := Heap.size_push ..
  show _ ∧ _
  rw [hz]
  have he : IsEnum ((s.heap.push o).push { cls := .type "enumerate", data := .fields #[.none, .bool false, .ref s.heap.objs.size, rawInt 0, .none, .none] }) (s.heap.objs.size + 1) s.heap.objs.size 0 .none := by
    have := Heap.get?_push_size (s.heap.push o) (o := { cls := .type "enumerate", data := .fields #[.none, .bool false, .ref s.heap.objs.size, rawInt 0, .none, .none] }) rfl
    rw [hz] at this; exact this
  refine ⟨⟨_, he, rfl⟩, h _ he (Heap.get?_push_of_some _ (Heap.get?_push_size _ B.free)) (by rw [Heap.size_push, hz]) fun b o x => Heap.get?_push_of_some _ (Heap.get?_push_of_some _ x)⟩
end
end PySem
namespace DL
open PySem PySem.Spec PyProof.Rows L2
/-- the tuple at a, each item in a new pair -/
def IteT (K : PySem.W.Frag) (a : Addr) : It :=
  ⟨fun i H => ∃ (xs : List V) (x : V), SqT K H a xs ∧ xs[i]? = some x, fun i H v H' => ∃ T x, v = .ref T ∧ H T = none ∧ H' = upd H T (.tup [.int (i : Nat), x]) ∧ ∀ xs, SqT K H a xs → xs[i]? = some x, fun i H => ∃ xs : List V, SqT K H a xs ∧ xs.length ≤ i⟩
theorem turn_enumT {P : Program} {w : World} {K : PySem.W.Frag} {elts : List PySem.Expr} {kk : Nat} {tpos : Pos} (a e it : Addr) :
    Turn P w K (.Tuple elts kk tpos) (IteT K a) [e, it] e (fun i h => (∃ old, IsEnum h e it ((i : Nat) : Int) old) ∧ h.IsTupleIter it a i ∧ e ≠ it) where
  mem := by simp
  obj := fun i h st b hb => by
    obtain ⟨⟨old, he⟩, ⟨o, ho, hc, hd⟩, _⟩ := st
    have e' : b = e ∨ b = it := by simpa using hb
    rcases e' with z | z
    · rw [z]; exact ⟨_, he, fun v q => nomatch q⟩
    · rw [z]; exact ⟨o, ho, fun v q => by rw [hd] at q; cases q⟩
  keep := fun i h h' st k => let ⟨⟨old, he⟩, hi, hne⟩ := st; ⟨⟨old, k e (by simp) _ he⟩, hi.at fun o q => k it (by simp) o q, hne⟩
  item := by
    intro X hP hw hK hc i pins s σ H E I hf st hg
    subst hP hw hK
    obtain ⟨⟨old, he⟩, hit, hne⟩ := st
    obtain ⟨xs, x, hq, hx⟩ := hg
    obtain ⟨its, rv, p, hz⟩ := I.tuple hq
    obtain ⟨u, hu, ru⟩ := rv.get hx
    have hel : e < s.heap.objs.size := Heap.lt_size he
    have hil : it < s.heap.objs.size := by obtain ⟨_, q, _⟩ := hit; exact Heap.lt_size q
    obtain ⟨ot, hot, hct, nt, hdt⟩ := id p
    have eit : a ≠ it := fun z => by
      obtain ⟨o, q, c, _⟩ := hit
      rw [← z, hot] at q
      have eo := Option.some.inj q
      rw [← eo] at c
      exact absurd (Value.type.inj (hct.symm.trans c)) (by decide)
    have eet : e ≠ a := fun z => by
      have q : s.heap.get? e = some _ := he
      rw [z, hot] at q
      have eo := congrArg Obj.cls (Option.some.inj q)
      exact absurd (Value.type.inj (hct.symm.trans eo)) (by decide)
    have hlt : i < its.toArray.size := by
      have := (List.getElem?_eq_some_iff.mp hu).1
      simpa using this
    refine wpAny_pyNext_enum_itemD (Draws.tuple (A := X.A.in1) (I.ok.hd hc) it a eit its.toArray) he ⟨hit, p⟩ hlt hne (by simp [hne, eet]) fun x' h' tk hx' ho hit' hT hsz hk => ?_
    have hx' : its.toArray[i]? = some x' := hx'
    have eu : x' = u := by
      rw [show its.toArray[i]? = some u by simpa using hu] at hx'
      exact (Option.some.inj hx').symm
    subst eu
    refine ⟨_, rfl, wpAny_letOwnedTupleGo_enum (s := { s with heap := h', toks := tk + 1 }) ho fun h'' he' sb => ?_⟩
    have hT2 : h''.get? s.heap.objs.size = some { cls := .type "tuple", data := .seq #[.int i tk, x'] } := (sb.2 _ (Nat.ne_of_gt hel)).trans hT
    have new : ObjOk X.prog X.w (upd H s.heap.objs.size (.tup [.int (i : Nat), x])) h'' s.heap.objs.size (.tup [.int (i : Nat), x]) :=
      ⟨by show 2 ≤ sizeLine; decide, [.int i tk, x'], .cons ⟨_, rfl⟩ (.cons ru .nil), ⟨_, hT2, rfl, _, rfl⟩⟩
    have I1 : Inv X pins σ (upd H s.heap.objs.size (.tup [.int (i : Nat), x])) { s with heap := h'', toks := tk + 1 } :=
      I.turnedNew (ch := [e, it]) (fun b ob hb q => (sb.2 b (fun z => hb (by simp [z]))).trans (hk b ob (fun z => hb (by simp [z])) (fun z => hb (by simp [z])) q)) hf (Nat.le_refl _) new
    refine ⟨.ref s.heap.objs.size, _, I1, rfl, ⟨_, x, rfl, I.hok.fresh (Nat.le_refl _), rfl, fun ys hy => by rw [I.tuple_inj hy hq]; exact hx⟩, ⟨⟨x', ?_⟩, hit'.1.at fun o q => (sb.2 it (Ne.symm hne)).trans q, hne⟩, fun b hb => ?_⟩
    · have e1 : ((i + 1 : Nat) : Int) = (i : Int) + 1 := by omega
      rw [e1]; exact he'
    · have hb' : b < s.heap.objs.size := by
        have e' : b = e ∨ b = it := by simpa using hb
        rcases e' with z | z
        · rw [z]; exact hel
        · rw [z]; exact hil
      rw [upd_ne (Nat.ne_of_lt hb')]
      exact (hf b hb).1
  done := by
    intro X hP hw hK hc i pins s σ H E I hf st hg
    subst hP hw hK
    obtain ⟨⟨old, he⟩, hit, hne⟩ := st
    obtain ⟨xs, hq, hx⟩ := hg
    obtain ⟨its, rv, p, hz⟩ := I.tuple hq
    obtain ⟨f0, f1, f2, f3, f4, f5⟩ := hf it (by simp)
    have hl := rv.length
    have hT : s.TypeIs (.ref e) "enumerate" := ⟨_, he, rfl⟩
    unfold pyNext
    refine wpAny_bind (wpAny_attempt (wpAny_callSpecial?_slot (name := Str.ofString "__next__") hT F.slot_enumerate_next
      (wpAny_call_entry F.slot_enumerate_next hT F.entry_enumerate_next ?_ (F.args_enumerate_next_1 _))))
    show wpAny _ _ (field (.ref e) 2 >>= _) _ _ _
    refine wpAny_bind (wpAny_field he rfl (x := .ref it) rfl ?_)
    refine wpAny_bind (wpAny_nextOf_tuple_end (I.ok.hd hc) hit p (by simp; omega) fun h' x he' hx' => ?_)
    obtain ⟨o, ho, hcc⟩ := hx'
    refine wpAny_bind (wpAny_isInstance (T := "StopIteration") (b := true) ⟨o, ho, hcc⟩ isSubtype_stop ?_)
    exact wpAny_pure ⟨rfl, I.turned (t' := s.toks) (fun b o hb q => he' b o hb q) f0 f1 f3 f4 f5⟩
  self := fun A i s Q E st h => let ⟨⟨_, he⟩, _⟩ := st; wpAny_pyIter_enum he h
def iEnumT (K : PySem.W.Frag) (ta : TA) : TI := fun σ H R => ta σ H fun vs H1 => ∃ a xs, vs = [.ref a] ∧ SqT K H1 a xs ∧ R (IteT K a) H1
theorem pi_enumT {X : Cx} {e : PySem.Expr} {ta : TA} {p pos tpos : Pos} {elts : List PySem.Expr} {kk : Nat} (hg : Gl X "enumerate") (hm : X.mg "enumerate" = none) (ha : PA X [e] ta) (hs : starEach [e] X.env = [(false, eval e X.env)] := by rfl) :
    PI X (.Tuple elts kk tpos) (.Call (.Name "enumerate" p) [e] [] pos) (iEnumT X.K ta) := by
  refine ⟨fun pins s σ H R I h => ?_⟩
  refine Call_ (ld_blt I hg hm boot_enumerate (PyProof.Rows.callWith_type1 (thn (ha.run pos pins s σ H _ I h) fun us s1 ⟨vs, H1, I1, r1, q1⟩ => ?_) hs rfl))
  obtain ⟨a, xs, ex, hq, q⟩ := q1
  subst ex
  cases r1 with
  | cons r rr =>
    cases rr
    cases r
    obtain ⟨its, rv, p', hz⟩ := I1.tuple hq
    refine call_enumerate_B (begins_tuple a its.toArray) p' fun h' he hit hsz hk => wpAny_pyIter_enum he ?_
    have I2 : Inv X pins σ H1 { s1 with heap := h' } := I1.kept (t' := s1.toks) hk
    refine ⟨s1.heap.objs.size + 1, [s1.heap.objs.size + 1, s1.heap.objs.size], _, _, H1, rfl, I2, turn_enumT a (s1.heap.objs.size + 1) s1.heap.objs.size, ⟨⟨.none, he⟩, ⟨_, hit, rfl, rfl⟩, Nat.succ_ne_self _⟩, fun b hb => ?_, q⟩
    have e' : b = s1.heap.objs.size + 1 ∨ b = s1.heap.objs.size := by simpa using hb
    have hle : s1.heap.objs.size ≤ b := by
      rcases e' with z | z
      · rw [z]; exact Nat.le_add_right _ _
      · rw [z]; exact Nat.le_refl _
    exact I1.fpOk hle (I1.hok.fresh hle)
theorem walk_enumT {K : PySem.W.Frag} {a : Addr} {xs : List V} : Walk (IteT K a) xs.length (fun H => SqT K H a xs) (YPair (fun i => some (.int (i : Nat))) (fun i => xs[i]?)) := by
  refine ⟨fun i _ hi q => ⟨xs, xs[i], q, by simp [hi]⟩, fun _ q => ⟨xs, q, Nat.le_refl _⟩, fun i H v H' _ q y => ?_⟩
  obtain ⟨T, x, h1, h2, h3, h4⟩ := y
  exact ⟨T, .int (i : Nat), x, h1, h2, h3, rfl, h4 xs q⟩
section
variable {X : Cx} {T : List (Addr × Str)} {Z : Zx} {a e : PySem.Expr} {ta : DTA} {p pos tpos : Pos} {elts : List PySem.Expr} {kk : Nat}
def dEnumT (ta : DTA) : DTI := fun ρ R er => ta ρ (fun ds ρ1 => match ds with
  | [.d (.tup xs)] => R (enD xs) ρ1
  | _ => False) er
theorem qi_enumT (hg : Gl X "enumerate") (hm : X.mg "enumerate" = none) (ha : QA X T Z [a] ta) (hs : starEach [a] X.env = [(false, eval a X.env)] := by rfl) : QI X T Z (.Tuple elts kk tpos) (.Call (.Name "enumerate" p) [a] [] pos) (dEnumT ta) :=
  pi_imp (pi_enumT hg hm ha hs) fun σ H Q ⟨ρ, F, er, R, rep, tk, h, hk⟩ => ⟨ρ, F, er, _, rep, tk, h, fun vs H1 F1 ds ρ1 e1 rep1 rvs h1 => by
    split at h1
    · rename_i xs
      cases rvs with
      | cons r1 r2 =>
        cases r2
        cases (show Rp X.K X.mg F1 _ (.tup xs) from r1) with
        | tup q1 q2 =>
          refine ⟨_, _, rfl, rep1.ok.sub.sqt q1, hk _ H1 F1 _ ρ1 e1 rep1 (walkD_pair walk_enumT ?_ (fun H e => e.sqt q1) fun i x y hi hx hy => ?_) h1⟩
          · unfold enD
            rw [List.length_zipWith, List.length_range, q2.length]
            omega
          · obtain ⟨d, hd, rd⟩ := q2.get' hy
            cases hx
            have hi' : i < xs.length := (List.getElem?_eq_some_iff.mp hd).1
            exact ⟨_, d, by unfold enD; rw [List.getElem?_zipWith, hd, List.getElem?_range hi'], .int _, rd⟩
    · exact h1.elim⟩
end
end DL
set_option Elab.async false
set_option linter.all false
set_option maxRecDepth 100000
set_option maxHeartbeats 2000000
namespace DL
open PySem PySem.Spec PyProof.Rows L2
/-! ### min of a tuple of whole numbers -/
section
variable {prog : Program} {w : World} {A : Around} {E : Value → Shared → Prop} {s : Shared} {l : Addr} {its : List Value} {ns : List Int} {Q : Value → Shared → Prop}
theorem min_tupI {xs : Array (Int × Tok)} (hh : A.handled = none) (hl : s.heap.IsTuple l (intItems xs)) (hne : 0 < xs.size)
    (h : ∀ v h' tk, (intItems xs)[argBest (fun i j => decide (numAt xs i < numAt xs j)) (xs.size - 1)]? = some v → (∀ b o, s.heap.get? b = some o → h'.get? b = some o) → Q v { s with heap := h', toks := tk }) :
    wpAny (model prog w) A (call (.builtin "min") [.ref l]) Q E s := by
  have hlt : l < s.heap.objs.size := by obtain ⟨_, e, _⟩ := hl; exact Heap.lt_size e
  refine call_min_walk (wpAny_pyIter_tuple hl ?_)
  refine ⟨_, [s.heap.objs.size, l], [s.heap.objs.size], _, _, _, _, rfl, Walks.tuple (A := A.in1) hh _ l (Nat.ne_of_lt hlt) (intItems xs), ⟨⟨_, Heap.get?_push_size _ rfl, rfl, rfl⟩, hl.push _⟩, fun b hb => ?_, by simpa [intItems] using hne, CmpOf.ints_lt (numAt xs) (fun _ _ => intItems_at), fun v h' tk hP hk => ?_⟩
  · show b < (s.heap.push _).objs.size
    rw [Heap.size_push]
    rcases List.mem_cons.mp hb with rfl | hb
    · exact Nat.lt_succ_self _
    · rcases List.mem_cons.mp hb with rfl | hb
      · exact Nat.lt_succ_of_lt hlt
      · cases hb
  · refine h v h' tk (by simpa [intItems] using hP) fun b o e => hk b o ?_ (Heap.get?_push_of_some _ e)
    intro hb
    rcases List.mem_cons.mp hb with rfl | hb
    · exact absurd (Heap.lt_size e) (Nat.lt_irrefl _)
    · cases hb
theorem min_tup_raw (hh : A.handled = none) (hl : s.heap.IsTuple l its.toArray) (hi : IntsAre its ns) (hne : 0 < ns.length)
    (h : ∀ h' tk M t', (∀ b o, s.heap.get? b = some o → h'.get? b = some o) → M ∈ ns → (∀ a, a ∈ ns → M ≤ a) → Q (.int M t') { s with heap := h', toks := tk }) : wpAny (model prog w) A (call (.builtin "min") [.ref l]) Q E s := by
  obtain ⟨xs, e⟩ := hi.allInts.items
  have hn : numsOf (intItems xs).toList = ns := by rw [← e]; exact hi.numsOf
  rw [nums_intItems] at hn
  subst hn
  rw [e] at hl
  have hsz : 0 < xs.size := by simpa using hne
  refine min_tupI hh hl hsz fun v h' tk hv hk => ?_
  obtain ⟨t, rfl⟩ := intItems_at hv
  obtain ⟨h1, h2⟩ := argBest_lt (numAt xs) (xs.size - 1)
  refine h h' tk _ t hk ?_ fun a ha => ?_
  · rw [numAt_eq]; exact PySem.getD_mem (by rw [List.length_map, Array.length_toList]; omega)
  · obtain ⟨j, hj, rfl⟩ := mem_getD ha
    rw [List.length_map, Array.length_toList] at hj
    rw [← numAt_eq]; exact h2 j (by omega)
end
section
variable {X : Cx} {T : List (Addr × Str)} {Z : Zx} {a : PySem.Expr} {es : List PySem.Expr} {ta : DTA} {p pos : Pos}
def rMinT (K : PySem.W.Frag) : List V → Hp → VK → Prop := fun vs H Q => ∃ (a : Addr) (ns : List Int), vs = [V.ref a] ∧ SqT K H a (ns.map V.int) ∧ 0 < ns.length ∧ ∀ m, m ∈ ns → (∀ y, y ∈ ns → m ≤ y) → Q (.int m) H
theorem cr_minT (hc : X.calm = true) : CallR X (.builtin "min") (rMinT X.K) := by
  intro pins s σ H vs us Q I r h
  obtain ⟨a, ns, rfl, hs, hne, q⟩ := h
  obtain ⟨its, rv, hl, _⟩ := I.tuple hs
  rw [Vals.ref1 r]
  exact min_tup_raw (I.ok.hd hc) hl rv.ints hne fun h' tk m t' hk h1 h2 => ⟨.int _, H, I.kept hk, ⟨_, rfl⟩, q m h1 h2⟩
def gMinT : List D → (D → Prop) → Prop
  | [.tup xs], R => match inD xs with
    | some bs => 0 < bs.length ∧ ∀ m, m ∈ bs → (∀ y, y ∈ bs → m ≤ y) → R (.int m)
    | none => False
  | _, _ => False
theorem qe_minT (hc : X.calm = true) (hg : Gl X "min") (hm : X.mg "min" = none) (ha : QA X T Z (a :: es) ta)
    (he : starEach (a :: es) X.env = (false, eval a X.env) :: starEach es X.env := by rfl) (hpl : (backTo pos (starEach es X.env)).any (·.1) = false := by rfl) : QE X T Z (.Call (.Name "min" p) (a :: es) [] pos) (dB gMinT ta) :=
  qe_B (cr_minT hc) (okB_at fun dr F H vs ds R k rv h => by
    unfold gMinT at h
    split at h
    · split at h
      · rename_i bs hb
        obtain ⟨v, rfl, r1⟩ := rv.one
        cases r1 with
        | tup h1 h2 =>
          rw [h2.ins hb] at h1
          obtain ⟨m, m1, m2⟩ := min_in h.1
          exact ⟨_, _, .int m, h.2 m m1 m2, fun Q q => ⟨_, _, rfl, k.sub.sqt h1, h.1, fun m' m3 m4 => by
            rw [min_one m3 m4 m1 m2]
            exact q⟩⟩
      · exact h.elim
    · exact h.elim) (by decide +kernel) hg hm ha (by decide) (by decide) he hpl
end
end DL
set_option Elab.async false
set_option linter.all false
set_option maxRecDepth 100000
set_option maxHeartbeats 4000000
namespace DL
open PySem PySem.Spec PyProof.Rows L2
/-! ### f(k = e, ..), f with defaults, all of them given -/
section
variable {X : Cx} {T : List (Addr × Str)} {Z : Zx} {ta : DTA} {p pos : Pos} {x : Str} {st : Stmt} {ps : List Str} {zs : List Int} {k j : Nat} {pt : Pt}
theorem qe_callKD {kws : List Keyword} {ks : List Str} {ix : List Nat} (O : FoD X.prog X.w X.K X.mg X.base x st ps zs k (SpF X.K X.mg T pt)) (hzs : zs ≠ []) (hr : Room j X.A) (hkj : k ≤ j) (hg : Gl X x) (hkw : QK X T Z kws ta)
    (hbind : ∀ (t : Addr) (kV doc pm : Value) (an : Option Addr) (cdv ct : Value) (ws us its : List Value), ws.length = ix.length → ix.map (ws[·]?) = us.map some → its.length = zs.length →
      ∃ c, bindArgs (PySem.W.fnOf x x (defArgs st) (defBody st) (defScope st) (.ref t) kV doc pm an cdv ct) ⟨[], ks.zip ws⟩ = seqItems? (.ref t) >>= c ∧ c (some its.toArray) = pure (ps.zip us))
    (hall : (backToKw pos (keywordEach kws X.env)).all (·.1.isSome) = true := by rfl) (hks : (backToKw pos (keywordEach kws X.env)).filterMap (·.1) = ks := by rfl) (hdb : (x == ("__debug__" : Str)) = false := by decide)
    (hpl : ((backTo pos (starEach [] X.env)).any (·.1) || (backToKw pos (keywordEach kws X.env)).any (·.1.isNone)) = false := by rfl) : QE X T Z (.Call (.Name x p) [] kws pos) (dCallK pt ix ta) := by
  obtain ⟨f, fd, hm, F0, _, _, ok⟩ := O.ex
  refine ⟨fun pins s σ H Q I ⟨ρ, F, er, R, rep, tk, h, hk⟩ => ?_⟩
  refine wpAny_Call_Name_kw (ld_glob I hg hm ?_ hdb)
  have h1 := hkw.run pos pins s σ H (fun vs H1 => vs.length = ix.length ∧ ∃ ws, ix.map (vs[·]?) = ws.map some ∧ SpF X.K X.mg T pt ws H1 Q (WE (Wer X.K X.mg T Z er) σ)) I ⟨ρ, F, er, _, rep, tk, h, fun vs H1 F1 ds ρ1 e1 rep1 rvs h1 => by
    obtain ⟨hl, es, he, h2⟩ := h1
    obtain ⟨ws, e2, r2⟩ := ix_rel rvs he
    exact ⟨(Paired.length rvs).trans hl, ws, e2, call_step (R := R) e1 rep1 r2 h2 (fun _ _ _ w => w) hk⟩⟩
  refine PySem.W.callWith_KW0 (h₀ := X.base) I.ok.mod.kin F0.kp hall (thn h1 fun ws s1 ⟨vs, H1, I1, r, hl, zs, hz, q⟩ => ⟨I1.kIn, ?_⟩) hpl
  rw [hks]
  obtain ⟨us, hu, r2⟩ := ix_rel (pflip r) hz
  have r3 : Vals zs us := pflip r2
  obtain ⟨oc, od, dV, kV, doc, pm, an, cdv, ct, osl, rfl, lk, hcd, hD, hK⟩ := F0.ex
  rcases hD with ⟨e, _⟩ | ⟨_, D0, o0, its, n0, rfl, lT, oT, rT⟩
  · exact absurd (List.map_eq_nil_iff.mp e) hzs
  obtain ⟨c0, e1, e2⟩ := hbind D0 kV doc pm an cdv ct ws us its (r.length.symm.trans hl) hu (by rw [← rT.length, List.length_map])
  have hbt : BindsTo s1 (PySem.W.fnOf x x (defArgs st) (defBody st) (defScope st) (.ref D0) kV doc pm an cdv ct) ⟨[], ks.zip ws⟩ (ps.zip us) := BindsTo.of_looks fun M => by
    rw [e1]
    exact looks_items I1.kIn lT oT (.of_pure e2)
  refine wpAny_call (codeAny_mono (ok.run X.A X.stack s1 H1 ⟨[], ks.zip ws⟩ us zs Q _ (hr.mono hkj) I1.env0 hbt r3 q) fun r s' hq => ?_)
  cases r with
  | error e => exact passAt tk σ pins H1 s1 e s' I1 hq
  | ok fl =>
    cases fl with
    | ret u => exact I1.after hq
    | next => exact False.elim hq
    | brk => exact False.elim hq
    | cont => exact False.elim hq
end
end DL
set_option Elab.async false
set_option linter.all false
set_option maxRecDepth 100000
set_option maxHeartbeats 4000000
/-! ### range(a, b) of any whole numbers: the other iterator -/
namespace PySem
open Sem (wp)
section
variable {prog : Program} {w : World} {A : Around} {E : Value → Shared → Prop} {s : Shared}
theorem pyIter_rangeL {r : Addr} {a b c : Int} {t u v : Tok} {Q : Value → Shared → Prop} (hr : IsRange s.heap r a b c t u v) (hl : Builtin.Range.small a b c = false)
    (hQ : Q (.ref s.heap.objs.size) { s with heap := s.heap.push { cls := .type "longrange_iterator", data := .fields #[rawInt a, rawInt (Builtin.Range.rangeSize a b c), rawInt c] } }) :
    wpAny (model prog w) A (pyIter (.ref r)) Q E s := by
  have hT : s.TypeIs (.ref r) "range" := ⟨_, hr, rfl⟩
  refine wpAny_pyIter_slot hT F.slot_range_iter (call_meets F.slot_range_iter hT F.entry_range_iter (F.args_range_iter_1 _)
    (AutoRange.range___iter___range_0 r a b c t u v (by unfold Builtin.Range.small at hl; simp [hl])) ⟨hr, ?_⟩)
  unfold Builtin.Range.small at hl
  simp only [hl, Bool.false_eq_true, if_false]
  exact ⟨"longrange_iterator", _, ⟨_, Heap.get?_push_size _ rfl, rfl⟩, F.slot_longrange_iterator_next.lookup, hQ⟩
end
theorem Walks.long {prog : Program} {w : World} {A : Around} (hh : A.handled = none) (I : Addr) (a c : Int) (n : Nat) :
    Walks prog w A I [I] [I] n (fun i v => ∃ t, v = .int (a + i * c) t) (fun i h => IsLongIter h I (a + (i : Nat) * c) ((n : Int) - (i : Nat)) c) where
  sub := fun _ hb => hb
  frame := fun _ _ _ st hk => hk I (by simp) _ st
  item := fun i s Q E hi st hQ => by
    refine wpAny_pyNext_long_item st (by omega) fun h' hit' hs' => ?_
    refine hQ _ h' _ ⟨_, rfl⟩ ?_ fun b o hb e => hs'.extBut b o (fun h => hb (by simp [h])) e
    have e1 : a + ((i + 1 : Nat) : Int) * c = a + (i : Int) * c + c := by push_cast; rw [Int.add_mul, Int.one_mul, Int.add_assoc]
    have e2 : (n : Int) - ((i + 1 : Nat) : Int) = (n : Int) - (i : Int) - 1 := by push_cast; omega
    rw [e1, e2]; exact hit'
  done := fun s Q E st hQ => wpAny_pyNext_long_end hh st (by omega) fun h' he' => hQ h' s.toks fun b o hb e => he' b o (fun h => hb (by simp [h])) e
  self := fun _ _ _ _ st hQ => wpAny_pyIter_longiter st hQ
end PySem
namespace DL
open PySem PySem.Spec PyProof.Rows L2
theorem turn_long {P : Program} {w : World} {K : PySem.W.Frag} {tg : PySem.Expr} (it : Addr) (lo : Int) (n : Nat) : Turn P w K tg (Itr lo n) [it] it (fun i h => IsLongIter h it (lo + (i : Nat) * 1) ((n : Int) - (i : Nat)) 1) where
  mem := by simp
  obj := fun i h st b hb => by
    have e : b = it := by simpa using hb
    rw [e]
    exact ⟨_, st, fun v q => nomatch q⟩
  keep := fun i h h' st k => k it (by simp) _ st
  item := by
    intro X hP hw hK hc i pins s σ H E I hf st hg
    subst hP hw hK
    obtain ⟨f0, f1, f2, f3, f4, f5⟩ := hf it (by simp)
    have W := Walks.long (prog := X.prog) (w := X.w) (I.ok.hd hc) it lo 1 n
    refine W.item i s _ _ hg st fun v h' tk hv st' kk => ?_
    obtain ⟨t, rfl⟩ := hv
    have I1 : Inv X pins σ H { s with heap := h', toks := tk } := I.turned (fun b o hb e => kk b o (by simpa using hb) e) f0 f1 f3 f4 f5
    refine ⟨_, rfl, go_of (s := { s with heap := h', toks := tk }) (n := "longrange_iterator") st' rfl rfl (by decide) ⟨.int (lo + i), H, I1, ⟨t, ?_⟩, ⟨rfl, rfl⟩, st', fun b hb => (hf b hb).1⟩⟩
    rw [Int.mul_one]
  done := by
    intro X hP hw hK hc i pins s σ H E I hf st hg
    subst hP hw hK
    obtain ⟨f0, f1, f2, f3, f4, f5⟩ := hf it (by simp)
    exact wpAny_pyNext_long_end (I.ok.hd hc) st (by have : n ≤ i := hg; omega) fun h' eb => ⟨rfl, I.turned (t' := s.toks) (fun b o hb e => eb b o hb e) f0 f1 f3 f4 f5⟩
  self := fun _ _ _ _ _ st h => wpAny_pyIter_longiter st h
section
variable {X : Cx} {tg : PySem.Expr}
theorem range_itB {pins : List (Addr × Obj)} {σ : L2.St} {H : Hp} {s : Shared} {R : It → Hp → Prop} {E : Value → Shared → Prop} {lo hi : Int} {t u v : Tok} {tk : Nat} (I : Inv X pins σ H s)
    (q : R (Itr lo (hi - lo).toNat) H) : wpAny (model X.prog X.w) X.A (pyIter (.ref s.heap.objs.size)) (PIE X pins σ tg R) E { s with heap := s.heap.push { cls := .type "range", data := .fields #[.int lo t, .int hi u, .int 1 v] }, toks := tk } := by
  have I1 : Inv X pins σ H { s with heap := s.heap.push { cls := .type "range", data := .fields #[.int lo t, .int hi u, .int 1 v] }, toks := tk } := I.kept fun b o e => Heap.get?_push_of_some _ e
  have e1 : lo + ((0 : Nat) : Int) * 1 = lo := by simp
  have e2 : (((hi - lo).toNat : Nat) : Int) - ((0 : Nat) : Int) = Builtin.Range.rangeSize lo hi 1 := by rw [rangeSize_one]; split <;> omega
  cases hs : Builtin.Range.small lo hi 1 with
  | true =>
    refine wpAny_pyIter_range (IsRange.new ..) hs ?_
    refine ⟨(s.heap.push { cls := .type "range", data := .fields #[.int lo t, .int hi u, .int 1 v] }).objs.size, [(s.heap.push { cls := .type "range", data := .fields #[.int lo t, .int hi u, .int 1 v] }).objs.size], _, _, H, rfl,
      I1.kept (t' := tk) fun b o e => Heap.get?_push_of_some _ e, turn_range _ lo (hi - lo).toNat, ?_, fun b hb => ?_, q⟩
    · show IsRangeIter _ _ (lo + ((0 : Nat) : Int) * 1) ((((hi - lo).toNat : Nat) : Int) - ((0 : Nat) : Int)) 1
      rw [e1, e2]
      exact Heap.get?_push_size _ rfl
    · have e : b = (s.heap.push { cls := .type "range", data := .fields #[.int lo t, .int hi u, .int 1 v] }).objs.size := by simpa using hb
      subst e
      exact I1.fpOk (Nat.le_refl _) (I1.hok.fresh (Nat.le_refl _))
  | false =>
    refine pyIter_rangeL (IsRange.new ..) hs ?_
    refine ⟨(s.heap.push { cls := .type "range", data := .fields #[.int lo t, .int hi u, .int 1 v] }).objs.size, [(s.heap.push { cls := .type "range", data := .fields #[.int lo t, .int hi u, .int 1 v] }).objs.size], _, _, H, rfl,
      I1.kept (t' := tk) fun b o e => Heap.get?_push_of_some _ e, turn_long _ lo (hi - lo).toNat, ?_, fun b hb => ?_, q⟩
    · show IsLongIter _ _ (lo + ((0 : Nat) : Int) * 1) ((((hi - lo).toNat : Nat) : Int) - ((0 : Nat) : Int)) 1
      rw [e1, e2]
      exact Heap.get?_push_size _ rfl
    · have e : b = (s.heap.push { cls := .type "range", data := .fields #[.int lo t, .int hi u, .int 1 v] }).objs.size := by simpa using hb
      subst e
      exact I1.fpOk (Nat.le_refl _) (I1.hok.fresh (Nat.le_refl _))
def iRng2B (ta : TA) : TI := fun σ H R => ta σ H fun vs H1 => ∃ i j : Int, vs = [.int i, .int j] ∧ R (Itr i (j - i).toNat) H1
theorem pi_range2B {a b : PySem.Expr} {ta : TA} {p pos : Pos} (hg : Gl X "range") (hm : X.mg "range" = none) (ha : PA X [a, b] ta) (hs : starEach [a, b] X.env = [(false, eval a X.env), (false, eval b X.env)] := by rfl) (hs2 : starEach [b] X.env = [(false, eval b X.env)] := by rfl) :
    PI X tg (.Call (.Name "range" p) [a, b] [] pos) (iRng2B ta) := by
  refine ⟨fun pins s σ H R I h => ?_⟩
  refine Call_ (ld_blt I hg hm boot_range (PyProof.Rows.callWith_type1 (thn (ha.run pos pins s σ H _ I h) fun us s1 ⟨vs, H1, I1, r1, q1⟩ => ?_) (by rw [hs, hs2]) (by rw [hs2]; rfl)))
  obtain ⟨i, j, e, q⟩ := q1
  subst e
  cases r1 with
  | cons r rr =>
    cases rr with
    | cons r' rr =>
      cases rr
      obtain ⟨t, rfl⟩ := r
      obtain ⟨t', rfl⟩ := r'
      exact call_range_2 (range_itB I1 q)
end
section
variable {X : Cx} {T : List (Addr × Str)} {Z : Zx} {a b tg : PySem.Expr} {p pos : Pos}
def dRngB (ta : DTA) : DTI := fun ρ R er => ta ρ (fun ds ρ1 => match ds with
  | [.d (.int i), .d (.int j)] => R (rngD i (j - i).toNat) ρ1
  | _ => False) er
theorem qi_rngB {t : DTA} (hg : Gl X "range") (hm : X.mg "range" = none) (ha : QA X T Z [a, b] t) (hs : starEach [a, b] X.env = [(false, eval a X.env), (false, eval b X.env)] := by rfl) (hs2 : starEach [b] X.env = [(false, eval b X.env)] := by rfl) : QI X T Z tg (.Call (.Name "range" p) [a, b] [] pos) (dRngB t) :=
  pi_imp (pi_range2B hg hm ha hs hs2) fun σ H Q ⟨ρ, F, er, R, rep, tk, h, hk⟩ => ⟨ρ, F, er, _, rep, tk, h, fun vs H1 F1 ds ρ1 e1 rep1 rvs h1 => by
    split at h1
    · cases rvs with
      | cons r1 r2 =>
        cases r2 with
        | cons r2 r3 =>
          cases r3
          cases (show Rp X.K X.mg F1 _ (.int _) from r1)
          cases (show Rp X.K X.mg F1 _ (.int _) from r2)
          exact ⟨_, _, rfl, hk _ H1 F1 _ ρ1 e1 rep1 walkD_range h1⟩
    · exact h1.elim⟩
end
end DL
set_option Elab.async false
set_option linter.all false
set_option maxRecDepth 100000
set_option maxHeartbeats 2000000
namespace DL
open PySem PySem.Spec PyProof.Rows L2
/-! ### one text not within another -/
def gNotInT : D → D → (D → Prop) → Prop
  | .str i, .str j, R => R (.bl (!inT i j))
  | _, _, _ => False
section
variable {X : Cx} {T : List (Addr × Str)} {Z : Zx} {a b : PySem.Expr} {ta tb : DTE} {pos : Pos}
theorem ok_notInT : Ok2 X T (fun x y H Q => ∃ i j, x = .str i ∧ y = .str j ∧ Q (.bl (!(!(Builtin.Str.occurrences j i 0 j.length 1).isEmpty))) H) gNotInT := ok2_at fun _ _ F H v w x y R k rx ry hg => by
  cases rx <;> try exact hg.elim
  cases ry <;> try exact hg.elim
  exact ⟨_, _, .bl _, hg, fun Q q => ⟨_, _, rfl, rfl, q⟩⟩
theorem qt_notInT (hm : behindInMarks .NotIn b = false) (ha : QE X T Z a ta) (hb : QE X T Z b tb) : QT X T Z (.Compare a [.NotIn] [b] pos) (dVal (dBin gNotInT ta tb)) := qt_cmp op_notIn_str ok_notInT hm ha hb
theorem qe_notInT (hm : behindInMarks .NotIn b = false) (ha : QE X T Z a ta) (hb : QE X T Z b tb) : QE X T Z (.Compare a [.NotIn] [b] pos) (dBin gNotInT ta tb) := qe_cmp op_notIn_str ok_notInT hm ha hb
end
end DL
set_option Elab.async false
set_option linter.all false
set_option maxRecDepth 100000
set_option maxHeartbeats 4000000
namespace DL
open PySem PySem.Spec PyProof.Rows L2
/-! ### (..,) * n for few n, none and one too -/
theorem tuple_mul0 (l : Addr) (items : Array Value) (n : Nat) (dd : Option Addr) (sl : Array (Option Value)) (x : Int) (u : Tok) (c0 : (decide (x < -(2 ^ 63)) || decide (x ≥ 2 ^ 63)) = false) (c1 : (items.isEmpty || x == 1) = false) (c2 : (decide (x ≤ 0) || items.isEmpty) = true) :
    Meets (Builtin.«tuple.__mul__» ⟨[.ref l, .int x u], []⟩) (fun _ R s => s.heap.get? l = some { cls := .type "tuple", dict := dd, data := .seq items n, slots := sl } ∧
      R (.ok (.ret (Value.ref s.heap.objs.size))) { s with heap := s.heap.push { cls := Value.type "tuple", data := Data.seq #[] }, toks := s.toks }) :=
  .of_wp fun prog w A R s h => by
    obtain ⟨hp, g, d, tk, os⟩ := s
    obtain ⟨hl, h⟩ := h
    have f1 := AutoSeq1.idx_int
    wp_walk using wpAny_loadPart' hl
    repeat (first
      | (refine wpAny_ite_false (decide_eq_false (by rw [c0]; exact Bool.false_ne_true)) ?_; wp_walk using wpAny_loadPart' hl)
      | (refine wpAny_ite_false (decide_eq_false (by rw [c1]; exact Bool.false_ne_true)) ?_; wp_walk using wpAny_loadPart' hl)
      | (refine wpAny_ite_true (decide_eq_true c2) ?_; wp_walk using wpAny_loadPart' hl))
    exact ⟨_, rfl, h⟩
theorem tuple_mul1 (l : Addr) (items : Array Value) (n : Nat) (dd : Option Addr) (sl : Array (Option Value)) (x : Int) (u : Tok) (c0 : (decide (x < -(2 ^ 63)) || decide (x ≥ 2 ^ 63)) = false) (c1 : (items.isEmpty || x == 1) = true) :
    Meets (Builtin.«tuple.__mul__» ⟨[.ref l, .int x u], []⟩) (fun _ R s => s.heap.get? l = some { cls := .type "tuple", dict := dd, data := .seq items n, slots := sl } ∧
      R (.ok (.ret (.ref l))) s) :=
  .of_wp fun prog w A R s h => by
    obtain ⟨hp, g, d, tk, os⟩ := s
    obtain ⟨hl, h⟩ := h
    have f1 := AutoSeq1.idx_int
    wp_walk using wpAny_loadPart' hl
    repeat (first
      | (refine wpAny_ite_false (decide_eq_false (by rw [c0]; exact Bool.false_ne_true)) ?_; wp_walk using wpAny_loadPart' hl)
      | (refine wpAny_ite_true (decide_eq_true c1) ?_; wp_walk using wpAny_loadPart' hl))
    exact ⟨_, rfl, h⟩
def rRepT2 (K : PySem.W.Frag) : R2 := fun x y H Q => ∃ l k xs, x = .ref l ∧ y = .int k ∧ SqT K H l xs ∧ xs ≠ [] ∧ 0 ≤ k ∧ k ≤ 1000 ∧ xs.length ≤ 1000 ∧ (k = 1 → Q (.ref l) H) ∧ (k ≠ 1 → ∀ p, H p = none → Q (.ref p) (upd H p (.tup (List.replicate k.toNat xs).flatten)))
section
variable {X : Cx}
theorem op_repT2 : OpR X (binaryOp .Mult) (rRepT2 X.K) := by
  intro pins s σ H x y v u Q I rx ry h
  obtain ⟨l, k, xs, rfl, rfl, hT, hne, h1, h2, hz, q1, q2⟩ := h
  by_cases z2 : 2 ≤ k
  · exact op_repT pins s σ H _ _ v u Q I rx ry ⟨l, k, xs, rfl, rfl, hT, hne, z2, h2, hz, q2 (by omega)⟩
  · cases rx
    obtain ⟨t, rfl⟩ := ry
    obtain ⟨its, r, ⟨⟨cls, dd, data, sl⟩, ho, hc, n, hd⟩, hs⟩ := I.tuple hT
    simp only at hc hd
    subst hc hd
    have hle : its.length = xs.length := r.length.symm
    have hn : its ≠ [] := fun e => hne (by
      rw [e] at hle
      exact List.eq_nil_of_length_eq_zero hle.symm)
    have hi : its.toArray.isEmpty = false := by
      cases its with
      | nil => exact absurd rfl hn
      | cons a b => rfl
    have c0 : (decide (k < -(2 ^ 63)) || decide (k ≥ 2 ^ 63)) = false := by
      rw [decide_eq_false (by omega), decide_eq_false (by omega)] <;> rfl
    by_cases z1 : k = 1
    · have c1 : (its.toArray.isEmpty || k == 1) = true := by
        rw [hi, Bool.false_or]
        exact beq_iff_eq.mpr z1
      refine wpAny_binaryOp_repeat_ref (T := "tuple") (U := "int") (by decide) ⟨_, ho, rfl⟩ (fun s' => typeIs_int s' k t) noFill_tuple_mul F.fills_int_mul F.slot_int_rmul repeat_tuple F.slot_int_index.lookup
        (call_meets F.slot_int_rmul (typeIs_int s k t) F.entry_int_rmul (F.args_int_rmul_2 _ _) (int_rmul_tuple k t l its.toArray n dd sl)
          ⟨ho, rfl, ⟨_, ho, rfl⟩, call_meets F.slot_tuple_mul ⟨_, ho, rfl⟩ F.entry_tuple_mul (F.args_tuple_mul_2 _ _) (tuple_mul1 l its.toArray n dd sl k t c0 c1) ⟨ho, ?_⟩⟩)
      exact ⟨.ref l, _, I, rfl, q1 z1⟩
    · have z0 : k = 0 := by omega
      have c1 : (its.toArray.isEmpty || k == 1) = false := by
        rw [hi, Bool.false_or]
        exact beq_eq_false_iff_ne.mpr z1
      have c2 : (decide (k ≤ 0) || its.toArray.isEmpty) = true := by
        rw [hi, Bool.or_false]
        exact decide_eq_true (by omega)
      refine wpAny_binaryOp_repeat_ref (T := "tuple") (U := "int") (by decide) ⟨_, ho, rfl⟩ (fun s' => typeIs_int s' k t) noFill_tuple_mul F.fills_int_mul F.slot_int_rmul repeat_tuple F.slot_int_index.lookup
        (call_meets F.slot_int_rmul (typeIs_int s k t) F.entry_int_rmul (F.args_int_rmul_2 _ _) (int_rmul_tuple k t l its.toArray n dd sl)
          ⟨ho, rfl, ⟨_, ho, rfl⟩, call_meets F.slot_tuple_mul ⟨_, ho, rfl⟩ F.entry_tuple_mul (F.args_tuple_mul_2 _ _) (tuple_mul0 l its.toArray n dd sl k t c0 c1 c2) ⟨ho, ?_⟩⟩)
      have q := q2 z1
      rw [z0] at q
      refine ⟨.ref s.heap.objs.size, _, I.laid (t' := s.toks) (o := .tup []) (fun b ob q => Heap.get?_push_of_some _ q) (Nat.le_refl _) ?_, rfl, q _ (I.hok.fresh (Nat.le_refl _))⟩
      exact ⟨Nat.zero_le _, [], .nil, IsTup.new _ _⟩
end
section
variable {X : Cx} {T : List (Addr × Str)} {Z : Zx} {a b : PySem.Expr} {ta tb : DTE} {pos : Pos}
def gRepT : D → D → (D → Prop) → Prop
  | .tup xs, .int k, R => xs ≠ [] ∧ 0 ≤ k ∧ k ≤ 1000 ∧ xs.length ≤ 1000 ∧ R (.tup (List.replicate k.toNat xs).flatten)
  | _, _, _ => False
theorem qe_repT (ha : QE X T Z a ta) (hb : QE X T Z b tb) : QE X T Z (.BinOp a .Mult b pos) (dBin gRepT ta tb) :=
  qe_bin op_repT2 (fun dr F H v w x y Q R k rx ry hg hq => by
    cases rx <;> try exact hg.elim
    cases ry <;> try exact hg.elim
    rename_i l xs ds h1 h2 i
    obtain ⟨g1, g2, g3, g4, g5⟩ := hg
    have lx : xs.length = ds.length := h2.length
    refine ⟨_, _, _, rfl, rfl, k.sub.sqt h1, fun e => g1 (by rw [e] at lx; exact List.eq_nil_of_length_eq_zero lx.symm), g2, g3, by omega, fun e => ?_, fun e p hp => ?_⟩
    · subst e
      have e2 : (List.replicate (1 : Int).toNat ds).flatten = ds := by simp
      rw [e2] at g5
      exact hq _ _ _ _ (Grw.refl ..) k (.tup h1 h2) g5
    · obtain ⟨f1, k1, r1⟩ := laid_tup k hp (h2.rep i.toNat)
      exact hq _ _ _ _ f1 k1 r1 g5) ha hb
end
end DL
set_option Elab.async false
set_option linter.all false
set_option maxRecDepth 100000
set_option maxHeartbeats 2000000
namespace K40
open PySem PySem.Spec PyProof.Rows L2 DL
/-! ### what each def promises -/
def ty (d : D) : Prop := (tyD d).isSome = true
def isNum : D → Bool
  | .int _ => true
  | _ => false
def isFT (a b : Int) : D → Bool
  | .int i => decide (a ≤ i) && decide (i ≤ b)
  | _ => false
abbrev isL : D → Bool := isFT (-1000000) 1000000
def isW : D → Bool
  | .tup xs => decide (xs.length ≤ 500) && xs.all isL
  | _ => false
/-- what is judged: a tuple of plain things, or any thing -/
def okB (d : D) : Bool := (tyD d).isSome && d.plainX && match d with
  | .tup xs => decide (xs.length ≤ 1000) && xs.all fun x => (tyD x).isSome && match x with
    | .int _ => true
    | .bl _ => true
    | .non => true
    | .str s => PyData.strOk s
    | _ => false
  | _ => true
abbrev wd (ws : List Int) : D := .tup (ws.map D.int)
structure W (ws : List Int) : Prop where
  l : ws.length ≤ 500
  b : ∀ x ∈ ws, -1000000 ≤ x ∧ x ≤ 1000000
/-- the sum of the first letters -/
def pf (ws : List Int) (i : Nat) : Int := (ws.take i).sum
def gap (ws : List Int) (l i : Nat) : Int := pf ws (i + l) - pf ws i
structure Bad (ws : List Int) (l i j : Nat) : Prop where
  ij : i < j
  jl : j + l ≤ ws.length
  g : gap ws l i - gap ws l j > 1 ∨ gap ws l j - gap ws l i > 1
/-- by what a word is not balanced -/
def Fu (ws : List Int) (d : D) : Prop := (d = .non ∧ ∀ l i j, 1 ≤ l → ¬ Bad ws l i j) ∨ ∃ l i j : Nat, d = .tup [.int l, .int i, .int j] ∧ 1 ≤ l ∧ Bad ws l i j ∧ (∀ l' i' j', 1 ≤ l' → l' < l → ¬ Bad ws l' i' j') ∧ (∀ i' j', i' < i → ¬ Bad ws l i' j') ∧ ∀ j', j' < j → ¬ Bad ws l i j'
abbrev sumsD (ws : List Int) : D := .lst ((List.range (ws.length + 1)).map fun i => .int (pf ws i))
abbrev gapsD (ws : List Int) (l : Nat) : D := .lst ((List.range (ws.length + 1 - l)).map fun i => .int (gap ws l i))
structure St (a b c : Int) : Prop where
  a1 : -1000000000 ≤ a
  a2 : a ≤ 1000000000
  b1 : -1000000000000 ≤ b
  b2 : b ≤ 1000000000000
  c1 : 1 ≤ c
  c2 : c ≤ 400
abbrev std (a b c : Int) : D := .tup [.int a, .int b, .int c]
def va (a b c n : Int) : Int := (a * n + b) / c
def shW (a b c f : Int) (n : Nat) : List Int := (List.range n).map fun i : Nat => va a b c (f + i + 1) - va a b c (f + i)
def bl : Er := ⟨"BadLetters", none⟩
def p_is_number : Pt := fun ds R er => ∃ d, ds = [.d d] ∧ ty d ∧ R (.bl (isNum d))
def p_is_from_to : Pt := fun ds R er => ∃ d a b, ds = [.d d, .d (.int a), .d (.int b)] ∧ ty d ∧ R (.bl (isFT a b d))
def p_is_word_told : Pt := fun ds R er => ∃ d, ds = [.d d] ∧ okB d = true ∧ R (.bl (isW d))
def p_need_letters : Pt := fun ds R er => ∃ d, ds = [.d d] ∧ okB d = true ∧ (isW d = true → R .non) ∧ (isW d = false → er bl)
def p_sums_of : Pt := fun ds R er => ∃ ws, ds = [.d (wd ws)] ∧ W ws ∧ R (sumsD ws)
def p_stretch_sums : Pt := fun ds R er => ∃ ws, ∃ l : Nat, ds = [.d (sumsD ws), .d (.int l)] ∧ ws.length ≤ 500 ∧ l ≤ ws.length ∧ R (gapsD ws l)
def p_first_unbalanced : Pt := fun ds R er => ∃ ws d, ds = [.d (wd ws)] ∧ W ws ∧ Fu ws d ∧ R d
/-- a question about a word -/
def askP (f : D → D) : Pt := fun ds R er => ∃ x, ds = [.d x] ∧ okB x = true ∧ ((isW x = false ∧ er bl) ∨ ∃ ws d, x = wd ws ∧ W ws ∧ Fu ws d ∧ R (f d))
def p_is_balanced : Pt := askP fun d => .bl (isNon d)
/-- the greatest of fractions over some stretches -/
structure Top (F : Nat → Nat → Int) (P : Nat → Nat → Prop) (u v : Int) : Prop where
  v1 : 1 ≤ v
  got : ∃ l i : Nat, P l i ∧ u = F l i ∧ v = l
  all : ∀ l i : Nat, P l i → F l i * v ≤ u * l
/-- the stretches of n letters -/
def In (n l i : Nat) : Prop := 1 ≤ l ∧ i + l ≤ n
abbrev up (ws : List Int) (l i : Nat) : Int := gap ws l i - 1
abbrev dn (ws : List Int) (l i : Nat) : Int := -(gap ws l i + 1)
def gc (x y : Int) : Int := ((Nat.gcd x.natAbs y.natAbs : Nat) : Int)
abbrev lw (u v : Int) : D := .tup [.int (u / gc u v), .int (v / gc u v)]
/-- the rates that show a word -/
def Rt (ws : List Int) (d : D) : Prop := ∃ u v r s, Top (up ws) (In ws.length) u v ∧ Top (dn ws) (In ws.length) (-r) s ∧ ((u * s < r * v ∧ d = .tup [lw u v, lw r s]) ∨ (¬ u * s < r * v ∧ d = .non))
def Shows (p w : Int) (ws : List Int) : Prop := ∃ b : Nat, (b : Int) < w ∧ shW p b w 0 ws.length = ws
def p_lowest : Pt := fun ds R er => ∃ u v : Int, ds = [.d (.int u), .d (.int v)] ∧ 1 ≤ v ∧ v ≤ 1000 ∧ R (lw u v)
def p_open_rates : Pt := fun ds R er => ∃ ws, ds = [.d (wd ws)] ∧ W ws ∧ ws ≠ [] ∧ ∀ d, Rt ws d → R d
def p_slopes : Pt := fun ds R er => ∃ x, ds = [.d x] ∧ okB x = true ∧ ((isW x = false ∧ er bl) ∨ ∃ ws, x = wd ws ∧ W ws ∧ ((ws = [] ∧ R (.tup [.non, .non])) ∨ (ws ≠ [] ∧ ∀ d, Rt ws d → R d)))
def p__law_mixed : Pt := fun ds R er => ds = [.drw] ∧ ∀ n : Int, 0 ≤ n → R (.int n)
def p__law_take : Pt := fun ds R er => ∃ m : Int, ds = [.drw, .d (.int m)] ∧ 0 < m ∧ m < 2 ^ 300 ∧ ∀ n : Int, 0 ≤ n → n < m → R (.int n)
def p__law_pick : Pt := fun ds R er => ∃ xs, ds = [.drw, .d (.lst xs)] ∧ 0 < xs.length ∧ xs.length < 1000 ∧ ∀ x ∈ xs, R x
def p__law_number : Pt := fun ds R er => ∃ m : Int, ds = [.drw, .d (.int m)] ∧ 1 ≤ m ∧ m < 2 ^ 200 ∧ ∀ n : Int, -m ≤ n → n ≤ m → R (.int n)
def p__law_at : Pt := fun ds R er => ∃ a b c n, ds = [.d (std a b c), .d (.int n)] ∧ St a b c ∧ R (.int (va a b c n))
def p__law_says : Pt := fun ds R er => ∃ d, ds = [.d d, .d d] ∧ ReprOk d ∧ R (.bl true)
def p__law_named : Pt := fun ds R er => ds = [.d (.exc "BadLetters" none)] ∧ R (.str "letters")
def p__law_shown : Pt := fun ds R er => ∃ a b c f, ∃ n : Nat, ds = [.d (std a b c), .d (.int f), .d (.int n)] ∧ St a b c ∧ n ≤ 500 ∧ R (wd (shW a b c f n))
def p__law_small_step : Pt := fun ds R er => ∃ m : Int, ds = [.drw, .d (.int m)] ∧ 1 ≤ m ∧ m ≤ 400 ∧ ∀ a b c, St a b c → R (std a b c)
def p__law_word : Pt := fun ds R er => ∃ m : Int, ds = [.drw, .d (.int m)] ∧ 0 ≤ m ∧ m ≤ 500 ∧ ∀ ws, W ws → R (wd ws)
def p__law_no_word : Pt := fun ds R er => ds = [.drw] ∧ ∀ d, okB d = true → isW d = false → R d
def p__law_sums : Pt := p_sums_of
def p__law_common : Pt := fun ds R er => ∃ u v : Int, ds = [.d (.int u), .d (.int v)] ∧ R (.int (gc u v))
def p__law_lowest : Pt := p_lowest
def p__law_rates : Pt := p_open_rates
def p__law_is_between : Pt := fun ds R er => ∃ p w a b c d : Int, ds = [.d (.int p), .d (.int w), .d (.tup [.tup [.int a, .int b], .tup [.int c, .int d]])] ∧ -1000000000 ≤ p ∧ p ≤ 1000000000 ∧ 1 ≤ w ∧ w ≤ 400 ∧ R (.bl (decide (a * w < p * b) && decide (p * d < c * w)))
def p__law_shows : Pt := fun ds R er => ∃ p w ws, ds = [.d (.int p), .d (.int w), .d (wd ws)] ∧ -1000000000 ≤ p ∧ p ≤ 1000000000 ∧ 1 ≤ w ∧ w ≤ 400 ∧ W ws ∧ ∀ b : Bool, (b = true ↔ Shows p w ws) → R (.bl b)
/-! the errors -/
def xnames : List Str := ["BadFrame", "BadLetters", "BadMany", "BadMost", "BadPace", "BadStep", "BadStride", "BadTurn", "TooMany"]
def xsub (x y : Str) : Option Bool := if x ∈ (["BadLetters"] : List Str) ∧ y ∈ xnames then some (decide (x = y)) else none
def xnon (y : Str) : Prop := y ∈ xnames
def xfldOk (x : Str) : Prop := x ∈ (["BadLetters"] : List Str)
def xcat (x : Str) : Prop := x ∈ (["BadLetters"] : List Str)
def xval (x : Str) : Prop := x ∈ (["BadLetters"] : List Str)
theorem msgz : ("not as it must be" : Str).length ≤ sizeLine := by
  rw [sizeLine_eq]
  decide +kernel
end K40
set_option Elab.async false
set_option linter.all false
set_option maxRecDepth 100000
set_option maxHeartbeats 2000000
namespace K40
open PySem PySem.Spec PyProof.Rows L2 DL
abbrev prog : Program := PySem.Challenge.pw_everyframe_k40_whole_rates_that_show_a_w
def top (i : Nat) : Stmt := prog.main.body.getD i (.Pass ⟨0, 0, 0, 0⟩)
abbrev s_is_number : Stmt := top 2
abbrev s_is_from_to : Stmt := top 3
abbrev s_is_word_told : Stmt := top 18
abbrev s_need_letters : Stmt := top 19
abbrev s_sums_of : Stmt := top 20
abbrev s_stretch_sums : Stmt := top 21
abbrev s_first_unbalanced : Stmt := top 22
abbrev s_is_balanced : Stmt := top 23
abbrev s_lowest : Stmt := top 24
abbrev s_open_rates : Stmt := top 25
abbrev s_slopes : Stmt := top 26
abbrev s__law_begun : Stmt := top 28
abbrev s__law_mixed : Stmt := top 29
abbrev s__law_take : Stmt := top 30
abbrev s__law_pick : Stmt := top 31
abbrev s__law_caught : Stmt := top 32
abbrev s__law_number : Stmt := top 33
abbrev s__law_at : Stmt := top 34
abbrev s__law_common : Stmt := top 35
abbrev s__law_says : Stmt := top 36
abbrev s__law_named : Stmt := top 37
abbrev s__law_shown : Stmt := top 38
abbrev s__law_small_step : Stmt := top 39
abbrev s__law_word : Stmt := top 40
abbrev s__law_no_word : Stmt := top 41
abbrev s__law_sums : Stmt := top 42
abbrev s__law_lowest : Stmt := top 43
abbrev s__law_rates : Stmt := top 44
abbrev s__law_is_between : Stmt := top 45
abbrev s__law_shows : Stmt := top 46
abbrev s_law : Stmt := top 47
abbrev N_is_number : List Str := ["thing"]
theorem sc_is_number : FnScope N_is_number ["thing"] (defScope s_is_number) := ⟨rfl, rfl, rfl, by decide +kernel, rfl, by decide +kernel, by decide +kernel⟩
abbrev N_is_from_to : List Str := ["thing", "least", "most"]
theorem sc_is_from_to : FnScope N_is_from_to ["thing", "least", "most"] (defScope s_is_from_to) := ⟨rfl, rfl, rfl, by decide +kernel, rfl, by decide +kernel, by decide +kernel⟩
abbrev N_is_word_told : List Str := ["thing", "letter"]
theorem sc_is_word_told : FnScope N_is_word_told ["thing"] (defScope s_is_word_told) := ⟨rfl, rfl, rfl, by decide +kernel, rfl, by decide +kernel, by decide +kernel⟩
abbrev N_need_letters : List Str := ["word"]
theorem sc_need_letters : FnScope N_need_letters ["word"] (defScope s_need_letters) := ⟨rfl, rfl, rfl, by decide +kernel, rfl, by decide +kernel, by decide +kernel⟩
abbrev N_sums_of : List Str := ["word", "found", "letter"]
theorem sc_sums_of : FnScope N_sums_of ["word"] (defScope s_sums_of) := ⟨rfl, rfl, rfl, by decide +kernel, rfl, by decide +kernel, by decide +kernel⟩
abbrev N_stretch_sums : List Str := ["sums", "long", "here", "later"]
theorem sc_stretch_sums : FnScope N_stretch_sums ["sums", "long"] (defScope s_stretch_sums) := ⟨rfl, rfl, rfl, by decide +kernel, rfl, by decide +kernel, by decide +kernel⟩
abbrev N_first_unbalanced : List Str := ["word", "sums", "long", "some", "least", "most", "first", "here", "second"]
theorem sc_first_unbalanced : FnScope N_first_unbalanced ["word"] (defScope s_first_unbalanced) := ⟨rfl, rfl, rfl, by decide +kernel, rfl, by decide +kernel, by decide +kernel⟩
abbrev N_is_balanced : List Str := ["word"]
theorem sc_is_balanced : FnScope N_is_balanced ["word"] (defScope s_is_balanced) := ⟨rfl, rfl, rfl, by decide +kernel, rfl, by decide +kernel, by decide +kernel⟩
abbrev N_lowest : List Str := ["above", "below", "divisor"]
theorem sc_lowest : FnScope N_lowest ["above", "below"] (defScope s_lowest) := ⟨rfl, rfl, rfl, by decide +kernel, rfl, by decide +kernel, by decide +kernel⟩
abbrev N_open_rates : List Str := ["word", "sums", "low", "high", "long", "some", "below", "above"]
theorem sc_open_rates : FnScope N_open_rates ["word"] (defScope s_open_rates) := ⟨rfl, rfl, rfl, by decide +kernel, rfl, by decide +kernel, by decide +kernel⟩
abbrev N_slopes : List Str := ["word"]
theorem sc_slopes : FnScope N_slopes ["word"] (defScope s_slopes) := ⟨rfl, rfl, rfl, by decide +kernel, rfl, by decide +kernel, by decide +kernel⟩
abbrev N__law_begun : List Str := ["script", "large", "cell"]
theorem sc__law_begun : FnScope N__law_begun ["script"] (defScope s__law_begun) := ⟨rfl, rfl, rfl, by decide +kernel, rfl, by decide +kernel, by decide +kernel⟩
abbrev N__law_mixed : List Str := ["draw", "turn", "found", "great", "blend", "cell"]
theorem sc__law_mixed : FnScope N__law_mixed ["draw"] (defScope s__law_mixed) := ⟨rfl, rfl, rfl, by decide +kernel, rfl, by decide +kernel, by decide +kernel⟩
abbrev N__law_take : List Str := ["draw", "amount", "found"]
theorem sc__law_take : FnScope N__law_take ["draw", "amount"] (defScope s__law_take) := ⟨rfl, rfl, rfl, by decide +kernel, rfl, by decide +kernel, by decide +kernel⟩
abbrev N__law_pick : List Str := ["draw", "some"]
theorem sc__law_pick : FnScope N__law_pick ["draw", "some"] (defScope s__law_pick) := ⟨rfl, rfl, rfl, by decide +kernel, rfl, by decide +kernel, by decide +kernel⟩
abbrev N__law_caught : List Str := ["work", "caught", "error"]
theorem sc__law_caught : FnScope N__law_caught ["work"] (defScope s__law_caught) := ⟨rfl, rfl, rfl, by decide +kernel, rfl, by decide +kernel, by decide +kernel⟩
abbrev N__law_number : List Str := ["draw", "most", "small"]
theorem sc__law_number : FnScope N__law_number ["draw", "most"] (defScope s__law_number) := ⟨rfl, rfl, rfl, by decide +kernel, rfl, by decide +kernel, by decide +kernel⟩
abbrev N__law_at : List Str := ["step", "frame", "whole"]
theorem sc__law_at : FnScope N__law_at ["step", "frame"] (defScope s__law_at) := ⟨rfl, rfl, rfl, by decide +kernel, rfl, by decide +kernel, by decide +kernel⟩
abbrev N__law_common : List Str := ["one", "other"]
theorem sc__law_common : FnScope N__law_common ["one", "other"] (defScope s__law_common) := ⟨rfl, rfl, rfl, by decide +kernel, rfl, by decide +kernel, by decide +kernel⟩
abbrev N__law_says : List Str := ["told_here", "due"]
theorem sc__law_says : FnScope N__law_says ["told_here", "due"] (defScope s__law_says) := ⟨rfl, rfl, rfl, by decide +kernel, rfl, by decide +kernel, by decide +kernel⟩
abbrev N__law_named : List Str := ["error", "some", "found", "is_one", "word"]
theorem sc__law_named : FnScope N__law_named ["error"] (defScope s__law_named) := ⟨rfl, rfl, rfl, by decide +kernel, rfl, by decide +kernel, by decide +kernel⟩
abbrev N__law_shown : List Str := ["step", "frame", "many", "place"]
theorem sc__law_shown : FnScope N__law_shown ["step", "frame", "many"] (defScope s__law_shown) := ⟨rfl, rfl, rfl, by decide +kernel, rfl, by decide +kernel, by decide +kernel⟩
abbrev N__law_small_step : List Str := ["draw", "most", "last", "first"]
theorem sc__law_small_step : FnScope N__law_small_step ["draw", "most"] (defScope s__law_small_step) := ⟨rfl, rfl, rfl, by decide +kernel, rfl, by decide +kernel, by decide +kernel⟩
abbrev N__law_word : List Str := ["draw", "most", "many", "way", "place", "word", "letter", "spot"]
theorem sc__law_word : FnScope N__law_word ["draw", "most"] (defScope s__law_word) := ⟨rfl, rfl, rfl, by decide +kernel, rfl, by decide +kernel, by decide +kernel⟩
abbrev N__law_no_word : List Str := ["draw"]
theorem sc__law_no_word : FnScope N__law_no_word ["draw"] (defScope s__law_no_word) := ⟨rfl, rfl, rfl, by decide +kernel, rfl, by decide +kernel, by decide +kernel⟩
abbrev N__law_sums : List Str := ["word", "found", "letter"]
theorem sc__law_sums : FnScope N__law_sums ["word"] (defScope s__law_sums) := ⟨rfl, rfl, rfl, by decide +kernel, rfl, by decide +kernel, by decide +kernel⟩
abbrev N__law_lowest : List Str := ["above", "below", "divisor"]
theorem sc__law_lowest : FnScope N__law_lowest ["above", "below"] (defScope s__law_lowest) := ⟨rfl, rfl, rfl, by decide +kernel, rfl, by decide +kernel, by decide +kernel⟩
abbrev N__law_rates : List Str := ["word", "sums", "low", "high", "first", "last", "total", "long"]
theorem sc__law_rates : FnScope N__law_rates ["word"] (defScope s__law_rates) := ⟨rfl, rfl, rfl, by decide +kernel, rfl, by decide +kernel, by decide +kernel⟩
abbrev N__law_is_between : List Str := ["part", "whole", "rates"]
theorem sc__law_is_between : FnScope N__law_is_between ["part", "whole", "rates"] (defScope s__law_is_between) := ⟨rfl, rfl, rfl, by decide +kernel, rfl, by decide +kernel, by decide +kernel⟩
abbrev N__law_shows : List Str := ["part", "whole", "word", "begin"]
theorem sc__law_shows : FnScope N__law_shows ["part", "whole", "word"] (defScope s__law_shows) := ⟨rfl, rfl, rfl, by decide +kernel, rfl, by decide +kernel, by decide +kernel⟩
abbrev N_law : List Str := ["script", "draw", "turn", "word", "due", "ends", "inner", "part", "whole", "bad"]
theorem sc_law : FnScope N_law ["script"] (defScope s_law) := ⟨rfl, rfl, rfl, by decide +kernel, rfl, by decide +kernel, by decide +kernel⟩
abbrev lamT0 : Arguments × PySem.Expr × Scope := lamAt (kidE (kidE (kidE (kidS (stAt (forBody (stAt (defBody (top 47)) 2)) 5)) 0) 1) 1)
abbrev lam0 : LamSite := ⟨"law.<locals>.<lambda>", lamT0.1, lamT0.2.1, lamT0.2.2, ["bad"]⟩
def LT : List (LamSite × LPt) := [(lam0, fun cs R er => ∃ d, cs = [d] ∧ p_slopes [.d d] R er)]
def p__law_caught : Pt := fun ds R er => ∃ L cs pt, ds = [.d (.lam L cs)] ∧ (L, pt) ∈ LT ∧ cs.length = L.ns.length ∧ (∀ c ∈ cs, D.plainX c = true) ∧ pt cs (fun _ => R .non) (fun e => xcat e.cls ∧ R (.exc e.cls e.fld))

def te0 : DTE := (dCall p_slopes (dCons (dVar 0) dNil))
def t_is_number : DTS := (dRet (dAnd (dB (gIsi xsub xnon) (dCons (dVar 0) (dCons (dC (.ty "int")) dNil))) (dNot (dB (gIsi xsub xnon) (dCons (dVar 0) (dCons (dC (.ty "bool")) dNil))))))
def t_is_from_to : DTS := (dRet (dAnd (dCall p_is_number (dCons (dVar 0) dNil)) (dChain gLe gLe (dVar 1) (dVar 0) (dVar 2))))
def u_is_word_told_1 : DTS := (dRet (dB gAll (dCons (dFz (dLc (dSeq (dVar 0)) 1 [1] dYes (dCall p_is_from_to (dCons (dVar 1) (dCons (dBin gSub (dC (.int 0)) (dC (.int 1000000))) (dCons (dC (.int 1000000)) dNil)))))) dNil)))
def t_is_word_told : DTS := (dSeqS (dIfS (dtOr (dtNot (dVal (dB (gIsi xsub xnon) (dCons (dVar 0) (dCons (dC (.ty "tuple")) dNil))))) (dVal (dBin gGt (dB gLen (dCons (dVar 0) dNil)) (dC (.int 500))))) (dRet (dC (.bl false))) dNext) u_is_word_told_1)
def t_need_letters : DTS := (dIfS (dtNot (dVal (dCall p_is_word_told (dCons (dVar 0) dNil)))) (dRaise0 "BadLetters") dNext)
def w_sums_of_1 : DTS := (dAppend 1 (dBin gAdd (dOwnIx 1 (dUn gNeg (dC (.int 1)))) (dVar 2)))
def u_sums_of_2 : DTS := (dFreeze 1 (dRet (dVar 1)))
def u_sums_of_3 : DTS := (dSeqS (dFor (dSeq (dVar 0)) (dgName 2) w_sums_of_1) u_sums_of_2)
def t_sums_of : DTS := (dSeqS (dSetOwn 1 (dLstN (dCons (dC (.int 0)) dNil))) u_sums_of_3)
def t_stretch_sums : DTS := (dRet (dFz (dLc2 (dZip (dCons (dVar 0) (dCons (dSl (dVar 0) (dPart (dVar 1)) dNo) dNil))) 2 3 [2, 3] dYes (dBin gSub (dVar 3) (dVar 2)))))
def w_first_unbalanced_1 : DTS := (dIfS (dVal (dBin gGt (dB gAbs (dCons (dBin gSub (dVar 7) (dBin gIx (dVar 3) (dVar 8))) dNil)) (dC (.int 1)))) (dRet (dTup (dCons (dVar 2) (dCons (dVar 6) (dCons (dVar 8) dNil))))) dNext)
def w_first_unbalanced_2 : DTS := (dFor (dRng2 (dCons (dBin gAdd (dVar 6) (dC (.int 1))) (dCons (dB gLen (dCons (dVar 3) dNil)) dNil))) (dgName 8) w_first_unbalanced_1)
def u_first_unbalanced_3 : DTS := (dIfS (dVal (dBin gGt (dBin gSub (dVar 5) (dVar 4)) (dC (.int 1)))) (dFor (dEnum (dCons (dVar 3) dNil)) (dgTup 2 (dgCons (dgName 6) (dgCons (dgName 7) dgNil))) w_first_unbalanced_2) dNext)
def u_first_unbalanced_4 : DTS := (dSeqS (dPar 4 5 (dCons (dB gMin1 (dCons (dVar 3) dNil)) (dCons (dB gMax1 (dCons (dVar 3) dNil)) dNil))) u_first_unbalanced_3)
def w_first_unbalanced_5 : DTS := (dSeqS (dSet 3 (dCall p_stretch_sums (dCons (dVar 1) (dCons (dVar 2) dNil)))) u_first_unbalanced_4)
def u_first_unbalanced_6 : DTS := (dRet (dC .non))
def u_first_unbalanced_7 : DTS := (dSeqS (dFor (dRng2 (dCons (dC (.int 1)) (dCons (dBin gAdd (dB gLen (dCons (dVar 0) dNil)) (dC (.int 1))) dNil))) (dgName 2) w_first_unbalanced_5) u_first_unbalanced_6)
def t_first_unbalanced : DTS := (dSeqS (dSet 1 (dCall p_sums_of (dCons (dVar 0) dNil))) u_first_unbalanced_7)
def u_is_balanced_1 : DTS := (dRet (dBin gIs (dCall p_first_unbalanced (dCons (dVar 0) dNil)) (dC .non)))
def t_is_balanced : DTS := (dSeqS (dDrop (dCall p_need_letters (dCons (dVar 0) dNil))) u_is_balanced_1)
def u_lowest_1 : DTS := (dRet (dTup (dCons (dBin gDiv (dVar 0) (dVar 2)) (dCons (dBin gDiv (dVar 1) (dVar 2)) dNil))))
def t_lowest : DTS := (dSeqS (dSet 2 (dB gGcd (dCons (dVar 0) (dCons (dVar 1) dNil)))) u_lowest_1)
def u_open_rates_1 : DTS := (dSet 3 (dIf (dtOr (dVal (dBin gIs (dVar 3) (dC .non))) (dVal (dBin gLt (dBin gMul (dVar 7) (dBin gIx (dVar 3) (dC (.int 1)))) (dBin gMul (dBin gIx (dVar 3) (dC (.int 0))) (dVar 4))))) (dTup (dCons (dVar 7) (dCons (dVar 4) dNil))) (dVar 3)))
def u_open_rates_2 : DTS := (dSeqS (dSet 2 (dIf (dtOr (dVal (dBin gIs (dVar 2) (dC .non))) (dVal (dBin gGt (dBin gMul (dVar 6) (dBin gIx (dVar 2) (dC (.int 1)))) (dBin gMul (dBin gIx (dVar 2) (dC (.int 0))) (dVar 4))))) (dTup (dCons (dVar 6) (dCons (dVar 4) dNil))) (dVar 2))) u_open_rates_1)
def u_open_rates_3 : DTS := (dSeqS (dPar 6 7 (dCons (dBin gSub (dB gMax1 (dCons (dVar 5) dNil)) (dC (.int 1))) (dCons (dBin gAdd (dB gMin1 (dCons (dVar 5) dNil)) (dC (.int 1))) dNil))) u_open_rates_2)
def w_open_rates_4 : DTS := (dSeqS (dSet 5 (dCall p_stretch_sums (dCons (dVar 1) (dCons (dVar 4) dNil)))) u_open_rates_3)
def u_open_rates_5 : DTS := (dRet (dIf (dVal (dBin gLt (dBin gMul (dBin gIx (dVar 2) (dC (.int 0))) (dBin gIx (dVar 3) (dC (.int 1)))) (dBin gMul (dBin gIx (dVar 3) (dC (.int 0))) (dBin gIx (dVar 2) (dC (.int 1)))))) (dTup (dCons (dCall p_lowest (dCons (dBin gIx (dVar 2) (dC (.int 0))) (dCons (dBin gIx (dVar 2) (dC (.int 1))) dNil))) (dCons (dCall p_lowest (dCons (dBin gIx (dVar 3) (dC (.int 0))) (dCons (dBin gIx (dVar 3) (dC (.int 1))) dNil))) dNil))) (dC .non)))
def u_open_rates_6 : DTS := (dSeqS (dFor (dRng2 (dCons (dC (.int 1)) (dCons (dBin gAdd (dB gLen (dCons (dVar 0) dNil)) (dC (.int 1))) dNil))) (dgName 4) w_open_rates_4) u_open_rates_5)
def t_open_rates : DTS := (dSeqS (dPar3 1 2 3 (dCons (dCall p_sums_of (dCons (dVar 0) dNil)) (dCons (dC .non) (dCons (dC .non) dNil)))) u_open_rates_6)
def u_slopes_1 : DTS := (dRet (dIf (dVal (dBin gEq (dVar 0) (dTup dNil))) (dTup (dCons (dC .non) (dCons (dC .non) dNil))) (dCall p_open_rates (dCons (dVar 0) dNil))))
def t_slopes : DTS := (dSeqS (dDrop (dCall p_need_letters (dCons (dVar 0) dNil))) u_slopes_1)
def w__law_mixed_1 : DTS := (dSet 4 (dBin gMod (dBin gAdd (dBin gAdd (dBin gMul (dVar 4) (dC (.int 69621))) (dB gInt (dCons (dVar 5) dNil))) (dVar 1)) (dVar 3)))
def u__law_mixed_2 : DTS := (dSet 2 (dBin gAdd (dBin gMul (dVar 2) (dC (.int 2147483659))) (dBin gMod (dBin gPow (dVar 4) (dC (.int 5))) (dVar 3))))
def u__law_mixed_3 : DTS := (dSeqS (dFor (dSeq (dDrwC 0)) (dgName 5) w__law_mixed_1) u__law_mixed_2)
def w__law_mixed_4 : DTS := (dSeqS (dSet 4 (dBin gMod (dBin gAdd (dBin gMul (dVar 1) (dC (.int 48271))) (dBin gDiv (dVar 3) (dC (.int 11)))) (dVar 3))) u__law_mixed_3)
def u__law_mixed_5 : DTS := (dRet (dVar 2))
def u__law_mixed_6 : DTS := (dSeqS (dFor (dSeq (dLst (dCons (dC (.int 2147483647)) (dCons (dC (.int 2147483629)) (dCons (dC (.int 2147483587)) dNil))))) (dgName 3) w__law_mixed_4) u__law_mixed_5)
def u__law_mixed_7 : DTS := (dSeqS (dPar 1 2 (dCons (dB gInt (dCons (dDrwI 0) dNil)) (dCons (dC (.int 0)) dNil))) u__law_mixed_6)
def t__law_mixed : DTS := (dSeqS (dDrwSet 0 (dBin gAdd (dDrwI 0) (dC (.int 1)))) u__law_mixed_7)
def u__law_take_1 : DTS := (dRet (dVar 2))
def u__law_take_2 : DTS := (dSeqS (dDrwSet 0 (dBin gDiv (dB gInt (dCons (dDrwI 0) dNil)) (dVar 1))) u__law_take_1)
def u__law_take_3 : DTS := (dSeqS (dSet 2 (dBin gMod (dB gInt (dCons (dDrwI 0) dNil)) (dVar 1))) u__law_take_2)
def t__law_take : DTS := (dSeqS (dIfS (dVal (dBin gEq (dDrwI 0) (dC (.int 0)))) (dDrwSet 0 (dDrwPop 0 (dCall p__law_mixed (dDrw 0 dNil)))) dNext) u__law_take_3)
def t__law_pick : DTS := (dRet (dBin gIx (dVar 1) (dCall p__law_take (dDrw 0 (dCons (dB gLen (dCons (dVar 1) dNil)) dNil)))))
def u__law_caught_1 : DTS := (dRet (dVar 1))
def u__law_caught_2 : DTS := (dSeqS (dKeep 3 2 1 xcat (dDrop (dLam LT 0))) u__law_caught_1)
def t__law_caught : DTS := (dSeqS (dSet 1 (dC .non)) u__law_caught_2)
def u__law_number_1 : DTS := (dRet (dCall p__law_pick (dDrw 0 (dCons (dLst (dCons (dBin gSub (dCall p__law_take (dDrw 0 (dCons (dBin gAdd (dBin gMul (dC (.int 2)) (dVar 2)) (dC (.int 1))) dNil))) (dVar 2)) (dCons (dBin gSub (dCall p__law_take (dDrw 0 (dCons (dBin gAdd (dBin gMul (dC (.int 2)) (dVar 1)) (dC (.int 1))) dNil))) (dVar 1)) (dCons (dVar 1) (dCons (dBin gSub (dC (.int 0)) (dVar 1)) (dCons (dC (.int 0)) (dCons (dC (.int 1)) dNil))))))) dNil))))
def t__law_number : DTS := (dSeqS (dSet 2 (dB gMin2 (dCons (dVar 1) (dCons (dC (.int 9)) dNil)))) u__law_number_1)
def u__law_at_1 : DTS := (dRet (dBin gDiv (dBin gSub (dVar 2) (dBin gMod (dVar 2) (dBin gIx (dVar 0) (dC (.int 2))))) (dBin gIx (dVar 0) (dC (.int 2)))))
def t__law_at : DTS := (dSeqS (dSet 2 (dBin gAdd (dBin gMul (dBin gIx (dVar 0) (dC (.int 0))) (dVar 1)) (dBin gIx (dVar 0) (dC (.int 1))))) u__law_at_1)
def u__law_common_1 : DTS := (dRet (dVar 0))
def u__law_common_2 : DTS := (dSeqS (dWhile (dVal (dBin gNe (dVar 1) (dC (.int 0)))) (dPar 0 1 (dCons (dVar 1) (dCons (dBin gMod (dVar 0) (dVar 1)) dNil)))) u__law_common_1)
def t__law_common : DTS := (dSeqS (dPar 0 1 (dCons (dB gAbs (dCons (dVar 0) dNil)) (dCons (dB gAbs (dCons (dVar 1) dNil)) dNil))) u__law_common_2)
def t__law_says : DTS := (dRet (dBin gEq (dB gRepr (dCons (dVar 0) dNil)) (dB gRepr (dCons (dVar 1) dNil))))
def u__law_named_1 : DTS := (dFreeze 2 (dRet (dIf (dtAnd (dVal (dBin gEq (dB gLen (dCons (dVar 2) dNil)) (dC (.int 1)))) (dVal (dB (gIsiV xval) (dCons (dVar 0) (dCons (dC (.ty "ValueError")) dNil))))) (dBin gIx (dVar 2) (dC (.int 0))) (dIf (dVal (dBin gIs (dVar 0) (dC .non))) (dC (.str "")) (dC (.str "other"))))))
def u__law_named_2 : DTS := (dSeqS (dIfS (dVal (dB (gIsi xsub xnon) (dCons (dVar 0) (dCons (dC (.fn "TooMany")) dNil)))) (dAppend 2 (dBin gAdd (dC (.str "too many ")) (dB gStr (dCons (dFld xfldOk "most" (dVar 0)) dNil)))) dNext) u__law_named_1)
def u__law_named_3 : DTS := (dSeqS (dIfS (dtOr (dVal (dB (gIsi xsub xnon) (dCons (dVar 0) (dCons (dC (.fn "BadStep")) dNil)))) (dVal (dB (gIsi xsub xnon) (dCons (dVar 0) (dCons (dC (.fn "BadFrame")) dNil))))) (dAppend 2 (dBin gAdd (dIf (dVal (dB (gIsi xsub xnon) (dCons (dVar 0) (dCons (dC (.fn "BadStep")) dNil)))) (dC (.str "step ")) (dC (.str "frame "))) (dB gStr (dCons (dFld xfldOk "part" (dVar 0)) dNil)))) dNext) u__law_named_2)
def u__law_named_4 : DTS := (dSeqS (dSetOwn 2 (dLc2 (dSeq (dVar 1)) 3 4 [3, 4] (dVal (dVar 3)) (dVar 4))) u__law_named_3)
def u__law_named_5 : DTS := (dSeqS (dSet 1 (dBin gAdd (dVar 1) (dLst (dCons (dTup (dCons (dB (gIsi xsub xnon) (dCons (dVar 0) (dCons (dC (.fn "BadStride")) dNil))) (dCons (dC (.str "stride")) dNil))) (dCons (dTup (dCons (dB (gIsi xsub xnon) (dCons (dVar 0) (dCons (dC (.fn "BadMany")) dNil))) (dCons (dC (.str "many")) dNil))) dNil))))) u__law_named_4)
def t__law_named : DTS := (dSeqS (dSet 1 (dLst (dCons (dTup (dCons (dB (gIsi xsub xnon) (dCons (dVar 0) (dCons (dC (.fn "BadLetters")) dNil))) (dCons (dC (.str "letters")) dNil))) (dCons (dTup (dCons (dB (gIsi xsub xnon) (dCons (dVar 0) (dCons (dC (.fn "BadMost")) dNil))) (dCons (dC (.str "most")) dNil))) (dCons (dTup (dCons (dB (gIsi xsub xnon) (dCons (dVar 0) (dCons (dC (.fn "BadPace")) dNil))) (dCons (dC (.str "pace")) dNil))) (dCons (dTup (dCons (dB (gIsi xsub xnon) (dCons (dVar 0) (dCons (dC (.fn "BadTurn")) dNil))) (dCons (dC (.str "turn")) dNil))) dNil)))))) u__law_named_5)
def t__law_shown : DTS := (dRet (dB gTuple (dCons (dFz (dLc (dRng1 (dCons (dVar 2) dNil)) 3 [3] dYes (dBin gSub (dCall p__law_at (dCons (dVar 0) (dCons (dBin gAdd (dBin gAdd (dVar 1) (dVar 3)) (dC (.int 1))) dNil))) (dCall p__law_at (dCons (dVar 0) (dCons (dBin gAdd (dVar 1) (dVar 3)) dNil)))))) dNil)))
def u__law_small_step_1 : DTS := (dRet (dTup (dCons (dVar 3) (dCons (dCall p__law_number (dDrw 0 (dCons (dCall p__law_pick (dDrw 0 (dCons (dLst (dCons (dC (.int 20)) (dCons (dBin gPow (dC (.int 10)) (dC (.int 6))) (dCons (dBin gPow (dC (.int 10)) (dC (.int 12))) dNil)))) dNil))) dNil))) (dCons (dVar 2) dNil)))))
def u__law_small_step_2 : DTS := (dSeqS (dSet 3 (dCall p__law_pick (dDrw 0 (dCons (dLst (dCons (dCall p__law_take (dDrw 0 (dCons (dBin gAdd (dVar 2) (dC (.int 1))) dNil))) (dCons (dCall p__law_take (dDrw 0 (dCons (dBin gAdd (dVar 2) (dC (.int 1))) dNil))) (dCons (dCall p__law_number (dDrw 0 (dCons (dBin gMul (dC (.int 3)) (dVar 2)) dNil))) (dCons (dCall p__law_number (dDrw 0 (dCons (dBin gPow (dC (.int 10)) (dC (.int 6))) dNil))) dNil))))) dNil)))) u__law_small_step_1)
def t__law_small_step : DTS := (dSeqS (dSet 2 (dBin gAdd (dC (.int 1)) (dCall p__law_take (dDrw 0 (dCons (dVar 1) dNil))))) u__law_small_step_2)
def u__law_word_1 : DTS := (dRet (dBin gAdd (dBin gAdd (dSl (dVar 5) dNo (dPart (dVar 7))) (dTup (dCons (dIf (dVal (dBin gLt (dB gAbs (dCons (dBin gIx (dVar 5) (dVar 7)) dNil)) (dBin gPow (dC (.int 10)) (dC (.int 6))))) (dBin gAdd (dBin gIx (dVar 5) (dVar 7)) (dCall p__law_pick (dDrw 0 (dCons (dLst (dCons (dUn gNeg (dC (.int 1))) (dCons (dC (.int 1)) dNil))) dNil)))) (dC (.int 0))) dNil))) (dSl (dVar 5) (dPart (dBin gAdd (dVar 7) (dC (.int 1)))) dNo)))
def u__law_word_2 : DTS := (dRet (dVar 5))
def u__law_word_3 : DTS := (dSeqS (dIfS (dtAnd (dVal (dBin gEq (dVar 3) (dC (.int 2)))) (dVal (dBin gNe (dVar 5) (dTup dNil)))) (dSeqS (dSet 7 (dCall p__law_take (dDrw 0 (dCons (dVar 2) dNil)))) u__law_word_1) dNext) u__law_word_2)
def u__law_word_4 : DTS := (dSeqS (dSet 5 (dB gTuple (dCons (dFz (dLc (dSeq (dVar 5)) 6 [6] dYes (dB gMin2 (dCons (dBin gPow (dC (.int 10)) (dC (.int 6))) (dCons (dB gMax2 (dCons (dBin gSub (dC (.int 0)) (dBin gPow (dC (.int 10)) (dC (.int 6)))) (dCons (dVar 6) dNil))) dNil))))) dNil))) u__law_word_3)
def u__law_word_5 : DTS := (dSeqS (dSet 5 (dCall p__law_shown (dCons (dCall p__law_small_step (dDrw 0 (dCons (dCall p__law_pick (dDrw 0 (dCons (dLst (dCons (dC (.int 5)) (dCons (dC (.int 20)) (dCons (dC (.int 400)) dNil)))) dNil))) dNil))) (dCons (dCall p__law_number (dDrw 0 (dCons (dBin gPow (dC (.int 10)) (dC (.int 6))) dNil))) (dCons (dVar 2) dNil))))) u__law_word_4)
def u__law_word_6 : DTS := (dSeqS (dIfS (dVal (dBin gEq (dVar 3) (dC (.int 1)))) (dRet (dBin gRepT (dTup (dCons (dCall p__law_number (dDrw 0 (dCons (dCall p__law_pick (dDrw 0 (dCons (dLst (dCons (dC (.int 3)) (dCons (dBin gPow (dC (.int 10)) (dC (.int 6))) dNil))) dNil))) dNil))) dNil)) (dVar 2))) dNext) u__law_word_5)
def u__law_word_7 : DTS := (dSeqS (dIfS (dVal (dBin gEq (dVar 3) (dC (.int 0)))) (dRet (dB gTuple (dCons (dFz (dLc (dRng1 (dCons (dVar 2) dNil)) 4 [4] dYes (dCall p__law_number (dDrw 0 (dCons (dCall p__law_pick (dDrw 0 (dCons (dLst (dCons (dC (.int 1)) (dCons (dC (.int 2)) (dCons (dBin gPow (dC (.int 10)) (dC (.int 6))) dNil)))) dNil))) dNil))))) dNil))) dNext) u__law_word_6)
def t__law_word : DTS := (dSeqS (dPar 2 3 (dCons (dCall p__law_take (dDrw 0 (dCons (dBin gAdd (dVar 1) (dC (.int 1))) dNil))) (dCons (dCall p__law_take (dDrw 0 (dCons (dC (.int 6)) dNil))) dNil))) u__law_word_7)
def t__law_no_word : DTS := (dRet (dCall p__law_pick (dDrw 0 (dCons (dLst (dCons (dC .non) (dCons (dC (.int 5)) (dCons (dLst (dCons (dC (.int 0)) (dCons (dC (.int 1)) dNil))) (dCons (dBin gRepT (dTup (dCons (dC (.int 0)) dNil)) (dC (.int 501))) (dCons (dTup (dCons (dBin gAdd (dBin gPow (dC (.int 10)) (dC (.int 6))) (dC (.int 1))) dNil)) (dCons (dTup (dCons (dBin gSub (dUn gNeg (dBin gPow (dC (.int 10)) (dC (.int 6)))) (dC (.int 1))) dNil)) (dCons (dTup (dCons (dC (.bl true)) dNil)) (dCons (dTup (dCons (dC (.int 0)) (dCons (dC .non) dNil))) (dCons (dTup (dCons (dC (.str "0")) dNil)) (dCons (dC (.str "01")) (dCons dDic0 dNil)))))))))))) dNil))))
def w__law_sums_1 : DTS := (dAppend 1 (dBin gAdd (dOwnIx 1 (dUn gNeg (dC (.int 1)))) (dVar 2)))
def u__law_sums_2 : DTS := (dFreeze 1 (dRet (dVar 1)))
def u__law_sums_3 : DTS := (dSeqS (dFor (dSeq (dVar 0)) (dgName 2) w__law_sums_1) u__law_sums_2)
def t__law_sums : DTS := (dSeqS (dSetOwn 1 (dLstN (dCons (dC (.int 0)) dNil))) u__law_sums_3)
def u__law_lowest_1 : DTS := (dRet (dTup (dCons (dBin gDiv (dVar 0) (dVar 2)) (dCons (dBin gDiv (dVar 1) (dVar 2)) dNil))))
def t__law_lowest : DTS := (dSeqS (dSet 2 (dCall p__law_common (dCons (dVar 0) (dCons (dVar 1) dNil)))) u__law_lowest_1)
def u__law_rates_1 : DTS := (dSet 3 (dIf (dtOr (dVal (dBin gIs (dVar 3) (dC .non))) (dVal (dBin gLt (dBin gMul (dBin gAdd (dVar 6) (dC (.int 1))) (dBin gIx (dVar 3) (dC (.int 1)))) (dBin gMul (dBin gIx (dVar 3) (dC (.int 0))) (dVar 7))))) (dTup (dCons (dBin gAdd (dVar 6) (dC (.int 1))) (dCons (dVar 7) dNil))) (dVar 3)))
def u__law_rates_2 : DTS := (dSeqS (dSet 2 (dIf (dtOr (dVal (dBin gIs (dVar 2) (dC .non))) (dVal (dBin gGt (dBin gMul (dBin gSub (dVar 6) (dC (.int 1))) (dBin gIx (dVar 2) (dC (.int 1)))) (dBin gMul (dBin gIx (dVar 2) (dC (.int 0))) (dVar 7))))) (dTup (dCons (dBin gSub (dVar 6) (dC (.int 1))) (dCons (dVar 7) dNil))) (dVar 2))) u__law_rates_1)
def w__law_rates_3 : DTS := (dSeqS (dPar 6 7 (dCons (dBin gSub (dBin gIx (dVar 1) (dVar 5)) (dBin gIx (dVar 1) (dVar 4))) (dCons (dBin gSub (dVar 5) (dVar 4)) dNil))) u__law_rates_2)
def w__law_rates_4 : DTS := (dFor (dRng2 (dCons (dBin gAdd (dVar 4) (dC (.int 1))) (dCons (dBin gAdd (dB gLen (dCons (dVar 0) dNil)) (dC (.int 1))) dNil))) (dgName 5) w__law_rates_3)
def u__law_rates_5 : DTS := (dRet (dTup (dCons (dCall p__law_lowest (dCons (dBin gIx (dVar 2) (dC (.int 0))) (dCons (dBin gIx (dVar 2) (dC (.int 1))) dNil))) (dCons (dCall p__law_lowest (dCons (dBin gIx (dVar 3) (dC (.int 0))) (dCons (dBin gIx (dVar 3) (dC (.int 1))) dNil))) dNil))))
def u__law_rates_6 : DTS := (dSeqS (dIfS (dVal (dBin gGe (dBin gMul (dBin gIx (dVar 2) (dC (.int 0))) (dBin gIx (dVar 3) (dC (.int 1)))) (dBin gMul (dBin gIx (dVar 3) (dC (.int 0))) (dBin gIx (dVar 2) (dC (.int 1)))))) (dRet (dC .non)) dNext) u__law_rates_5)
def u__law_rates_7 : DTS := (dSeqS (dFor (dRng1 (dCons (dB gLen (dCons (dVar 0) dNil)) dNil)) (dgName 4) w__law_rates_4) u__law_rates_6)
def t__law_rates : DTS := (dSeqS (dPar3 1 2 3 (dCons (dCall p__law_sums (dCons (dVar 0) dNil)) (dCons (dC .non) (dCons (dC .non) dNil)))) u__law_rates_7)
def t__law_is_between : DTS := (dRet (dAnd (dBin gLt (dBin gMul (dBin gIx (dBin gIx (dVar 2) (dC (.int 0))) (dC (.int 0))) (dVar 1)) (dBin gMul (dVar 0) (dBin gIx (dBin gIx (dVar 2) (dC (.int 0))) (dC (.int 1))))) (dBin gLt (dBin gMul (dVar 0) (dBin gIx (dBin gIx (dVar 2) (dC (.int 1))) (dC (.int 1)))) (dBin gMul (dBin gIx (dBin gIx (dVar 2) (dC (.int 1))) (dC (.int 0))) (dVar 1)))))
def t__law_shows : DTS := (dRet (dBin gNe (dFz (dLc (dRng1 (dCons (dVar 1) dNil)) 3 [3] (dVal (dBin gEq (dCall p__law_shown (dCons (dTup (dCons (dVar 0) (dCons (dVar 3) (dCons (dVar 1) dNil)))) (dCons (dC (.int 0)) (dCons (dB gLen (dCons (dVar 2) dNil)) dNil)))) (dVar 2))) (dVar 3))) (dLst dNil)))
def u_law_1 : DTS := (dIfS (dVal (dBin gNe (dCall p__law_shows (dCons (dVar 7) (dCons (dVar 8) (dCons (dVar 3) dNil)))) (dCall p__law_is_between (dCons (dVar 7) (dCons (dVar 8) (dCons (dVar 4) dNil)))))) (dRet (dC (.bl false))) dNext)
def u_law_2 : DTS := (dSeqS (dSet 7 (dBin gSub (dBin gAdd (dBin gDiv (dBin gMul (dBin gIx (dBin gIx (dVar 4) (dC (.int 0))) (dC (.int 0))) (dVar 8)) (dBin gIx (dBin gIx (dVar 4) (dC (.int 0))) (dC (.int 1)))) (dCall p__law_take (dDrw 1 (dCons (dC (.int 4)) dNil)))) (dC (.int 1)))) u_law_1)
def u_law_3 : DTS := (dSeqS (dSet 8 (dBin gAdd (dC (.int 1)) (dCall p__law_take (dDrw 1 (dCons (dC (.int 12)) dNil))))) u_law_2)
def u_law_4 : DTS := (dIfS (dVal (dBin gLt (dB gLen (dCons (dVar 3) dNil)) (dC (.int 31)))) (dSeqS (dIfS (dtOr (dVal (dBin gNe (dFz (dLc2 (dSeq (dVar 6)) 7 8 [7, 8] (dtNot (dVal (dCall p__law_shows (dCons (dVar 7) (dCons (dVar 8) (dCons (dVar 3) dNil)))))) (dC (.int 1)))) (dLst dNil))) (dVal (dBin gNe (dFz (dLc2 (dSeq (dVar 5)) 7 8 [7, 8] (dVal (dCall p__law_shows (dCons (dVar 7) (dCons (dVar 8) (dCons (dVar 3) dNil))))) (dC (.int 1)))) (dLst dNil)))) (dRet (dC (.bl false))) dNext) u_law_3) dNext)
def u_law_5 : DTS := (dSeqS (dPar 5 6 (dCons (dB gList (dCons (dVar 4) dNil)) (dCons (dLst (dCons (dTup (dCons (dBin gAdd (dBin gIx (dBin gIx (dVar 4) (dC (.int 0))) (dC (.int 0))) (dBin gIx (dBin gIx (dVar 4) (dC (.int 1))) (dC (.int 0)))) (dCons (dBin gAdd (dBin gIx (dBin gIx (dVar 4) (dC (.int 0))) (dC (.int 1))) (dBin gIx (dBin gIx (dVar 4) (dC (.int 1))) (dC (.int 1)))) dNil))) (dCons (dTup (dCons (dBin gAdd (dBin gMul (dC (.int 2)) (dBin gIx (dBin gIx (dVar 4) (dC (.int 0))) (dC (.int 0)))) (dBin gIx (dBin gIx (dVar 4) (dC (.int 1))) (dC (.int 0)))) (dCons (dBin gAdd (dBin gMul (dC (.int 2)) (dBin gIx (dBin gIx (dVar 4) (dC (.int 0))) (dC (.int 1)))) (dBin gIx (dBin gIx (dVar 4) (dC (.int 1))) (dC (.int 1)))) dNil))) dNil))) dNil))) u_law_4)
def u_law_6 : DTS := (dIfS (dVal (dBin gNe (dCall p__law_named (dCons (dMk lam0 [9] p__law_caught) dNil)) (dC (.str "letters")))) (dRet (dC (.bl false))) dNext)
def u_law_7 : DTS := (dSeqS (dSet 9 (dCall p__law_no_word (dDrw 1 dNil))) u_law_6)
def u_law_8 : DTS := (dSeqS (dIfS (dtAnd (dVal (dBin gIsNot (dVar 4) (dC .non))) (dVal (dBin gNe (dVar 3) (dTup dNil)))) (dSeqS (dIfS (dVal (dBin gGt (dB gMax2 (dCons (dBin gIx (dBin gIx (dVar 4) (dC (.int 0))) (dC (.int 1))) (dCons (dBin gIx (dBin gIx (dVar 4) (dC (.int 1))) (dC (.int 1))) dNil))) (dB gLen (dCons (dVar 3) dNil)))) (dRet (dC (.bl false))) dNext) u_law_5) dNext) u_law_7)
def u_law_9 : DTS := (dSeqS (dIfS (dtOr (dtNot (dVal (dCall p__law_says (dCons (dLst (dCons (dCall p_slopes (dCons (dVar 3) dNil)) (dCons (dCallK p_slopes [0] (dCons (dVar 3) dNil)) dNil))) (dCons (dLst (dCons (dVar 4) (dCons (dVar 4) dNil))) dNil))))) (dVal (dBin gEq (dBin gIs (dVar 4) (dC .non)) (dCall p_is_balanced (dCons (dVar 3) dNil))))) (dRet (dC (.bl false))) dNext) u_law_8)
def u_law_10 : DTS := (dSeqS (dSet 4 (dIf (dVal (dBin gNe (dVar 3) (dTup dNil))) (dCall p__law_rates (dCons (dVar 3) dNil)) (dTup (dCons (dC .non) (dCons (dC .non) dNil))))) u_law_9)
def w_law_11 : DTS := (dSeqS (dSet 3 (dCall p__law_word (dDrw 1 (dCons (dIf (dVal (dBin gGt (dCall p__law_take (dDrw 1 (dCons (dC (.int 12)) dNil))) (dC (.int 0)))) (dCall p__law_pick (dDrw 1 (dCons (dLst (dCons (dC (.int 1)) (dCons (dC (.int 4)) (dCons (dC (.int 12)) (dCons (dC (.int 30)) dNil))))) dNil))) (dC (.int 500))) dNil)))) u_law_10)
def u_law_12 : DTS := (dRet (dC (.bl true)))
def u_law_13 : DTS := (dSeqS (dFor (dRng1 (dCons (dBin gAdd (dC (.int 5)) (dB gMin2 (dCons (dB gLen (dCons (dVar 0) dNil)) (dCons (dC (.int 9)) dNil)))) dNil)) (dgName 2) w_law_11) u_law_12)
def t_law : DTS := (dSeqS (dIfS (dVal (dBin gNe (dCall p_slopes (dCons (dTup dNil) dNil)) (dTup (dCons (dC .non) (dCons (dC .non) dNil))))) (dRet (dC (.bl false))) dNext) u_law_13)
def t1__law_begun : DTS := (dSetOwn 1 (dLc (dSeq (dVar 0)) 2 [2] (dVal (dBin gGe (dB gAbs (dCons (dVar 2) dNil)) (dBin gPow (dC (.int 10)) (dC (.int 18))))) (dBin gSub (dB gAbs (dCons (dVar 2) dNil)) (dBin gPow (dC (.int 10)) (dC (.int 18))))))
def t2__law_begun : DTN := (dLc (dSeq (dVar 0)) 2 [2] dYes (dB gAbs (dCons (dVar 2) dNil)))
/-- what the head tells -/
structure Fc (P : Program) (K : PySem.W.Frag) (mg : Mg) : Prop where
  b_ValueError : mg "ValueError" = none
  b_abs : mg "abs" = none
  b_all : mg "all" = none
  b_bool : mg "bool" = none
  b_enumerate : mg "enumerate" = none
  b_int : mg "int" = none
  b_isinstance : mg "isinstance" = none
  b_len : mg "len" = none
  b_list : mg "list" = none
  b_max : mg "max" = none
  b_min : mg "min" = none
  b_range : mg "range" = none
  b_repr : mg "repr" = none
  b_str : mg "str" = none
  b_tuple : mg "tuple" = none
  b_zip : mg "zip" = none
  g_MOST_LETTERS : ∃ t, mg "MOST_LETTERS" = some (.int 500 t)
  g_MOST_LETTER : ∃ t, mg "MOST_LETTER" = some (.int 1000000 t)
  m_gcd : mg "gcd" = some (.builtin "math.gcd")
  n_FrameError : ∃ f, mg "FrameError" = some (.ref f)
  x_FrameError : ∃ C, mg "FrameError" = some (.ref C) ∧ PySem.W.excIn K C [.type "ValueError", .type "Exception", .type "BaseException", .type "object"] "ValueError.__new__" = true ∧ XOk K C
  n_BadFrame : ∃ f, mg "BadFrame" = some (.ref f)
  x_BadFrame : ∃ C fI, mg "BadFrame" = some (.ref C) ∧ XI.Txt P K C "BadFrame" "part" "not as it must be" fI ∧ XOk K C
  n_BadLetters : ∃ f, mg "BadLetters" = some (.ref f)
  x_BadLetters : ∃ C, mg "BadLetters" = some (.ref C) ∧ PySem.W.excIn K C [.type "ValueError", .type "Exception", .type "BaseException", .type "object"] "ValueError.__new__" = true ∧ XOk K C
  n_BadMany : ∃ f, mg "BadMany" = some (.ref f)
  x_BadMany : ∃ C, mg "BadMany" = some (.ref C) ∧ PySem.W.excIn K C [.type "ValueError", .type "Exception", .type "BaseException", .type "object"] "ValueError.__new__" = true ∧ XOk K C
  n_BadMost : ∃ f, mg "BadMost" = some (.ref f)
  x_BadMost : ∃ C, mg "BadMost" = some (.ref C) ∧ PySem.W.excIn K C [.type "ValueError", .type "Exception", .type "BaseException", .type "object"] "ValueError.__new__" = true ∧ XOk K C
  n_BadPace : ∃ f, mg "BadPace" = some (.ref f)
  x_BadPace : ∃ C, mg "BadPace" = some (.ref C) ∧ PySem.W.excIn K C [.type "ValueError", .type "Exception", .type "BaseException", .type "object"] "ValueError.__new__" = true ∧ XOk K C
  n_BadStep : ∃ f, mg "BadStep" = some (.ref f)
  x_BadStep : ∃ C fI, mg "BadStep" = some (.ref C) ∧ XI.Txt P K C "BadStep" "part" "not as it must be" fI ∧ XOk K C
  n_BadStride : ∃ f, mg "BadStride" = some (.ref f)
  x_BadStride : ∃ C, mg "BadStride" = some (.ref C) ∧ PySem.W.excIn K C [.type "ValueError", .type "Exception", .type "BaseException", .type "object"] "ValueError.__new__" = true ∧ XOk K C
  n_BadTurn : ∃ f, mg "BadTurn" = some (.ref f)
  x_BadTurn : ∃ C, mg "BadTurn" = some (.ref C) ∧ PySem.W.excIn K C [.type "ValueError", .type "Exception", .type "BaseException", .type "object"] "ValueError.__new__" = true ∧ XOk K C
  n_TooMany : ∃ f, mg "TooMany" = some (.ref f)
  x_TooMany : ∃ C fI, mg "TooMany" = some (.ref C) ∧ XI.Txt P K C "TooMany" "most" "not as it must be" fI ∧ XOk K C
  xt : XTab K mg xsub xnon
  xfld : ∀ f : Str, (f = "part" ∨ f = "most") → ∀ x C, mg x = some (.ref C) → xfldOk x → XOk K C ∧ PySem.W.findIn K (.ref C) f = some none
  xcat : ∀ FE, mg "FrameError" = some (.ref FE) → CatOk K mg (.ref FE) xcat
  xval : XVal K mg xval
theorem kwb_slopes_0 : ∀ (kV doc pm : Value) (an : Option Addr) (cdv ct : Value) (ws us : List Value), ws.length = ([0] : List Nat).length → ([0] : List Nat).map (ws[·]?) = us.map some → bindArgs (PySem.W.fnOf "slopes" "slopes" (defArgs s_slopes) (defBody s_slopes) (defScope s_slopes) .none kV doc pm an cdv ct) ⟨[], (["word"] : List Str).zip ws⟩ = pure ((["word"] : List Str).zip us)
  | kV, doc, pm, an, cdv, ct, [u0], [v0], _, h => by
    simp at h
    obtain rfl := h
    rfl
  | _, _, _, _, _, _, [u0], [], _, h => by simp at h
  | _, _, _, _, _, _, [u0], _ :: _ :: _, _, h => by simp at h
  | _, _, _, _, _, _, [], _, h, _ => by simp at h
  | _, _, _, _, _, _, _ :: _ :: _, _, h, _ => by simp at h
section
variable {P : Program} {w : World} {K : PySem.W.Frag} {mg : Mg} {base : Heap} {T : List (Addr × Str)}
theorem b_is_number (fc : Fc P K mg)  : Body P w K mg base T N_is_number "is_number" s_is_number 0 t_is_number := by
  have sc := sc_is_number
  intro f cdv A outer s H E Z hr
  exact (qss_one (qs_ret (qe_and (qe_isi fc.xt rfl fc.b_isinstance (qa_cons (qe_var 0) (qa_cons (qe_tyN (by decide +kernel) rfl fc.b_int) qa_nil))) (qe_one (qe_not (qe_isi fc.xt rfl fc.b_isinstance (qa_cons (qe_var 0) (qa_cons (qe_tyN (by decide +kernel) rfl fc.b_bool) qa_nil))))))))
theorem b_is_from_to (fc : Fc P K mg) (O_is_number : (Fo P w K mg base "is_number" s_is_number ["thing"] 1 (SpF K mg T p_is_number))) : Body P w K mg base T N_is_from_to "is_from_to" s_is_from_to 1 t_is_from_to := by
  have sc := sc_is_from_to
  intro f cdv A outer s H E Z hr
  exact (qss_one (qs_ret (qe_and (qe_call O_is_number hr (by decide) rfl (qa_cons (qe_var 0) qa_nil)) (qe_one (qe_chain op_le op_le ok_le ok_le (qe_var 1) (qe_var 0) (qe_var 2) (pe_chain op_le op_le (qe_var 1) (qe_var 0) (qe_var 2)))))))
theorem b_is_word_told (fc : Fc P K mg) (O_is_from_to : (Fo P w K mg base "is_from_to" s_is_from_to ["thing", "least", "most"] 2 (SpF K mg T p_is_from_to))) : Body P w K mg base T N_is_word_told "is_word_told" s_is_word_told 2 t_is_word_told := by
  have sc := sc_is_word_told
  intro f cdv A outer s H E Z hr
  exact (qss_cons (qs_if (qt_w (qw_or (qt_not (qt_val (qe_isi fc.xt rfl fc.b_isinstance (qa_cons (qe_var 0) (qa_cons (qe_tyN (by decide +kernel) rfl fc.b_tuple) qa_nil))))) (qw_or1 (qt_gt (qe_len rfl fc.b_len (qa_cons (qe_var 0) qa_nil)) (qe_gint rfl fc.g_MOST_LETTERS))))) (qss_one (qs_ret qe_bl)) qss_nil) (qss_one (qs_ret (qe_all rfl rfl fc.b_all (qa_cons (QN.fz (qn_lc (own := [("letter", 1)]) rfl sc.nd (blkOk_by (by kernel_rfl)) (by decide) (qi_seq (qe_var 0)) (fun s H C cl fp => lc_pg sc.nd) (fun s H C cl fp Z' => qts_nil) (fun s H C cl fp Z' => (qe_call O_is_from_to hr (by decide) rfl (qa_cons (qe_var 1) (qa_cons (qe_sub qe_int (qe_gint rfl fc.g_MOST_LETTER)) (qa_cons (qe_gint rfl fc.g_MOST_LETTER) qa_nil))))))) qa_nil)))))
theorem b_need_letters (fc : Fc P K mg) (O_is_word_told : (Fo P w K mg base "is_word_told" s_is_word_told ["thing"] 3 (SpF K mg T p_is_word_told))) : Body P w K mg base T N_need_letters "need_letters" s_need_letters 3 t_need_letters := by
  have sc := sc_need_letters
  obtain ⟨C_BadLetters, hm_BadLetters, q_BadLetters, xo_BadLetters⟩ := fc.x_BadLetters -- at BadLetters:
  intro f cdv A outer s H E Z hr
  exact (qss_one (qs_if (qt_not (qt_val (qe_call O_is_word_told hr (by decide) rfl (qa_cons (qe_var 0) qa_nil)))) (qss_one (qs_raise0 rfl PySem.F.excBase_ValueError q_BadLetters hm_BadLetters xo_BadLetters.kp (raises_own xo_BadLetters.exC xo_BadLetters.tyC) rfl)) qss_nil))
theorem b_sums_of (fc : Fc P K mg)  : Body P w K mg base T N_sums_of "sums_of" s_sums_of 0 t_sums_of := by
  have sc := sc_sums_of
  intro f cdv A outer s H E Z hr
  exact (qss_cons (qs_setOwn 1 sc.nd (qn_lst (qa_cons qe_int qa_nil))) (qss_cons (qs_for (passes_of rfl) rfl (qi_seq (qe_var 0)) (qg_name 2 sc.nd) (qss_one (qs_append 1 (qe_add (qe_ownIx 1 (qe_neg qe_int)) (qe_var 2)) (hp := pe_bm PySem.F.plainAttrs_list PySem.F.slot_list_append PySem.F.type_list_append mt_append (pe_var rfl (by first | exact Or.inl rfl | exact Or.inr (Or.inl rfl) | exact Or.inr (Or.inr rfl))) (pa_cons (qe_add (qe_ownIx 1 (qe_neg qe_int)) (qe_var 2)) pa_nil))))) (qs_freeze 1 (qss_one (qs_ret (qe_var 1))))))
theorem b_stretch_sums (fc : Fc P K mg)  : Body P w K mg base T N_stretch_sums "stretch_sums" s_stretch_sums 0 t_stretch_sums := by
  have sc := sc_stretch_sums
  intro f cdv A outer s H E Z hr
  exact (qss_one (qs_ret (QN.fz (qn_lc2 (own := [("here", 2), ("later", 3)]) (i := 2) (j := 3) rfl sc.nd (blkOk_by (by kernel_rfl)) (by decide) (by decide) (qi_zip rfl fc.b_zip (qa_cons (qe_var 0) (qa_cons (qe_sl (qe_var 0) (qo_some (qe_var 1)) qo_none) qa_nil))) (fun s H C cl fp => lc_pg2 rfl sc.nd) (fun s H C cl fp Z' => qts_nil) (fun s H C cl fp Z' => (qe_sub (qe_var 3) (qe_var 2)))))))
theorem b_first_unbalanced (fc : Fc P K mg) (O_sums_of : (Fo P w K mg base "sums_of" s_sums_of ["word"] 1 (SpF K mg T p_sums_of))) (O_stretch_sums : (Fo P w K mg base "stretch_sums" s_stretch_sums ["sums", "long"] 1 (SpF K mg T p_stretch_sums))) : Body P w K mg base T N_first_unbalanced "first_unbalanced" s_first_unbalanced 1 t_first_unbalanced := by
  have sc := sc_first_unbalanced
  intro f cdv A outer s H E Z hr
  exact (qss_cons (qs_set 1 sc.nd (qe_call O_sums_of hr (by decide) rfl (qa_cons (qe_var 0) qa_nil))) (qss_cons (qs_for (passes_of rfl) rfl (qi_rng2 rfl fc.b_range (qa_cons qe_int (qa_cons (qe_add (qe_len rfl fc.b_len (qa_cons (qe_var 0) qa_nil)) qe_int) qa_nil))) (qg_name 2 sc.nd) (qss_cons (qs_set 3 sc.nd (qe_call O_stretch_sums hr (by decide) rfl (qa_cons (qe_var 1) (qa_cons (qe_var 2) qa_nil)))) (qss_cons (qs_par 4 5 rfl sc.nd (by decide) (qa_cons (qe_min1 rfl rfl fc.b_min (qa_cons (qe_var 3) qa_nil)) (qa_cons (qe_max1 rfl rfl fc.b_max (qa_cons (qe_var 3) qa_nil)) qa_nil))) (qss_one (qs_if (qt_gt (qe_sub (qe_var 5) (qe_var 4)) qe_int) (qss_one (qs_for (passes_of rfl) rfl (qi_enum rfl fc.b_enumerate (qa_cons (qe_var 3) qa_nil)) (qg_tup rfl (qgs_cons (qg_name 6 sc.nd) (qgs_cons (qg_name 7 sc.nd) qgs_nil))) (qss_one (qs_for (passes_of rfl) rfl (qi_rng2 rfl fc.b_range (qa_cons (qe_add (qe_var 6) qe_int) (qa_cons (qe_len rfl fc.b_len (qa_cons (qe_var 3) qa_nil)) qa_nil))) (qg_name 8 sc.nd) (qss_one (qs_if (qt_gt (qe_abs rfl fc.b_abs (qa_cons (qe_sub (qe_var 7) (qe_ix (hu64 hr) (qe_var 3) (qe_var 8))) qa_nil)) qe_int) (qss_one (qs_ret (qe_tup (qa_cons (qe_var 2) (qa_cons (qe_var 6) (qa_cons (qe_var 8) qa_nil)))))) qss_nil)))))) qss_nil))))) (qss_one (qs_ret qe_non))))
theorem b_is_balanced (fc : Fc P K mg) (O_need_letters : (Fo P w K mg base "need_letters" s_need_letters ["word"] 4 (SpF K mg T p_need_letters))) (O_first_unbalanced : (Fo P w K mg base "first_unbalanced" s_first_unbalanced ["word"] 2 (SpF K mg T p_first_unbalanced))) : Body P w K mg base T N_is_balanced "is_balanced" s_is_balanced 4 t_is_balanced := by
  have sc := sc_is_balanced
  intro f cdv A outer s H E Z hr
  exact (qss_cons (qs_expr (qe_call O_need_letters hr (by decide) rfl (qa_cons (qe_var 0) qa_nil))) (qss_one (qs_ret (qe_is (qe_call O_first_unbalanced hr (by decide) rfl (qa_cons (qe_var 0) qa_nil)) qe_non))))
theorem b_lowest (fc : Fc P K mg)  : Body P w K mg base T N_lowest "lowest" s_lowest 0 t_lowest := by
  have sc := sc_lowest
  intro f cdv A outer s H E Z hr
  exact (qss_cons (qs_set 2 sc.nd (qe_gcd rfl fc.m_gcd (qa_cons (qe_var 0) (qa_cons (qe_var 1) qa_nil)))) (qss_one (qs_ret (qe_tup (qa_cons (qe_div (qe_var 0) (qe_var 2)) (qa_cons (qe_div (qe_var 1) (qe_var 2)) qa_nil))))))
theorem b_open_rates (fc : Fc P K mg) (O_sums_of : (Fo P w K mg base "sums_of" s_sums_of ["word"] 1 (SpF K mg T p_sums_of))) (O_stretch_sums : (Fo P w K mg base "stretch_sums" s_stretch_sums ["sums", "long"] 1 (SpF K mg T p_stretch_sums))) (O_lowest : (Fo P w K mg base "lowest" s_lowest ["above", "below"] 1 (SpF K mg T p_lowest))) : Body P w K mg base T N_open_rates "open_rates" s_open_rates 1 t_open_rates := by
  have sc := sc_open_rates
  intro f cdv A outer s H E Z hr
  exact (qss_cons (qs_par3 1 2 3 rfl sc.nd (qa_cons (qe_call O_sums_of hr (by decide) rfl (qa_cons (qe_var 0) qa_nil)) (qa_cons qe_non (qa_cons qe_non qa_nil)))) (qss_cons (qs_for (passes_of rfl) rfl (qi_rng2 rfl fc.b_range (qa_cons qe_int (qa_cons (qe_add (qe_len rfl fc.b_len (qa_cons (qe_var 0) qa_nil)) qe_int) qa_nil))) (qg_name 4 sc.nd) (qss_cons (qs_set 5 sc.nd (qe_call O_stretch_sums hr (by decide) rfl (qa_cons (qe_var 1) (qa_cons (qe_var 4) qa_nil)))) (qss_cons (qs_par 6 7 rfl sc.nd (by decide) (qa_cons (qe_sub (qe_max1 rfl rfl fc.b_max (qa_cons (qe_var 5) qa_nil)) qe_int) (qa_cons (qe_add (qe_min1 rfl rfl fc.b_min (qa_cons (qe_var 5) qa_nil)) qe_int) qa_nil))) (qss_cons (qs_set 2 sc.nd (qe_if (qt_w (qw_or (qt_is (qe_var 2) qe_non) (qw_or1 (qt_gt (qe_mul (qe_var 6) (qe_ix (hu64 hr) (qe_var 2) qe_int)) (qe_mul (qe_ix (hu64 hr) (qe_var 2) qe_int) (qe_var 4)))))) (qe_tup (qa_cons (qe_var 6) (qa_cons (qe_var 4) qa_nil))) (qe_var 2))) (qss_one (qs_set 3 sc.nd (qe_if (qt_w (qw_or (qt_is (qe_var 3) qe_non) (qw_or1 (qt_lt (qe_mul (qe_var 7) (qe_ix (hu64 hr) (qe_var 3) qe_int)) (qe_mul (qe_ix (hu64 hr) (qe_var 3) qe_int) (qe_var 4)))))) (qe_tup (qa_cons (qe_var 7) (qa_cons (qe_var 4) qa_nil))) (qe_var 3)))))))) (qss_one (qs_ret (qe_if (qt_lt (qe_mul (qe_ix (hu64 hr) (qe_var 2) qe_int) (qe_ix (hu64 hr) (qe_var 3) qe_int)) (qe_mul (qe_ix (hu64 hr) (qe_var 3) qe_int) (qe_ix (hu64 hr) (qe_var 2) qe_int))) (qe_tup (qa_cons (qe_call O_lowest hr (by decide) rfl (qa_cons (qe_ix (hu64 hr) (qe_var 2) qe_int) (qa_cons (qe_ix (hu64 hr) (qe_var 2) qe_int) qa_nil))) (qa_cons (qe_call O_lowest hr (by decide) rfl (qa_cons (qe_ix (hu64 hr) (qe_var 3) qe_int) (qa_cons (qe_ix (hu64 hr) (qe_var 3) qe_int) qa_nil))) qa_nil))) qe_non)))))
theorem b_slopes (fc : Fc P K mg) (O_need_letters : (Fo P w K mg base "need_letters" s_need_letters ["word"] 4 (SpF K mg T p_need_letters))) (O_open_rates : (Fo P w K mg base "open_rates" s_open_rates ["word"] 2 (SpF K mg T p_open_rates))) : Body P w K mg base T N_slopes "slopes" s_slopes 4 t_slopes := by
  have sc := sc_slopes
  intro f cdv A outer s H E Z hr
  exact (qss_cons (qs_expr (qe_call O_need_letters hr (by decide) rfl (qa_cons (qe_var 0) qa_nil))) (qss_one (qs_ret (qe_if (qt_eq (hu64 hr) (qe_var 0) (qe_tup qa_nil)) (qe_tup (qa_cons qe_non (qa_cons qe_non qa_nil))) (qe_call O_open_rates hr (by decide) rfl (qa_cons (qe_var 0) qa_nil))))))
theorem b__law_mixed (fc : Fc P K mg)  : Body P w K mg base T N__law_mixed "_law_mixed" s__law_mixed 0 t__law_mixed := by
  have sc := sc__law_mixed
  intro f cdv A outer s H E Z hr
  exact (qss_cons (qs_dturn 0 (hu64 hr) (qe_add (qe_dturn 0 (hu64 hr)) qe_int)) (qss_cons (qs_par 1 2 rfl sc.nd (by decide) (qa_cons (qe_int1 rfl fc.b_int (qa_cons (qe_dturn 0 (hu64 hr)) qa_nil)) (qa_cons qe_int qa_nil))) (qss_cons (qs_for (passes_of rfl) rfl (qi_seq (qe_lst (qa_cons qe_int (qa_cons qe_int (qa_cons qe_int qa_nil))))) (qg_name 3 sc.nd) (qss_cons (qs_set 4 sc.nd (qe_mod (qe_add (qe_mul (qe_var 1) qe_int) (qe_div (qe_var 3) qe_int)) (qe_var 3))) (qss_cons (qs_for (passes_of rfl) rfl (qi_seq (qe_dcells 0 (hu64 hr))) (qg_name 5 sc.nd) (qss_one (qs_set 4 sc.nd (qe_mod (qe_add (qe_add (qe_mul (qe_var 4) qe_int) (qe_int1 rfl fc.b_int (qa_cons (qe_var 5) qa_nil))) (qe_var 1)) (qe_var 3))))) (qss_one (qs_set 2 sc.nd (qe_add (qe_mul (qe_var 2) qe_int) (qe_mod (qe_pow (qe_var 4) qe_int) (qe_var 3)))))))) (qss_one (qs_ret (qe_var 2))))))
theorem b__law_take (fc : Fc P K mg) (O__law_mixed : (Fo P w K mg base "_law_mixed" s__law_mixed ["draw"] 1 (SpF K mg T p__law_mixed))) : Body P w K mg base T N__law_take "_law_take" s__law_take 1 t__law_take := by
  have sc := sc__law_take
  intro f cdv A outer s H E Z hr
  exact (qss_cons (qs_if (qt_eq (hu64 hr) (qe_drest 0 (hu64 hr)) qe_int) (qss_one (qs_drest 0 (hu64 hr) (qe_dpop 0 (hu64 hr) (qe_call O__law_mixed hr (by decide) rfl (qa_drw 0 qa_nil)) (hp := fun ho ha e1 e2 => by subst e1 e2; exact pe_bm PySem.F.plainAttrs_list PySem.F.slot_list_pop PySem.F.type_list_pop mt_popAt ho (pa_cons ha pa_nil))))) qss_nil) (qss_cons (qs_set 2 sc.nd (qe_mod (qe_int1 rfl fc.b_int (qa_cons (qe_drest 0 (hu64 hr)) qa_nil)) (qe_var 1))) (qss_cons (qs_drest 0 (hu64 hr) (qe_div (qe_int1 rfl fc.b_int (qa_cons (qe_drest 0 (hu64 hr)) qa_nil)) (qe_var 1))) (qss_one (qs_ret (qe_var 2))))))
theorem b__law_pick (fc : Fc P K mg) (O__law_take : (Fo P w K mg base "_law_take" s__law_take ["draw", "amount"] 2 (SpF K mg T p__law_take))) : Body P w K mg base T N__law_pick "_law_pick" s__law_pick 2 t__law_pick := by
  have sc := sc__law_pick
  intro f cdv A outer s H E Z hr
  exact (qss_one (qs_ret (qe_ix (hu64 hr) (qe_var 1) (qe_call O__law_take hr (by decide) rfl (qa_drw 0 (qa_cons (qe_len rfl fc.b_len (qa_cons (qe_var 1) qa_nil)) qa_nil))))))
theorem b__law_caught (fc : Fc P K mg) (LO : ∀ p ∈ LT, LamOk P w K mg base T 6 p.1 p.2) : Body P w K mg base T N__law_caught "_law_caught" s__law_caught 6 t__law_caught := by
  have sc := sc__law_caught
  obtain ⟨FE, hFE⟩ := fc.n_FrameError
  have hct := fc.xcat FE hFE
  intro f cdv A outer s H E Z hr
  exact (qss_cons (qs_set 1 sc.nd qe_non) (qss_cons (qs_keep (cat := xcat) rfl rfl rfl sc.nd rfl rfl (by decide) rfl rfl ⟨rfl, rfl, .inl hFE⟩ hct rfl (fun pn xe Z po => (qss_one (qs_expr (qe_lam 0 LO hr (by decide)))))) (qss_one (qs_ret (qe_var 1)))))
theorem b__law_number (fc : Fc P K mg) (O__law_pick : (Fo P w K mg base "_law_pick" s__law_pick ["draw", "some"] 3 (SpF K mg T p__law_pick))) (O__law_take : (Fo P w K mg base "_law_take" s__law_take ["draw", "amount"] 2 (SpF K mg T p__law_take))) : Body P w K mg base T N__law_number "_law_number" s__law_number 3 t__law_number := by
  have sc := sc__law_number
  intro f cdv A outer s H E Z hr
  exact (qss_cons (qs_set 2 sc.nd (qe_min2 rfl rfl fc.b_min (qa_cons (qe_var 1) (qa_cons qe_int qa_nil)))) (qss_one (qs_ret (qe_call O__law_pick hr (by decide) rfl (qa_drw 0 (qa_cons (qe_lst (qa_cons (qe_sub (qe_call O__law_take hr (by decide) rfl (qa_drw 0 (qa_cons (qe_add (qe_mul qe_int (qe_var 2)) qe_int) qa_nil))) (qe_var 2)) (qa_cons (qe_sub (qe_call O__law_take hr (by decide) rfl (qa_drw 0 (qa_cons (qe_add (qe_mul qe_int (qe_var 1)) qe_int) qa_nil))) (qe_var 1)) (qa_cons (qe_var 1) (qa_cons (qe_sub qe_int (qe_var 1)) (qa_cons qe_int (qa_cons qe_int qa_nil))))))) qa_nil))))))
theorem b__law_at (fc : Fc P K mg)  : Body P w K mg base T N__law_at "_law_at" s__law_at 0 t__law_at := by
  have sc := sc__law_at
  intro f cdv A outer s H E Z hr
  exact (qss_cons (qs_set 2 sc.nd (qe_add (qe_mul (qe_ix (hu64 hr) (qe_var 0) qe_int) (qe_var 1)) (qe_ix (hu64 hr) (qe_var 0) qe_int))) (qss_one (qs_ret (qe_div (qe_sub (qe_var 2) (qe_mod (qe_var 2) (qe_ix (hu64 hr) (qe_var 0) qe_int))) (qe_ix (hu64 hr) (qe_var 0) qe_int)))))
theorem b__law_common (fc : Fc P K mg)  : Body P w K mg base T N__law_common "_law_common" s__law_common 0 t__law_common := by
  have sc := sc__law_common
  intro f cdv A outer s H E Z hr
  exact (qss_cons (qs_par 0 1 rfl sc.nd (by decide) (qa_cons (qe_abs rfl fc.b_abs (qa_cons (qe_var 0) qa_nil)) (qa_cons (qe_abs rfl fc.b_abs (qa_cons (qe_var 1) qa_nil)) qa_nil))) (qss_cons (qs_while (passes_of rfl) (qt_ne (hu64 hr) (qe_var 1) qe_int) (qss_one (qs_par 0 1 rfl sc.nd (by decide) (qa_cons (qe_var 1) (qa_cons (qe_mod (qe_var 0) (qe_var 1)) qa_nil))))) (qss_one (qs_ret (qe_var 0)))))
theorem b__law_says (fc : Fc P K mg)  : BodyG P w K mg base T N__law_says "_law_says" s__law_says 0 t__law_says := by
  have sc := sc__law_says
  intro f cdv A outer s H E Z hr hg
  exact (qss_one (qs_ret (qe_eq (hu64 hr) (qe_repr hg (hu64 hr) rfl fc.b_repr (qa_cons (qe_var 0) qa_nil)) (qe_repr hg (hu64 hr) rfl fc.b_repr (qa_cons (qe_var 1) qa_nil)))))
theorem b__law_named (fc : Fc P K mg)  : Body P w K mg base T N__law_named "_law_named" s__law_named 0 t__law_named := by
  have sc := sc__law_named
  intro f cdv A outer s H E Z hr
  exact (qss_cons (qs_set 1 sc.nd (qe_lst (qa_cons (qe_tup (qa_cons (qe_isi fc.xt rfl fc.b_isinstance (qa_cons (qe_var 0) (qa_cons (qe_gfn rfl fc.n_BadLetters) qa_nil))) (qa_cons qe_str qa_nil))) (qa_cons (qe_tup (qa_cons (qe_isi fc.xt rfl fc.b_isinstance (qa_cons (qe_var 0) (qa_cons (qe_gfn rfl fc.n_BadMost) qa_nil))) (qa_cons qe_str qa_nil))) (qa_cons (qe_tup (qa_cons (qe_isi fc.xt rfl fc.b_isinstance (qa_cons (qe_var 0) (qa_cons (qe_gfn rfl fc.n_BadPace) qa_nil))) (qa_cons qe_str qa_nil))) (qa_cons (qe_tup (qa_cons (qe_isi fc.xt rfl fc.b_isinstance (qa_cons (qe_var 0) (qa_cons (qe_gfn rfl fc.n_BadTurn) qa_nil))) (qa_cons qe_str qa_nil))) qa_nil)))))) (qss_cons (qs_set 1 sc.nd (qe_add (qe_var 1) (qe_lst (qa_cons (qe_tup (qa_cons (qe_isi fc.xt rfl fc.b_isinstance (qa_cons (qe_var 0) (qa_cons (qe_gfn rfl fc.n_BadStride) qa_nil))) (qa_cons qe_str qa_nil))) (qa_cons (qe_tup (qa_cons (qe_isi fc.xt rfl fc.b_isinstance (qa_cons (qe_var 0) (qa_cons (qe_gfn rfl fc.n_BadMany) qa_nil))) (qa_cons qe_str qa_nil))) qa_nil))))) (qss_cons (qs_setLc2 2 (own := [("is_one", 3), ("word", 4)]) (i := 3) (j := 4) rfl sc.nd (blkOk_by (by kernel_rfl)) (by decide) (by decide) (qi_seq (qe_var 1)) (fun s H C cl fp => lc_pg2 rfl sc.nd) (fun s H C cl fp Z' => (qts_one (qt_val (qe_var 3)))) (fun s H C cl fp Z' => (qe_var 4))) (qss_cons (qs_if (qt_w (qw_or (qt_val (qe_isi fc.xt rfl fc.b_isinstance (qa_cons (qe_var 0) (qa_cons (qe_gfn rfl fc.n_BadStep) qa_nil)))) (qw_or1 (qt_val (qe_isi fc.xt rfl fc.b_isinstance (qa_cons (qe_var 0) (qa_cons (qe_gfn rfl fc.n_BadFrame) qa_nil))))))) (qss_one (qs_append 2 (qe_add (qe_if (qt_val (qe_isi fc.xt rfl fc.b_isinstance (qa_cons (qe_var 0) (qa_cons (qe_gfn rfl fc.n_BadStep) qa_nil)))) qe_str qe_str) (qe_str1 rfl fc.b_str (qa_cons (qe_fld (fc.xfld _ (by decide)) (qe_var 0)) qa_nil))) (hp := pe_bm PySem.F.plainAttrs_list PySem.F.slot_list_append PySem.F.type_list_append mt_append (pe_var rfl (by first | exact Or.inl rfl | exact Or.inr (Or.inl rfl) | exact Or.inr (Or.inr rfl))) (pa_cons (qe_add (qe_if (qt_val (qe_isi fc.xt rfl fc.b_isinstance (qa_cons (qe_var 0) (qa_cons (qe_gfn rfl fc.n_BadStep) qa_nil)))) qe_str qe_str) (qe_str1 rfl fc.b_str (qa_cons (qe_fld (fc.xfld _ (by decide)) (qe_var 0)) qa_nil))) pa_nil)))) qss_nil) (qss_cons (qs_if (qt_val (qe_isi fc.xt rfl fc.b_isinstance (qa_cons (qe_var 0) (qa_cons (qe_gfn rfl fc.n_TooMany) qa_nil)))) (qss_one (qs_append 2 (qe_add qe_str (qe_str1 rfl fc.b_str (qa_cons (qe_fld (fc.xfld _ (by decide)) (qe_var 0)) qa_nil))) (hp := pe_bm PySem.F.plainAttrs_list PySem.F.slot_list_append PySem.F.type_list_append mt_append (pe_var rfl (by first | exact Or.inl rfl | exact Or.inr (Or.inl rfl) | exact Or.inr (Or.inr rfl))) (pa_cons (qe_add qe_str (qe_str1 rfl fc.b_str (qa_cons (qe_fld (fc.xfld _ (by decide)) (qe_var 0)) qa_nil))) pa_nil)))) qss_nil) (qs_freeze 2 (qss_one (qs_ret (qe_if (qt_w (qw_and (qt_eq (hu64 hr) (qe_len rfl fc.b_len (qa_cons (qe_var 2) qa_nil)) qe_int) (qw_and1 (qt_val (qe_isiV fc.xval rfl fc.b_isinstance (qa_cons (qe_var 0) (qa_cons (qe_tyN (by decide +kernel) rfl fc.b_ValueError) qa_nil))))))) (qe_ix (hu64 hr) (qe_var 2) qe_int) (qe_if (qt_is (qe_var 0) qe_non) qe_str qe_str))))))))))
theorem b__law_shown (fc : Fc P K mg) (O__law_at : (Fo P w K mg base "_law_at" s__law_at ["step", "frame"] 1 (SpF K mg T p__law_at))) : Body P w K mg base T N__law_shown "_law_shown" s__law_shown 1 t__law_shown := by
  have sc := sc__law_shown
  intro f cdv A outer s H E Z hr
  exact (qss_one (qs_ret (qe_tuple1 rfl fc.b_tuple (qa_cons (QN.fz (qn_lc (own := [("place", 3)]) rfl sc.nd (blkOk_by (by kernel_rfl)) (by decide) (qi_rng1 rfl fc.b_range (qa_cons (qe_var 2) qa_nil)) (fun s H C cl fp => lc_pg sc.nd) (fun s H C cl fp Z' => qts_nil) (fun s H C cl fp Z' => (qe_sub (qe_call O__law_at hr (by decide) rfl (qa_cons (qe_var 0) (qa_cons (qe_add (qe_add (qe_var 1) (qe_var 3)) qe_int) qa_nil))) (qe_call O__law_at hr (by decide) rfl (qa_cons (qe_var 0) (qa_cons (qe_add (qe_var 1) (qe_var 3)) qa_nil))))))) qa_nil))))
theorem b__law_small_step (fc : Fc P K mg) (O__law_pick : (Fo P w K mg base "_law_pick" s__law_pick ["draw", "some"] 3 (SpF K mg T p__law_pick))) (O__law_take : (Fo P w K mg base "_law_take" s__law_take ["draw", "amount"] 2 (SpF K mg T p__law_take))) (O__law_number : (Fo P w K mg base "_law_number" s__law_number ["draw", "most"] 4 (SpF K mg T p__law_number))) : Body P w K mg base T N__law_small_step "_law_small_step" s__law_small_step 4 t__law_small_step := by
  have sc := sc__law_small_step
  intro f cdv A outer s H E Z hr
  exact (qss_cons (qs_set 2 sc.nd (qe_add qe_int (qe_call O__law_take hr (by decide) rfl (qa_drw 0 (qa_cons (qe_var 1) qa_nil))))) (qss_cons (qs_set 3 sc.nd (qe_call O__law_pick hr (by decide) rfl (qa_drw 0 (qa_cons (qe_lst (qa_cons (qe_call O__law_take hr (by decide) rfl (qa_drw 0 (qa_cons (qe_add (qe_var 2) qe_int) qa_nil))) (qa_cons (qe_call O__law_take hr (by decide) rfl (qa_drw 0 (qa_cons (qe_add (qe_var 2) qe_int) qa_nil))) (qa_cons (qe_call O__law_number hr (by decide) rfl (qa_drw 0 (qa_cons (qe_mul qe_int (qe_var 2)) qa_nil))) (qa_cons (qe_call O__law_number hr (by decide) rfl (qa_drw 0 (qa_cons (qe_pow qe_int qe_int) qa_nil))) qa_nil))))) qa_nil)))) (qss_one (qs_ret (qe_tup (qa_cons (qe_var 3) (qa_cons (qe_call O__law_number hr (by decide) rfl (qa_drw 0 (qa_cons (qe_call O__law_pick hr (by decide) rfl (qa_drw 0 (qa_cons (qe_lst (qa_cons qe_int (qa_cons (qe_pow qe_int qe_int) (qa_cons (qe_pow qe_int qe_int) qa_nil)))) qa_nil))) qa_nil))) (qa_cons (qe_var 2) qa_nil))))))))
theorem b__law_word (fc : Fc P K mg) (O__law_shown : (Fo P w K mg base "_law_shown" s__law_shown ["step", "frame", "many"] 2 (SpF K mg T p__law_shown))) (O__law_take : (Fo P w K mg base "_law_take" s__law_take ["draw", "amount"] 2 (SpF K mg T p__law_take))) (O__law_small_step : (Fo P w K mg base "_law_small_step" s__law_small_step ["draw", "most"] 5 (SpF K mg T p__law_small_step))) (O__law_number : (Fo P w K mg base "_law_number" s__law_number ["draw", "most"] 4 (SpF K mg T p__law_number))) (O__law_pick : (Fo P w K mg base "_law_pick" s__law_pick ["draw", "some"] 3 (SpF K mg T p__law_pick))) : Body P w K mg base T N__law_word "_law_word" s__law_word 5 t__law_word := by
  have sc := sc__law_word
  intro f cdv A outer s H E Z hr
  exact (qss_cons (qs_par 2 3 rfl sc.nd (by decide) (qa_cons (qe_call O__law_take hr (by decide) rfl (qa_drw 0 (qa_cons (qe_add (qe_var 1) qe_int) qa_nil))) (qa_cons (qe_call O__law_take hr (by decide) rfl (qa_drw 0 (qa_cons qe_int qa_nil))) qa_nil))) (qss_cons (qs_if (qt_eq (hu64 hr) (qe_var 3) qe_int) (qss_one (qs_ret (qe_tuple1 rfl fc.b_tuple (qa_cons (QN.fz (qn_lc (own := [("place", 4)]) rfl sc.nd (blkOk_by (by kernel_rfl)) (by decide) (qi_rng1 rfl fc.b_range (qa_cons (qe_var 2) qa_nil)) (fun s H C cl fp => lc_pg sc.nd) (fun s H C cl fp Z' => qts_nil) (fun s H C cl fp Z' => (qe_call O__law_number hr (by decide) rfl (qa_drw 0 (qa_cons (qe_call O__law_pick hr (by decide) rfl (qa_drw 0 (qa_cons (qe_lst (qa_cons qe_int (qa_cons qe_int (qa_cons (qe_pow qe_int qe_int) qa_nil)))) qa_nil))) qa_nil)))))) qa_nil)))) qss_nil) (qss_cons (qs_if (qt_eq (hu64 hr) (qe_var 3) qe_int) (qss_one (qs_ret (qe_repT (qe_tup (qa_cons (qe_call O__law_number hr (by decide) rfl (qa_drw 0 (qa_cons (qe_call O__law_pick hr (by decide) rfl (qa_drw 0 (qa_cons (qe_lst (qa_cons qe_int (qa_cons (qe_pow qe_int qe_int) qa_nil))) qa_nil))) qa_nil))) qa_nil)) (qe_var 2)))) qss_nil) (qss_cons (qs_set 5 sc.nd (qe_call O__law_shown hr (by decide) rfl (qa_cons (qe_call O__law_small_step hr (by decide) rfl (qa_drw 0 (qa_cons (qe_call O__law_pick hr (by decide) rfl (qa_drw 0 (qa_cons (qe_lst (qa_cons qe_int (qa_cons qe_int (qa_cons qe_int qa_nil)))) qa_nil))) qa_nil))) (qa_cons (qe_call O__law_number hr (by decide) rfl (qa_drw 0 (qa_cons (qe_pow qe_int qe_int) qa_nil))) (qa_cons (qe_var 2) qa_nil))))) (qss_cons (qs_set 5 sc.nd (qe_tuple1 rfl fc.b_tuple (qa_cons (QN.fz (qn_lc (own := [("letter", 6)]) rfl sc.nd (blkOk_by (by kernel_rfl)) (by decide) (qi_seq (qe_var 5)) (fun s H C cl fp => lc_pg sc.nd) (fun s H C cl fp Z' => qts_nil) (fun s H C cl fp Z' => (qe_min2 rfl rfl fc.b_min (qa_cons (qe_pow qe_int qe_int) (qa_cons (qe_max2 rfl rfl fc.b_max (qa_cons (qe_sub qe_int (qe_pow qe_int qe_int)) (qa_cons (qe_var 6) qa_nil))) qa_nil)))))) qa_nil))) (qss_cons (qs_if (qt_w (qw_and (qt_eq (hu64 hr) (qe_var 3) qe_int) (qw_and1 (qt_ne (hu64 hr) (qe_var 5) (qe_tup qa_nil))))) (qss_cons (qs_set 7 sc.nd (qe_call O__law_take hr (by decide) rfl (qa_drw 0 (qa_cons (qe_var 2) qa_nil)))) (qss_one (qs_ret (qe_add (qe_add (qe_sl (qe_var 5) qo_none (qo_some (qe_var 7))) (qe_tup (qa_cons (qe_if (qt_lt (qe_abs rfl fc.b_abs (qa_cons (qe_ix (hu64 hr) (qe_var 5) (qe_var 7)) qa_nil)) (qe_pow qe_int qe_int)) (qe_add (qe_ix (hu64 hr) (qe_var 5) (qe_var 7)) (qe_call O__law_pick hr (by decide) rfl (qa_drw 0 (qa_cons (qe_lst (qa_cons (qe_neg qe_int) (qa_cons qe_int qa_nil))) qa_nil)))) qe_int) qa_nil))) (qe_sl (qe_var 5) (qo_some (qe_add (qe_var 7) qe_int)) qo_none))))) qss_nil) (qss_one (qs_ret (qe_var 5)))))))))
theorem b__law_no_word (fc : Fc P K mg) (O__law_pick : (Fo P w K mg base "_law_pick" s__law_pick ["draw", "some"] 3 (SpF K mg T p__law_pick))) : Body P w K mg base T N__law_no_word "_law_no_word" s__law_no_word 3 t__law_no_word := by
  have sc := sc__law_no_word
  intro f cdv A outer s H E Z hr
  exact (qss_one (qs_ret (qe_call O__law_pick hr (by decide) rfl (qa_drw 0 (qa_cons (qe_lst (qa_cons qe_non (qa_cons qe_int (qa_cons (qe_lst (qa_cons qe_int (qa_cons qe_int qa_nil))) (qa_cons (qe_repT (qe_tup (qa_cons qe_int qa_nil)) qe_int) (qa_cons (qe_tup (qa_cons (qe_add (qe_pow qe_int qe_int) qe_int) qa_nil)) (qa_cons (qe_tup (qa_cons (qe_sub (qe_neg (qe_pow qe_int qe_int)) qe_int) qa_nil)) (qa_cons (qe_tup (qa_cons qe_bl qa_nil)) (qa_cons (qe_tup (qa_cons qe_int (qa_cons qe_non qa_nil))) (qa_cons (qe_tup (qa_cons qe_str qa_nil)) (qa_cons qe_str (qa_cons qe_dic0 qa_nil)))))))))))) qa_nil)))))
theorem b__law_sums (fc : Fc P K mg)  : Body P w K mg base T N__law_sums "_law_sums" s__law_sums 0 t__law_sums := by
  have sc := sc__law_sums
  intro f cdv A outer s H E Z hr
  exact (qss_cons (qs_setOwn 1 sc.nd (qn_lst (qa_cons qe_int qa_nil))) (qss_cons (qs_for (passes_of rfl) rfl (qi_seq (qe_var 0)) (qg_name 2 sc.nd) (qss_one (qs_append 1 (qe_add (qe_ownIx 1 (qe_neg qe_int)) (qe_var 2)) (hp := pe_bm PySem.F.plainAttrs_list PySem.F.slot_list_append PySem.F.type_list_append mt_append (pe_var rfl (by first | exact Or.inl rfl | exact Or.inr (Or.inl rfl) | exact Or.inr (Or.inr rfl))) (pa_cons (qe_add (qe_ownIx 1 (qe_neg qe_int)) (qe_var 2)) pa_nil))))) (qs_freeze 1 (qss_one (qs_ret (qe_var 1))))))
theorem b__law_lowest (fc : Fc P K mg) (O__law_common : (Fo P w K mg base "_law_common" s__law_common ["one", "other"] 1 (SpF K mg T p__law_common))) : Body P w K mg base T N__law_lowest "_law_lowest" s__law_lowest 1 t__law_lowest := by
  have sc := sc__law_lowest
  intro f cdv A outer s H E Z hr
  exact (qss_cons (qs_set 2 sc.nd (qe_call O__law_common hr (by decide) rfl (qa_cons (qe_var 0) (qa_cons (qe_var 1) qa_nil)))) (qss_one (qs_ret (qe_tup (qa_cons (qe_div (qe_var 0) (qe_var 2)) (qa_cons (qe_div (qe_var 1) (qe_var 2)) qa_nil))))))
theorem b__law_rates (fc : Fc P K mg) (O__law_sums : (Fo P w K mg base "_law_sums" s__law_sums ["word"] 1 (SpF K mg T p__law_sums))) (O__law_lowest : (Fo P w K mg base "_law_lowest" s__law_lowest ["above", "below"] 2 (SpF K mg T p__law_lowest))) : Body P w K mg base T N__law_rates "_law_rates" s__law_rates 2 t__law_rates := by
  have sc := sc__law_rates
  intro f cdv A outer s H E Z hr
  exact (qss_cons (qs_par3 1 2 3 rfl sc.nd (qa_cons (qe_call O__law_sums hr (by decide) rfl (qa_cons (qe_var 0) qa_nil)) (qa_cons qe_non (qa_cons qe_non qa_nil)))) (qss_cons (qs_for (passes_of rfl) rfl (qi_rng1 rfl fc.b_range (qa_cons (qe_len rfl fc.b_len (qa_cons (qe_var 0) qa_nil)) qa_nil)) (qg_name 4 sc.nd) (qss_one (qs_for (passes_of rfl) rfl (qi_rng2 rfl fc.b_range (qa_cons (qe_add (qe_var 4) qe_int) (qa_cons (qe_add (qe_len rfl fc.b_len (qa_cons (qe_var 0) qa_nil)) qe_int) qa_nil))) (qg_name 5 sc.nd) (qss_cons (qs_par 6 7 rfl sc.nd (by decide) (qa_cons (qe_sub (qe_ix (hu64 hr) (qe_var 1) (qe_var 5)) (qe_ix (hu64 hr) (qe_var 1) (qe_var 4))) (qa_cons (qe_sub (qe_var 5) (qe_var 4)) qa_nil))) (qss_cons (qs_set 2 sc.nd (qe_if (qt_w (qw_or (qt_is (qe_var 2) qe_non) (qw_or1 (qt_gt (qe_mul (qe_sub (qe_var 6) qe_int) (qe_ix (hu64 hr) (qe_var 2) qe_int)) (qe_mul (qe_ix (hu64 hr) (qe_var 2) qe_int) (qe_var 7)))))) (qe_tup (qa_cons (qe_sub (qe_var 6) qe_int) (qa_cons (qe_var 7) qa_nil))) (qe_var 2))) (qss_one (qs_set 3 sc.nd (qe_if (qt_w (qw_or (qt_is (qe_var 3) qe_non) (qw_or1 (qt_lt (qe_mul (qe_add (qe_var 6) qe_int) (qe_ix (hu64 hr) (qe_var 3) qe_int)) (qe_mul (qe_ix (hu64 hr) (qe_var 3) qe_int) (qe_var 7)))))) (qe_tup (qa_cons (qe_add (qe_var 6) qe_int) (qa_cons (qe_var 7) qa_nil))) (qe_var 3))))))))) (qss_cons (qs_if (qt_ge (qe_mul (qe_ix (hu64 hr) (qe_var 2) qe_int) (qe_ix (hu64 hr) (qe_var 3) qe_int)) (qe_mul (qe_ix (hu64 hr) (qe_var 3) qe_int) (qe_ix (hu64 hr) (qe_var 2) qe_int))) (qss_one (qs_ret qe_non)) qss_nil) (qss_one (qs_ret (qe_tup (qa_cons (qe_call O__law_lowest hr (by decide) rfl (qa_cons (qe_ix (hu64 hr) (qe_var 2) qe_int) (qa_cons (qe_ix (hu64 hr) (qe_var 2) qe_int) qa_nil))) (qa_cons (qe_call O__law_lowest hr (by decide) rfl (qa_cons (qe_ix (hu64 hr) (qe_var 3) qe_int) (qa_cons (qe_ix (hu64 hr) (qe_var 3) qe_int) qa_nil))) qa_nil))))))))
theorem b__law_is_between (fc : Fc P K mg)  : Body P w K mg base T N__law_is_between "_law_is_between" s__law_is_between 0 t__law_is_between := by
  have sc := sc__law_is_between
  intro f cdv A outer s H E Z hr
  exact (qss_one (qs_ret (qe_and (qe_lt (qe_mul (qe_ix (hu64 hr) (qe_ix (hu64 hr) (qe_var 2) qe_int) qe_int) (qe_var 1)) (qe_mul (qe_var 0) (qe_ix (hu64 hr) (qe_ix (hu64 hr) (qe_var 2) qe_int) qe_int))) (qe_one (qe_lt (qe_mul (qe_var 0) (qe_ix (hu64 hr) (qe_ix (hu64 hr) (qe_var 2) qe_int) qe_int)) (qe_mul (qe_ix (hu64 hr) (qe_ix (hu64 hr) (qe_var 2) qe_int) qe_int) (qe_var 1)))))))
theorem b__law_shows (fc : Fc P K mg) (O__law_shown : (Fo P w K mg base "_law_shown" s__law_shown ["step", "frame", "many"] 2 (SpF K mg T p__law_shown))) : Body P w K mg base T N__law_shows "_law_shows" s__law_shows 2 t__law_shows := by
  have sc := sc__law_shows
  intro f cdv A outer s H E Z hr
  exact (qss_one (qs_ret (qe_ne (hu64 hr) (QN.fz (qn_lc (own := [("begin", 3)]) rfl sc.nd (blkOk_by (by kernel_rfl)) (by decide) (qi_rng1 rfl fc.b_range (qa_cons (qe_var 1) qa_nil)) (fun s H C cl fp => lc_pg sc.nd) (fun s H C cl fp Z' => (qts_one (qt_eq (hu64 hr) (qe_call O__law_shown hr (by decide) rfl (qa_cons (qe_tup (qa_cons (qe_var 0) (qa_cons (qe_var 3) (qa_cons (qe_var 1) qa_nil)))) (qa_cons qe_int (qa_cons (qe_len rfl fc.b_len (qa_cons (qe_var 2) qa_nil)) qa_nil)))) (qe_var 2)))) (fun s H C cl fp Z' => (qe_var 3)))) (qe_lst qa_nil))))
theorem o__law_begun (fc : Fc P K mg) (pb : PureB N__law_begun.length 1 t1__law_begun t2__law_begun) {f : Addr} {fd : FuncData} (hm : mg "_law_begun" = some (.ref f)) (F : FunD K "_law_begun" "_law_begun" (defArgs s__law_begun) (defBody s__law_begun) (defScope s__law_begun) [] [] f fd) (hbd : Binds K fd ["script"] []) : (Fo P w K mg base "_law_begun" s__law_begun ["script"] 1 (SpB K mg T)) := by
  have sc := sc__law_begun
  refine begun_ok (ts := t1__law_begun) (tn := t2__law_begun) (i := 1) hm F sc hbd rfl rfl (fun f cdv A outer s H E Z hr => ?_) (fun f cdv A outer s H E Z hr => ?_) pb
  · exact (qs_setLc 1 (own := [("cell", 2)]) rfl sc.nd (blkOk_by (by kernel_rfl)) (by decide) (qi_seq (qe_var 0)) (fun s H C cl fp => lc_pg sc.nd) (fun s H C cl fp Z' => (qts_one (qt_ge (qe_abs rfl fc.b_abs (qa_cons (qe_var 2) qa_nil)) (qe_pow qe_int qe_int)))) (fun s H C cl fp Z' => (qe_sub (qe_abs rfl fc.b_abs (qa_cons (qe_var 2) qa_nil)) (qe_pow qe_int qe_int))))
  · exact ps_begun 1 (fun Z => (qn_lc (own := [("cell", 2)]) rfl sc.nd (blkOk_by (by kernel_rfl)) (by decide) (qi_seq (qe_var 0)) (fun s H C cl fp => lc_pg sc.nd) (fun s H C cl fp Z' => qts_nil) (fun s H C cl fp Z' => (qe_abs rfl fc.b_abs (qa_cons (qe_var 2) qa_nil)))))
theorem b_law (fc : Fc P K mg) (O_slopes : (Fo P w K mg base "slopes" s_slopes ["word"] 5 (SpF K mg T p_slopes))) (O__law_word : (Fo P w K mg base "_law_word" s__law_word ["draw", "most"] 6 (SpF K mg T p__law_word))) (O__law_no_word : (Fo P w K mg base "_law_no_word" s__law_no_word ["draw"] 4 (SpF K mg T p__law_no_word))) (O__law_rates : (Fo P w K mg base "_law_rates" s__law_rates ["word"] 3 (SpF K mg T p__law_rates))) (O__law_named : (Fo P w K mg base "_law_named" s__law_named ["error"] 1 (SpF K mg T p__law_named))) (O__law_pick : (Fo P w K mg base "_law_pick" s__law_pick ["draw", "some"] 3 (SpF K mg T p__law_pick))) (O__law_says : (Go P w K mg base "_law_says" s__law_says ["told_here", "due"] 1 (SpF K mg T p__law_says))) (O_is_balanced : (Fo P w K mg base "is_balanced" s_is_balanced ["word"] 5 (SpF K mg T p_is_balanced))) (O__law_caught : (Fo P w K mg base "_law_caught" s__law_caught ["work"] 7 (SpF K mg T p__law_caught))) (O__law_take : (Fo P w K mg base "_law_take" s__law_take ["draw", "amount"] 2 (SpF K mg T p__law_take))) (O__law_shows : (Fo P w K mg base "_law_shows" s__law_shows ["part", "whole", "word"] 3 (SpF K mg T p__law_shows))) (O__law_is_between : (Fo P w K mg base "_law_is_between" s__law_is_between ["part", "whole", "rates"] 1 (SpF K mg T p__law_is_between))) {cc PP : Addr} (tb : LamX.TabB base mg cc PP) (hmT : (PP, ("law.<locals>.<lambda>" : Str)) ∈ T) (hu : ∀ p ∈ T, p.1 = PP → p.2 = ("law.<locals>.<lambda>" : Str)) : ∀ (f : Addr) (A : Around) (outer : List Env) (s : Shared) (H : Hp) (E : XK) (Z : Zx), Room 7 (A.deeper (envOfC "law" (defScope s_law) s.heap.objs.size f (.ref cc))) → A.guards = some [] → QSs (CxD P w K mg base N_law "law" s_law f (.ref cc) A outer s H E) T Z (defBody s_law).tail t_law := by
  have sc := sc_law
  have lamst0 : LamSt lam0 := lamSt_by (by decide +kernel) fun _ _ _ _ => rfl
  have rfl_free0 : ∀ y ∈ lam0.scope.names, y.2 = .free → (defScope s_law).names.lookup y.1 = some .cell ∨ (defScope s_law).names.lookup y.1 = some .free := by decide +kernel
  intro f A outer s H E Z hr hg
  have hcode : (CxD P w K mg base N_law "law" s_law f (.ref cc) A outer s H E).env.code = .ref cc := rfl
  exact (qss_cons (qs_if (qt_ne (hu64 hr) (qe_call O_slopes hr (by decide) rfl (qa_cons (qe_tup qa_nil) qa_nil)) (qe_tup (qa_cons qe_non (qa_cons qe_non qa_nil)))) (qss_one (qs_ret qe_bl)) qss_nil) (qss_cons (qs_for (passes_of rfl) rfl (qi_rng1 rfl fc.b_range (qa_cons (qe_add qe_int (qe_min2 rfl rfl fc.b_min (qa_cons (qe_len rfl fc.b_len (qa_cons (qe_var 0) qa_nil)) (qa_cons qe_int qa_nil)))) qa_nil)) (qg_name 2 sc.nd) (qss_cons (qs_set 3 sc.nd (qe_call O__law_word hr (by decide) rfl (qa_drw 1 (qa_cons (qe_if (qt_gt (qe_call O__law_take hr (by decide) rfl (qa_drw 1 (qa_cons qe_int qa_nil))) qe_int) (qe_call O__law_pick hr (by decide) rfl (qa_drw 1 (qa_cons (qe_lst (qa_cons qe_int (qa_cons qe_int (qa_cons qe_int (qa_cons qe_int qa_nil))))) qa_nil))) qe_int) qa_nil)))) (qss_cons (qs_set 4 sc.nd (qe_if (qt_ne (hu64 hr) (qe_var 3) (qe_tup qa_nil)) (qe_call O__law_rates hr (by decide) rfl (qa_cons (qe_var 3) qa_nil)) (qe_tup (qa_cons qe_non (qa_cons qe_non qa_nil))))) (qss_cons (qs_if (qt_w (qw_or (qt_not (qt_val (qe_callG O__law_says hr (by decide) hg rfl (qa_cons (qe_lst (qa_cons (qe_call O_slopes hr (by decide) rfl (qa_cons (qe_var 3) qa_nil)) (qa_cons (qe_callK (ks := ["word"]) (ix := [0]) O_slopes hr (by decide) rfl (qk_cons (qe_var 3) qk_nil) (kwb_slopes_0)) qa_nil))) (qa_cons (qe_lst (qa_cons (qe_var 4) (qa_cons (qe_var 4) qa_nil))) qa_nil))))) (qw_or1 (qt_eq (hu64 hr) (qe_is (qe_var 4) qe_non) (qe_call O_is_balanced hr (by decide) rfl (qa_cons (qe_var 3) qa_nil)))))) (qss_one (qs_ret qe_bl)) qss_nil) (qss_cons (qs_if (qt_w (qw_and (qt_isnot (qe_var 4) qe_non) (qw_and1 (qt_ne (hu64 hr) (qe_var 3) (qe_tup qa_nil))))) (qss_cons (qs_if (qt_gt (qe_max2 rfl rfl fc.b_max (qa_cons (qe_ix (hu64 hr) (qe_ix (hu64 hr) (qe_var 4) qe_int) qe_int) (qa_cons (qe_ix (hu64 hr) (qe_ix (hu64 hr) (qe_var 4) qe_int) qe_int) qa_nil))) (qe_len rfl fc.b_len (qa_cons (qe_var 3) qa_nil))) (qss_one (qs_ret qe_bl)) qss_nil) (qss_cons (qs_par 5 6 rfl sc.nd (by decide) (qa_cons (qe_list1 rfl fc.b_list (qa_cons (qe_var 4) qa_nil)) (qa_cons (qe_lst (qa_cons (qe_tup (qa_cons (qe_add (qe_ix (hu64 hr) (qe_ix (hu64 hr) (qe_var 4) qe_int) qe_int) (qe_ix (hu64 hr) (qe_ix (hu64 hr) (qe_var 4) qe_int) qe_int)) (qa_cons (qe_add (qe_ix (hu64 hr) (qe_ix (hu64 hr) (qe_var 4) qe_int) qe_int) (qe_ix (hu64 hr) (qe_ix (hu64 hr) (qe_var 4) qe_int) qe_int)) qa_nil))) (qa_cons (qe_tup (qa_cons (qe_add (qe_mul qe_int (qe_ix (hu64 hr) (qe_ix (hu64 hr) (qe_var 4) qe_int) qe_int)) (qe_ix (hu64 hr) (qe_ix (hu64 hr) (qe_var 4) qe_int) qe_int)) (qa_cons (qe_add (qe_mul qe_int (qe_ix (hu64 hr) (qe_ix (hu64 hr) (qe_var 4) qe_int) qe_int)) (qe_ix (hu64 hr) (qe_ix (hu64 hr) (qe_var 4) qe_int) qe_int)) qa_nil))) qa_nil))) qa_nil))) (qss_one (qs_if (qt_lt (qe_len rfl fc.b_len (qa_cons (qe_var 3) qa_nil)) qe_int) (qss_cons (qs_if (qt_w (qw_or (qt_ne (hu64 hr) (QN.fz (qn_lc2 (own := [("part", 7), ("whole", 8)]) (i := 7) (j := 8) rfl sc.nd (blkOk_by (by kernel_rfl)) (by decide) (by decide) (qi_seq (qe_var 6)) (fun s H C cl fp => lc_pg2 rfl sc.nd) (fun s H C cl fp Z' => (qts_one (qt_not (qt_val (qe_call O__law_shows hr (by decide) rfl (qa_cons (qe_var 7) (qa_cons (qe_var 8) (qa_cons (qe_var 3) qa_nil)))))))) (fun s H C cl fp Z' => qe_int))) (qe_lst qa_nil)) (qw_or1 (qt_ne (hu64 hr) (QN.fz (qn_lc2 (own := [("part", 7), ("whole", 8)]) (i := 7) (j := 8) rfl sc.nd (blkOk_by (by kernel_rfl)) (by decide) (by decide) (qi_seq (qe_var 5)) (fun s H C cl fp => lc_pg2 rfl sc.nd) (fun s H C cl fp Z' => (qts_one (qt_val (qe_call O__law_shows hr (by decide) rfl (qa_cons (qe_var 7) (qa_cons (qe_var 8) (qa_cons (qe_var 3) qa_nil))))))) (fun s H C cl fp Z' => qe_int))) (qe_lst qa_nil))))) (qss_one (qs_ret qe_bl)) qss_nil) (qss_cons (qs_set 8 sc.nd (qe_add qe_int (qe_call O__law_take hr (by decide) rfl (qa_drw 1 (qa_cons qe_int qa_nil))))) (qss_cons (qs_set 7 sc.nd (qe_sub (qe_add (qe_div (qe_mul (qe_ix (hu64 hr) (qe_ix (hu64 hr) (qe_var 4) qe_int) qe_int) (qe_var 8)) (qe_ix (hu64 hr) (qe_ix (hu64 hr) (qe_var 4) qe_int) qe_int)) (qe_call O__law_take hr (by decide) rfl (qa_drw 1 (qa_cons qe_int qa_nil)))) qe_int)) (qss_one (qs_if (qt_ne (hu64 hr) (qe_call O__law_shows hr (by decide) rfl (qa_cons (qe_var 7) (qa_cons (qe_var 8) (qa_cons (qe_var 3) qa_nil)))) (qe_call O__law_is_between hr (by decide) rfl (qa_cons (qe_var 7) (qa_cons (qe_var 8) (qa_cons (qe_var 4) qa_nil))))) (qss_one (qs_ret qe_bl)) qss_nil))))) qss_nil)))) qss_nil) (qss_cons (qs_set 9 sc.nd (qe_call O__law_no_word hr (by decide) rfl (qa_drw 1 qa_nil))) (qss_one (qs_if (qt_ne (hu64 hr) (qe_call O__law_named hr (by decide) rfl (qa_cons (qe_mkLam (L := lam0) (ix := [9]) O__law_caught hr (by decide) rfl lamst0 rfl tb hcode hmT hu rfl_free0 rfl) qa_nil)) qe_str) (qss_one (qs_ret qe_bl)) qss_nil)))))))) (qss_one (qs_ret qe_bl))))
end
end K40
set_option Elab.async false
set_option linter.all false
set_option maxRecDepth 100000
set_option maxHeartbeats 2000000
namespace K40
open PySem PySem.Spec PyProof.Rows L2 DL
theorem pf0 (ws : List Int) : pf ws 0 = 0 := rfl
theorem pf_next {ws : List Int} {i : Nat} {x : Int} (h : ws[i]? = some x) : pf ws (i + 1) = pf ws i + x := by
  unfold pf
  rw [List.take_succ, h, List.sum_append]
  simp
theorem first_of {P : Nat → Prop} (h : ∃ i, P i) : ∃ i, P i ∧ ∀ j, j < i → ¬ P j := by
  obtain ⟨i, hi⟩ := h
  induction i using Nat.strongRecOn with
  | ind i ih =>
    by_cases z : ∃ j, j < i ∧ P j
    · obtain ⟨j, h1, h2⟩ := z
      exact ih j h1 h2
    · exact ⟨i, hi, fun j h1 h2 => z ⟨j, h1, h2⟩⟩
theorem fu_ex (ws : List Int) : ∃ d, Fu ws d := by
  by_cases h : ∃ l, 1 ≤ l ∧ ∃ i j, Bad ws l i j
  · obtain ⟨l, ⟨l1, h2⟩, hl⟩ := first_of h
    obtain ⟨i, h3, hi⟩ := first_of h2
    obtain ⟨j, h4, hj⟩ := first_of h3
    exact ⟨_, .inr ⟨l, i, j, rfl, l1, h4, fun l' i' j' a b c => hl l' b ⟨a, i', j', c⟩, fun i' j' a b => hi i' a ⟨j', b⟩, fun j' a b => hj j' a b⟩⟩
  · exact ⟨.non, .inl ⟨rfl, fun l i j a b => h ⟨l, a, i, j, b⟩⟩⟩
theorem fu_one {ws : List Int} {d e : D} (h : Fu ws d) (h' : Fu ws e) : d = e := by
  rcases h with ⟨rfl, a⟩ | ⟨l, i, j, rfl, l1, b, c1, c2, c3⟩
  · rcases h' with ⟨rfl, _⟩ | ⟨l, i, j, rfl, l1, b, _⟩
    · rfl
    · exact absurd b (a l i j l1)
  · rcases h' with ⟨rfl, a⟩ | ⟨l', i', j', rfl, l1', b', c1', c2', c3'⟩
    · exact absurd b (a l i j l1)
    · have e1 : l = l' := by
        by_cases x : l < l'
        · exact absurd b (c1' _ _ _ l1 x)
        · by_cases y : l' < l
          · exact absurd b' (c1 _ _ _ l1' y)
          · omega
      subst e1
      have e2 : i = i' := by
        by_cases x : i < i'
        · exact absurd b (c2' _ _ x)
        · by_cases y : i' < i
          · exact absurd b' (c2 _ _ y)
          · omega
      subst e2
      have e3 : j = j' := by
        by_cases x : j < j'
        · exact absurd b (c3' _ x)
        · by_cases y : j' < j
          · exact absurd b' (c3 _ y)
          · omega
      subst e3
      rfl
/-- no two stretches of one word of a step are unlike by two -/
theorem step_two {c : Int} (hc : 0 < c) (y z : Int) : z / c ≤ (y + z) / c - y / c ∧ (y + z) / c - y / c ≤ z / c + 1 := by
  have e1 := Int.emod_add_mul_ediv y c
  have e2 := Int.emod_add_mul_ediv z c
  have r1 := Int.emod_nonneg y (show c ≠ 0 by omega)
  have r2 := Int.emod_lt_of_pos y hc
  have s1 := Int.emod_nonneg z (show c ≠ 0 by omega)
  have s2 := Int.emod_lt_of_pos z hc
  generalize y / c = p at e1 ⊢
  generalize z / c = q at e2 ⊢
  generalize y % c = r at e1 r1 r2
  generalize z % c = s at e2 s1 s2
  have k : y + z = (r + s) + c * (p + q) := by
    rw [Int.mul_add]
    omega
  rw [k, Int.add_mul_ediv_left _ _ (by omega)]
  by_cases t : r + s < c
  · rw [Int.ediv_eq_zero_of_lt (by omega) t]
    omega
  · have : (r + s) / c = 1 := by
      have h2 : r + s = (r + s - c) + c * 1 := by omega
      rw [h2, Int.add_mul_ediv_left _ _ (by omega), Int.ediv_eq_zero_of_lt (by omega) (by omega)]
      omega
    omega
theorem va_two {a b c : Int} (hc : 0 < c) (x l : Int) : (a * l) / c ≤ va a b c (x + l) - va a b c x ∧ va a b c (x + l) - va a b c x ≤ (a * l) / c + 1 := by
  have := step_two hc (a * x + b) (a * l)
  unfold va
  rw [show a * (x + l) + b = a * x + b + a * l by rw [Int.mul_add]; omega]
  exact this
theorem shW_len {a b c f : Int} {n : Nat} : (shW a b c f n).length = n := by
  unfold shW
  rw [List.length_map, List.length_range]
theorem shW_get {a b c f : Int} {n i : Nat} (h : i < n) : (shW a b c f n)[i]? = some (va a b c (f + i + 1) - va a b c (f + i)) := by
  unfold shW
  rw [List.getElem?_map, List.getElem?_range h]
  rfl
theorem shW_pf {a b c f : Int} {n : Nat} : ∀ {i : Nat}, i ≤ n → pf (shW a b c f n) i = va a b c (f + i) - va a b c f
  | 0, _ => by
    rw [pf0, show f + ((0 : Nat) : Int) = f by omega]
    omega
  | i + 1, h => by
    rw [pf_next (shW_get (show i < n by omega)), shW_pf (i := i) (by omega), show f + ((i + 1 : Nat) : Int) = f + i + 1 by omega]
    omega
theorem shW_fu {a b c f : Int} {n : Nat} (hc : 0 < c) : Fu (shW a b c f n) .non := by
  refine .inl ⟨rfl, fun l i j l1 B => ?_⟩
  have hj := B.jl
  have ij := B.ij
  rw [shW_len] at hj
  have g : ∀ k : Nat, k + l ≤ n → gap (shW a b c f n) l k = va a b c (f + k + l) - va a b c (f + k) := fun k hk => by
    unfold gap
    rw [shW_pf hk, shW_pf (by omega), show f + ((k + l : Nat) : Int) = f + k + l by omega]
    omega
  have b1 := va_two (a := a) (b := b) hc (f + i) l
  have b2 := va_two (a := a) (b := b) hc (f + j) l
  have := B.g
  rw [g i (by omega), g j hj] at this
  omega
theorem Bad.bd {ws : List Int} {l i j : Nat} (h : Bad ws l i j) (hw : ws.length ≤ 500) : l ≤ 500 ∧ i ≤ 500 ∧ j ≤ 500 := by
  have := h.jl
  have := h.ij
  omega
/-! rates -/
theorem gc_pos {x y : Int} (hy : 0 < y) : 0 < gc x y ∧ gc x y ≤ y := by
  unfold gc
  have h1 : 0 < Nat.gcd x.natAbs y.natAbs := Nat.gcd_pos_of_pos_right _ (by omega)
  have h2 := Nat.gcd_le_right x.natAbs (show 0 < y.natAbs by omega)
  omega
theorem gc_div (x y : Int) : gc x y ∣ x ∧ gc x y ∣ y := by
  unfold gc
  exact ⟨Int.ofNat_dvd_left.mpr (Nat.gcd_dvd_left _ _), Int.ofNat_dvd_left.mpr (Nat.gcd_dvd_right _ _)⟩
theorem gc_mul {u v k : Int} (hk : 0 < k) : gc (u * k) (v * k) = gc u v * k := by
  unfold gc
  rw [Int.natAbs_mul, Int.natAbs_mul, Nat.gcd_mul_right, Int.natCast_mul, show ((k.natAbs : Nat) : Int) = k by omega]
theorem lw_same {u v u' v' : Int} (hv : 1 ≤ v) (hv' : 1 ≤ v') (h : u * v' = u' * v) : lw u v = lw u' v' := by
  have e1 := gc_mul (u := u) (v := v) (k := v') (by omega)
  have e2 := gc_mul (u := u') (v := v') (k := v) (by omega)
  rw [h, Int.mul_comm v v'] at e1
  rw [e2] at e1
  have a1 : u / gc u v = u' / gc u' v' := by
    rw [← Int.mul_ediv_mul_of_pos_left u (gc u v) (show 0 < v' by omega), ← Int.mul_ediv_mul_of_pos_left u' (gc u' v') (show 0 < v by omega), h, e1]
  have a2 : v / gc u v = v' / gc u' v' := by
    rw [← Int.mul_ediv_mul_of_pos_left v (gc u v) (show 0 < v' by omega), ← Int.mul_ediv_mul_of_pos_left v' (gc u' v') (show 0 < v by omega), Int.mul_comm v v', e1]
  unfold lw
  rw [a1, a2]
section
variable {F : Nat → Nat → Int} {P Q P' : Nat → Nat → Prop} {u v u' v' : Int}
theorem Top.one (h : Top F P u v) (h' : Top F P u' v') : u * v' = u' * v := by
  obtain ⟨l, i, p, rfl, rfl⟩ := h.got
  obtain ⟨l', i', p', rfl, rfl⟩ := h'.got
  have a := h.all l' i' p'
  have b := h'.all l i p
  omega
theorem top_none (h : ∀ l i, ¬ P l i) (hQ : Top F Q u v) (e : ∀ l i, P' l i ↔ P l i ∨ Q l i) : Top F P' u v := by
  obtain ⟨l, i, p, q⟩ := hQ.got
  exact ⟨hQ.v1, ⟨l, i, (e l i).mpr (.inr p), q⟩, fun l i p => ((e l i).mp p).elim (fun p => absurd p (h l i)) (hQ.all l i)⟩
theorem fr_tr {a b c d e f : Int} (hb : 0 ≤ b) (hd : 0 < d) (hf : 0 ≤ f) (h1 : a * d ≤ c * b) (h2 : c * f ≤ e * d) : a * f ≤ e * b := by
  have h3 := Int.mul_le_mul_of_nonneg_right h1 hf
  have h4 := Int.mul_le_mul_of_nonneg_right h2 hb
  have : (a * f) * d ≤ (e * b) * d := by grind
  exact Int.le_of_mul_le_mul_right this hd
theorem top_new (hP : Top F P u v) (hQ : Top F Q u' v') (e : ∀ l i, P' l i ↔ P l i ∨ Q l i) (lt : u' * v > u * v') : Top F P' u' v' := by
  obtain ⟨l, i, p, q⟩ := hQ.got
  have v0 := hP.v1
  have v0' := hQ.v1
  refine ⟨hQ.v1, ⟨l, i, (e l i).mpr (.inr p), q⟩, fun l i p => ((e l i).mp p).elim (fun p => ?_) (hQ.all l i)⟩
  exact fr_tr (b := l) (by omega) (by omega) (by omega) (hP.all l i p) (by omega)
theorem top_old (hP : Top F P u v) (hQ : Top F Q u' v') (e : ∀ l i, P' l i ↔ P l i ∨ Q l i) (le : ¬ u' * v > u * v') : Top F P' u v := by
  obtain ⟨l, i, p, q⟩ := hP.got
  have v0 := hP.v1
  have v0' := hQ.v1
  refine ⟨hP.v1, ⟨l, i, (e l i).mpr (.inl p), q⟩, fun l i p => ((e l i).mp p).elim (hP.all l i) (fun p => ?_)⟩
  exact fr_tr (b := l) (by omega) (by omega) (by omega) (hQ.all l i p) (by omega)
theorem Top.congr (h : Top F P u v) (e : ∀ l i, P' l i ↔ P l i) : Top F P' u v := by
  obtain ⟨l, i, p, q⟩ := h.got
  exact ⟨h.v1, ⟨l, i, (e l i).mpr p, q⟩, fun l i p => h.all l i ((e l i).mp p)⟩
end
theorem rt_lt {u v r s u' v' r' s' : Int} (hv : 1 ≤ v) (hs : 1 ≤ s) (hv' : 1 ≤ v') (hs' : 1 ≤ s') (e1 : u * v' = u' * v) (e2 : r * s' = r' * s) (h : u * s < r * v) : u' * s' < r' * v' := by
  have p : 0 < v' * s' := Int.mul_pos (by omega) (by omega)
  have q : 0 < v * s := Int.mul_pos (by omega) (by omega)
  have h1 := Int.mul_lt_mul_of_pos_right h p
  have a1 : u * s * (v' * s') = (u' * s') * (v * s) := by grind
  have a2 : r * v * (v' * s') = (r' * v') * (v * s) := by grind
  rw [a1, a2] at h1
  exact Int.lt_of_mul_lt_mul_right h1 (by omega)
theorem rt_one {ws : List Int} {d e : D} (h : Rt ws d) (h' : Rt ws e) : d = e := by
  obtain ⟨u, v, r, s, t1, t2, c⟩ := h
  obtain ⟨u', v', r', s', t1', t2', c'⟩ := h'
  have e1 := t1.one t1'
  have e2 := t2.one t2'
  have e2 : r * s' = r' * s := by
    rw [Int.neg_mul, Int.neg_mul] at e2
    omega
  have k := rt_lt t1.v1 t2.v1 t1'.v1 t2'.v1 e1 e2
  have k' := rt_lt t1'.v1 t2'.v1 t1.v1 t2.v1 e1.symm e2.symm
  rcases c with ⟨c, rfl⟩ | ⟨c, rfl⟩ <;> rcases c' with ⟨c', rfl⟩ | ⟨c', rfl⟩
  · rw [lw_same t1.v1 t1'.v1 e1, lw_same t2.v1 t2'.v1 e2]
  · exact absurd (k c) c'
  · exact absurd (k' c') c
  · rfl
/-- a balanced word: stretches of unlike length, too -/
theorem bal_all {ws : List Int} (B : ∀ l i j, 1 ≤ l → ¬ Bad ws l i j) : ∀ (m l k i j : Nat), l + k ≤ m → In ws.length l i → In ws.length k j → (gap ws l i - 1) * k < (gap ws k j + 1) * l := by
  have eqv : ∀ l i j : Nat, In ws.length l i → In ws.length l j → gap ws l i - gap ws l j ≤ 1 := fun l i j a b => by
    obtain ⟨a1, a2⟩ := a
    obtain ⟨b1, b2⟩ := b
    by_cases c : gap ws l i - gap ws l j ≤ 1
    · exact c
    · exfalso
      by_cases x : i < j
      · exact B l i j a1 ⟨x, by omega, .inl (by omega)⟩
      · by_cases y : j < i
        · exact B l j i a1 ⟨y, by omega, .inr (by omega)⟩
        · have : i = j := by omega
          subst this
          omega
  have spl : ∀ l k i : Nat, gap ws (k + l) i = gap ws k i + gap ws l (i + k) := fun l k i => by
    unfold gap
    rw [show i + k + l = i + (k + l) by omega]
    omega
  intro m
  induction m with
  | zero =>
    intro l k i j h a b
    have := a.1
    omega
  | succ m ih =>
    intro l k i j h a b
    have a1 := a.1
    have a2 := a.2
    have b1 := b.1
    have b2 := b.2
    by_cases c : l = k
    · subst c
      have := eqv l i j a b
      exact Int.mul_lt_mul_of_pos_right (by omega) (by omega)
    · by_cases x : k < l
      · obtain ⟨t, rfl⟩ : ∃ t, l = k + t := ⟨l - k, by omega⟩
        have h1 := ih t k (i + k) j (by omega) ⟨by omega, by omega⟩ b
        have h2 := eqv k i j ⟨b1, by omega⟩ b
        rw [spl t k i, Int.natCast_add]
        have h3 := Int.mul_le_mul_of_nonneg_right h2 (show (0 : Int) ≤ k by omega)
        generalize gap ws k i = x at *
        generalize gap ws t (i + k) = y at *
        generalize gap ws k j = z at *
        generalize (k : Int) = k at *
        generalize (t : Int) = t at *
        grind
      · obtain ⟨t, rfl⟩ : ∃ t, k = l + t := ⟨k - l, by omega⟩
        have h1 := ih l t i (j + l) (by omega) a ⟨by omega, by omega⟩
        have h2 := eqv l i j a ⟨a1, by omega⟩
        rw [spl t l j, Int.natCast_add]
        have h3 := Int.mul_le_mul_of_nonneg_right h2 (show (0 : Int) ≤ l by omega)
        generalize gap ws l i = x at *
        generalize gap ws t (j + l) = y at *
        generalize gap ws l j = z at *
        generalize (l : Int) = k at *
        generalize (t : Int) = t at *
        grind
/-- HEART: balanced just if some rate is between -/
theorem bal_lt {ws : List Int} {u v r s : Int} (t1 : Top (up ws) (In ws.length) u v) (t2 : Top (dn ws) (In ws.length) (-r) s) : (∀ l i j, 1 ≤ l → ¬ Bad ws l i j) ↔ u * s < r * v := by
  constructor
  · intro B
    obtain ⟨l, i, p, rfl, rfl⟩ := t1.got
    obtain ⟨k, j, q, e, rfl⟩ := t2.got
    have := bal_all B (l + k) l k i j (Nat.le_refl _) p q
    have e : r = gap ws k j + 1 := by
      have : -r = -(gap ws k j + 1) := e
      omega
    rw [e]
    exact this
  · intro h l i j l1 B
    have ij := B.ij
    have jl := B.jl
    have v1 := t1.v1
    have s1 := t2.v1
    have key : ∀ a b : Nat, In ws.length l a → In ws.length l b → ¬ gap ws l a - gap ws l b > 1 := fun a b ha hb g => by
      have h1 : (gap ws l a - 1) * v ≤ u * l := t1.all l a ha
      have h2 : -(gap ws l b + 1) * s ≤ -r * l := t2.all l b hb
      rw [Int.neg_mul, Int.neg_mul] at h2
      have h3 := Int.mul_le_mul_of_nonneg_right h1 (show 0 ≤ s by omega)
      have h4 := Int.mul_lt_mul_of_pos_right h (show (0 : Int) < l by omega)
      have h5 := Int.mul_le_mul_of_nonneg_right (show r * l ≤ (gap ws l b + 1) * s by omega) (show 0 ≤ v by omega)
      have h6 : (gap ws l a - 1) * (v * s) < (gap ws l b + 1) * (v * s) := by grind
      have := Int.lt_of_mul_lt_mul_right h6 (Int.le_of_lt (Int.mul_pos (by omega) (by omega)))
      omega
    rcases B.g with g | g
    · exact key i j ⟨l1, by omega⟩ ⟨l1, jl⟩ g
    · exact key j i ⟨l1, jl⟩ ⟨l1, by omega⟩ g
/-! which steps show a word -/
theorem words_eq {ws vs : List Int} {n : Nat} (hw : ws.length = n) (hv : vs.length = n) (h : ∀ k, k ≤ n → pf ws k = pf vs k) : ws = vs := by
  apply List.ext_getElem?
  intro i
  by_cases z : i < n
  · obtain ⟨x, hx⟩ : ∃ x, ws[i]? = some x := ⟨_, List.getElem?_eq_getElem (show i < ws.length by omega)⟩
    obtain ⟨y, hy⟩ : ∃ y, vs[i]? = some y := ⟨_, List.getElem?_eq_getElem (show i < vs.length by omega)⟩
    have a := pf_next hx
    have b := pf_next hy
    have c := h i (by omega)
    have d := h (i + 1) (by omega)
    rw [hx, hy]
    have : x = y := by omega
    rw [this]
  · rw [List.getElem?_eq_none (by omega), List.getElem?_eq_none (by omega)]
theorem shows_iff {p w : Int} {ws : List Int} (w1 : 1 ≤ w) : Shows p w ws ↔ ∃ b : Nat, (b : Int) < w ∧ ∀ k : Nat, k ≤ ws.length → w * pf ws k ≤ p * k + b ∧ p * k + b < w * pf ws k + w := by
  have key : ∀ b : Nat, (b : Int) < w → (shW p b w 0 ws.length = ws ↔ ∀ k : Nat, k ≤ ws.length → w * pf ws k ≤ p * k + b ∧ p * k + b < w * pf ws k + w) := fun b hb => by
    have v0 : va p b w 0 = 0 := by
      unfold va
      rw [Int.mul_zero, Int.zero_add]
      exact Int.ediv_eq_zero_of_lt (by omega) hb
    have vk : ∀ k : Nat, k ≤ ws.length → pf (shW p b w 0 ws.length) k = (p * k + b) / w := fun k hk => by
      rw [shW_pf hk, v0, Int.zero_add]
      unfold va
      omega
    have dv : ∀ x s : Int, x / w = s ↔ w * s ≤ x ∧ x < w * s + w := fun x s => by
      have e := Int.emod_add_mul_ediv x w
      have r1 := Int.emod_nonneg x (show w ≠ 0 by omega)
      have r2 := Int.emod_lt_of_pos x (show 0 < w by omega)
      constructor
      · rintro rfl
        omega
      · rintro ⟨h1, h2⟩
        have l1 : s ≤ x / w := Int.le_ediv_of_mul_le (by omega) (by rw [Int.mul_comm]; exact h1)
        have l2 : x / w < s + 1 := Int.ediv_lt_of_lt_mul (by omega) (by rw [Int.mul_comm, Int.mul_add]; omega)
        omega
    constructor
    · intro e k hk
      rw [← dv, ← vk k hk, e]
    · intro h
      refine words_eq shW_len rfl fun k hk => ?_
      rw [vk k hk, dv]
      exact h k hk
  constructor
  · rintro ⟨b, hb, e⟩
    exact ⟨b, hb, (key b hb).mp e⟩
  · rintro ⟨b, hb, e⟩
    exact ⟨b, hb, (key b hb).mpr e⟩
theorem top_of {f : Nat → Int} : ∀ n : Nat, ∃ m, m ≤ n ∧ ∀ k, k ≤ n → f k ≤ f m
  | 0 => ⟨0, Nat.le_refl _, fun k hk => by
    have : k = 0 := by omega
    subst this
    exact Int.le_refl _⟩
  | n + 1 => by
    obtain ⟨m, h1, h2⟩ := top_of (f := f) n
    by_cases c : f (n + 1) ≤ f m
    · refine ⟨m, by omega, fun k hk => ?_⟩
      by_cases e : k = n + 1
      · subst e
        exact c
      · exact h2 k (by omega)
    · refine ⟨n + 1, Nat.le_refl _, fun k hk => ?_⟩
      by_cases e : k = n + 1
      · subst e
        exact Int.le_refl _
      · have := h2 k (by omega)
        omega
/-- HEART: a step shows the word just if its rate is between -/
theorem shows_lt {ws : List Int} {u v r s p w : Int} (w1 : 1 ≤ w) (t1 : Top (up ws) (In ws.length) u v) (t2 : Top (dn ws) (In ws.length) (-r) s) : Shows p w ws ↔ (u * w < p * v ∧ p * s < r * w) := by
  rw [shows_iff w1]
  have v1 := t1.v1
  have s1 := t2.v1
  constructor
  · rintro ⟨b, hb, h⟩
    constructor
    · obtain ⟨l, i, q, rfl, rfl⟩ := t1.got
      have q2 := q.2
      have h1 := (h (i + l) (by omega)).1
      have h2 := (h i (by omega)).2
      rw [Int.natCast_add] at h1
      show (pf ws (i + l) - pf ws i - 1) * w < p * l
      grind
    · obtain ⟨l, i, q, e, rfl⟩ := t2.got
      have q2 := q.2
      have h1 := (h (i + l) (by omega)).2
      have h2 := (h i (by omega)).1
      have e : r = pf ws (i + l) - pf ws i + 1 := by
        have : -r = -(pf ws (i + l) - pf ws i + 1) := e
        omega
      rw [Int.natCast_add] at h1
      rw [e]
      grind
  · rintro ⟨h1, h2⟩
    obtain ⟨m, hm, hM⟩ := top_of (f := fun k => w * pf ws k - p * k) ws.length
    have hM : ∀ k : Nat, k ≤ ws.length → w * pf ws k - p * k ≤ w * pf ws m - p * m := hM
    have b0 := hM 0 (Nat.zero_le _)
    have up1 : ∀ k : Nat, k ≤ ws.length → w * pf ws m - p * m < w * pf ws k - p * k + w := fun k hk => by
      by_cases c : m = k
      · subst c
        omega
      · by_cases x : k < m
        · obtain ⟨l, rfl⟩ : ∃ l, m = k + l := ⟨m - k, by omega⟩
          have a : (pf ws (k + l) - pf ws k - 1) * v ≤ u * l := t1.all l k ⟨by omega, by omega⟩
          have a1 := Int.mul_le_mul_of_nonneg_right a (show 0 ≤ w by omega)
          have a2 := Int.mul_lt_mul_of_pos_right h1 (show (0 : Int) < l by omega)
          have a3 : ((pf ws (k + l) - pf ws k - 1) * w) * v < (p * l) * v := by grind
          have a4 := Int.lt_of_mul_lt_mul_right a3 (show 0 ≤ v by omega)
          rw [Int.natCast_add]
          grind
        · obtain ⟨l, rfl⟩ : ∃ l, k = m + l := ⟨k - m, by omega⟩
          have a : -(pf ws (m + l) - pf ws m + 1) * s ≤ -r * l := t2.all l m ⟨by omega, by omega⟩
          rw [Int.neg_mul, Int.neg_mul] at a
          have a1 := Int.mul_le_mul_of_nonneg_right (show r * l ≤ (pf ws (m + l) - pf ws m + 1) * s by omega) (show 0 ≤ w by omega)
          have a2 := Int.mul_lt_mul_of_pos_right h2 (show (0 : Int) < l by omega)
          have a3 : (p * l) * s < ((pf ws (m + l) - pf ws m + 1) * w) * s := by grind
          have a4 := Int.lt_of_mul_lt_mul_right a3 (show 0 ≤ s by omega)
          rw [Int.natCast_add]
          grind
    rw [pf0] at b0
    have u0 := up1 0 (Nat.zero_le _)
    rw [pf0] at u0
    refine ⟨(w * pf ws m - p * m).toNat, by omega, fun k hk => ?_⟩
    have e : (((w * pf ws m - p * m).toNat : Nat) : Int) = w * pf ws m - p * m := by omega
    rw [e]
    have a := hM k hk
    have b := up1 k hk
    omega
end K40
set_option Elab.async false
set_option linter.all false
set_option maxRecDepth 100000
set_option maxHeartbeats 2000000
set_option exponentiation.threshold 2000
namespace K40
open PySem PySem.Spec PyProof.Rows L2 DL
theorem ty_ft {d : D} (a b : Int) (h : isFT a b d = true) : ∃ i, d = .int i ∧ a ≤ i ∧ i ≤ b := by
  cases d <;> first | (cases h; done) | skip
  rename_i i
  unfold isFT at h
  simp only [Bool.and_eq_true, decide_eq_true_eq] at h
  exact ⟨i, rfl, h.1, h.2⟩
theorem pu_is_number : Pure N_is_number.length 1 t_is_number p_is_number := by
  rintro ds R er ⟨d, rfl, hd, hR⟩
  refine ⟨rfl, ?_⟩
  show t_is_number [some (.d d)] _ er
  simp only [gRepT, dEnum, dOwnIx, dZip, gMin1, dDic0, gRep, gIn, gMax1, dBreak, dContinue, dRet, dRetN, dAnd, dOr, dNot, dB, dCall, dCallK, dCons, dVar, dC, dNil, dDrw, allD, dVal, dtAnd, dtOr, dtNot, dTru, dIf, dBin, dUn, dChain, dTup, dLst, dLstN, dSl, dNo, dPart, gSl, dSeqS, dNext, dIfS, dSet, dSetOwn, dFreeze, frz, dDrop, dPar, dPar3, dAsg, dgTup, dgCons, dgNil, dgName, dAppend, dRaiseF, dRaise0, dDrwI, dDrwC, dDrwPop, dDrwSet, dKeep, dLam, dMk, dFld, dFz, dSeq, noOwn, gAdd, DL.gSub, gMul, gDiv, gMod, gPow, gNeg, gLt, gLe, gGt, gGe, gEq, gNe, gIx, gIs, gIsNot, gLen, gAbs, gInt, gStr, gMin2, gMax2, gList, gTuple, gAll, gAny, gSum, gRepr, truD, DL.isNon, List.getElem?_cons_zero, List.getElem?_cons_succ, List.set_cons_zero, List.set_cons_succ, Option.map_some, List.map_cons, List.map_nil, t_is_number]
  refine isi_int hd ?_
  cases d <;> first | (cases hd; done) | skip
  all_goals first | exact hR | exact isi_bool rfl hR
theorem pu_is_from_to : Pure N_is_from_to.length 3 t_is_from_to p_is_from_to := by
  rintro ds R er ⟨d, a, b, rfl, hd, hR⟩
  refine ⟨rfl, ?_⟩
  show t_is_from_to [some (.d d), some (.d (.int a)), some (.d (.int b))] _ er
  simp only [gRepT, dEnum, dOwnIx, dZip, gMin1, dDic0, gRep, gIn, gMax1, dBreak, dContinue, dRet, dRetN, dAnd, dOr, dNot, dB, dCall, dCallK, dCons, dVar, dC, dNil, dDrw, allD, dVal, dtAnd, dtOr, dtNot, dTru, dIf, dBin, dUn, dChain, dTup, dLst, dLstN, dSl, dNo, dPart, gSl, dSeqS, dNext, dIfS, dSet, dSetOwn, dFreeze, frz, dDrop, dPar, dPar3, dAsg, dgTup, dgCons, dgNil, dgName, dAppend, dRaiseF, dRaise0, dDrwI, dDrwC, dDrwPop, dDrwSet, dKeep, dLam, dMk, dFld, dFz, dSeq, noOwn, gAdd, DL.gSub, gMul, gDiv, gMod, gPow, gNeg, gLt, gLe, gGt, gGe, gEq, gNe, gIx, gIs, gIsNot, gLen, gAbs, gInt, gStr, gMin2, gMax2, gList, gTuple, gAll, gAny, gSum, gRepr, truD, DL.isNon, List.getElem?_cons_zero, List.getElem?_cons_succ, List.set_cons_zero, List.set_cons_succ, Option.map_some, List.map_cons, List.map_nil, t_is_from_to]
  refine ⟨d, rfl, hd, ?_⟩
  cases d with
  | int i =>
    show match D.bl (decide (a ≤ i)) with | .bl true => R (.bl (decide (i ≤ b))) | .bl false => R (.bl false) | _ => False
    have hR : R (.bl (decide (a ≤ i) && decide (i ≤ b))) := hR
    cases h : decide (a ≤ i) with
    | true =>
      rw [h] at hR
      exact hR
    | false =>
      rw [h] at hR
      exact hR
  | _ => exact hR
theorem atI_in {α : Type} {xs : List α} {n : Int} (h0 : 0 ≤ n) (h1 : n < xs.length) : ∃ x ∈ xs, atI xs n = some x := by
  have hl : n.toNat < xs.length := by omega
  refine ⟨xs[n.toNat], List.getElem_mem hl, ?_⟩
  unfold atI ixN
  rw [if_pos h0, if_pos h1]
  show xs[n.toNat]? = _
  exact List.getElem?_eq_getElem hl
theorem eqv_ii (a b : Int) : PyData.eqv (D.int a).py (D.int b).py = (a == b) := rfl
theorem ft_of {a b i : Int} (h1 : a ≤ i) (h2 : i ≤ b) : isFT a b (.int i) = true := by
  show (decide (a ≤ i) && decide (i ≤ b)) = true
  rw [decide_eq_true h1, decide_eq_true h2]
  rfl
theorem inD_ints : ∀ l : List Int, inD (l.map D.int) = some l
  | [] => rfl
  | x :: l => by
    show (inD (l.map D.int)).map (x :: ·) = _
    rw [inD_ints l]
    rfl
theorem bl_map (g : D → Bool) : ∀ xs : List D, blD (xs.map fun x => .bl (g x)) = some (xs.map g)
  | [] => rfl
  | x :: xs => by
    show (blD (xs.map fun x => .bl (g x))).map (g x :: ·) = _
    rw [bl_map g xs]
    rfl
theorem atI_last {α : Type} (xs : List α) (x : α) : atI (xs ++ [x]) (-1) = some x := by
  have h : ixN (xs ++ [x]).length (-1) = some xs.length := by
    unfold ixN
    rw [if_neg (by decide), if_pos (by rw [List.length_append]; simp; omega), List.length_append]
    simp
    omega
  unfold atI
  rw [h]
  show (xs ++ [x])[xs.length]? = some x
  simp
theorem at_ints {F : Nat → Int} {n : Nat} {i : Int} (h0 : 0 ≤ i) (h1 : i < n) : atI ((List.range n).map fun i => D.int (F i)) i = some (.int (F i.toNat)) := by
  unfold atI ixN
  rw [if_pos h0, if_pos (by rw [List.length_map, List.length_range]; exact h1)]
  show ((List.range n).map fun i => D.int (F i))[i.toNat]? = _
  rw [List.getElem?_map, List.getElem?_range (by omega)]
  rfl
/-! what is judged -/
theorem okB_ty {d : D} (h : okB d = true) : ty d := (Bool.and_eq_true_iff.mp (Bool.and_eq_true_iff.mp h).1).1
theorem okB_px {d : D} (h : okB d = true) : d.plainX = true := (Bool.and_eq_true_iff.mp (Bool.and_eq_true_iff.mp h).1).2
/-- a plain letter -/
def ltB (x : D) : Bool := (tyD x).isSome && match x with
  | .int _ => true
  | .bl _ => true
  | .non => true
  | .str s => PyData.strOk s
  | _ => false
theorem okB_tup {xs : List D} (h : okB (.tup xs) = true) : xs.length ≤ 1000 ∧ ∀ x ∈ xs, ltB x = true := by
  have h2 := (Bool.and_eq_true_iff.mp h).2
  obtain ⟨a, b⟩ := Bool.and_eq_true_iff.mp h2
  exact ⟨of_decide_eq_true a, List.all_eq_true.mp b⟩
theorem ltB_ty {x : D} (h : ltB x = true) : ty x := (Bool.and_eq_true_iff.mp h).1
theorem ltB_lay {x : D} (h : ltB x = true) : Lay x 0 := by
  cases x with
  | int i => exact lay_int
  | non => exact lay_non
  | bl b => exact ⟨rfl, by simp [D.py, PyData.canLay0], by simp [D.py, PyData.depth]⟩
  | str s => exact ⟨rfl, (Bool.and_eq_true_iff.mp h).2, by simp [D.py, PyData.depth]⟩
  | _ => cases h
theorem ints_plain : ∀ l : List Int, plainL (l.map D.int) = true
  | [] => rfl
  | x :: l => ints_plain l
theorem okB_wd {ws : List Int} (h : ws.length ≤ 1000) : okB (wd ws) = true := by
  have e1 : (wd ws).plainX = true := by
    show (D.plain (.tup (ws.map D.int)) || D.plainZ (.tup (ws.map D.int))) = true
    rw [show D.plain (.tup (ws.map D.int)) = true from ints_plain ws]
    rfl
  show ((tyD (wd ws)).isSome && (wd ws).plainX && (decide ((ws.map D.int).length ≤ 1000) && (ws.map D.int).all ltB)) = true
  rw [e1, List.length_map, decide_eq_true h, List.all_eq_true.mpr fun x hx => by
    obtain ⟨i, _, rfl⟩ := List.mem_map.mp hx
    rfl]
  rfl
theorem isW_wd {ws : List Int} (h : W ws) : isW (wd ws) = true := by
  show (decide ((ws.map D.int).length ≤ 500) && (ws.map D.int).all isL) = true
  rw [List.length_map, decide_eq_true h.l, List.all_eq_true.mpr fun x hx => by
    obtain ⟨i, hi, rfl⟩ := List.mem_map.mp hx
    exact ft_of (h.b i hi).1 (h.b i hi).2]
  rfl
theorem wd_isW {ws : List Int} (h : isW (wd ws) = true) : W ws := by
  obtain ⟨a, b⟩ := Bool.and_eq_true_iff.mp (show (decide ((ws.map D.int).length ≤ 500) && (ws.map D.int).all isL) = true from h)
  refine ⟨by have := of_decide_eq_true a; rwa [List.length_map] at this, fun x hx => ?_⟩
  obtain ⟨i, e, h1, h2⟩ := ty_ft _ _ (List.all_eq_true.mp b (.int x) (List.mem_map.mpr ⟨x, hx, rfl⟩))
  cases e
  exact ⟨h1, h2⟩
theorem pu_is_word_told : Pure N_is_word_told.length 1 t_is_word_told p_is_word_told := by
  rintro ds R er ⟨d, rfl, h, hR⟩
  refine ⟨rfl, ?_⟩
  show t_is_word_told [some (.d d), none] _ er
  simp only [gRepT, dEnum, dOwnIx, dZip, gMin1, dDic0, gRep, gIn, gMax1, dBreak, dContinue, dRet, dRetN, dAnd, dOr, dNot, dB, dCall, dCallK, dCons, dVar, dC, dNil, dDrw, allD, dVal, dtAnd, dtOr, dtNot, dTru, dIf, dBin, dUn, dChain, dTup, dLst, dLstN, dSl, dNo, dPart, gSl, dSeqS, dNext, dIfS, dSet, dSetOwn, dFreeze, frz, dDrop, dPar, dPar3, dAsg, dgTup, dgCons, dgNil, dgName, dAppend, dRaiseF, dRaise0, dDrwI, dDrwC, dDrwPop, dDrwSet, dKeep, dLam, dMk, dFld, dFz, dSeq, noOwn, gAdd, DL.gSub, gMul, gDiv, gMod, gPow, gNeg, gLt, gLe, gGt, gGe, gEq, gNe, gIx, gIs, gIsNot, gLen, gAbs, gInt, gStr, gMin2, gMax2, gList, gTuple, gAll, gAny, gSum, gRepr, truD, DL.isNon, List.getElem?_cons_zero, List.getElem?_cons_succ, List.set_cons_zero, List.set_cons_succ, Option.map_some, List.map_cons, List.map_nil, t_is_word_told]
  refine isi_tup (okB_ty h) ?_
  cases d with
  | tup xs =>
    obtain ⟨hl, hx⟩ := okB_tup h
    have hR : R (.bl (decide (xs.length ≤ 500) && xs.all isL)) := hR
    simp only [isTupD, Bool.not_true]
    show match decide ((500 : Int) < (xs.length : Nat)) with | true => _ | false => _
    by_cases q : xs.length ≤ 500
    · rw [decide_eq_true q] at hR
      rw [decide_eq_false (by omega)]
      show u_is_word_told_1 [some (.d (.tup xs)), none] _ er
      simp only [gRepT, dEnum, dOwnIx, dZip, gMin1, dDic0, gRep, gIn, gMax1, dBreak, dContinue, dRet, dRetN, dAnd, dOr, dNot, dB, dCall, dCallK, dCons, dVar, dC, dNil, dDrw, allD, dVal, dtAnd, dtOr, dtNot, dTru, dIf, dBin, dUn, dChain, dTup, dLst, dLstN, dSl, dNo, dPart, gSl, dSeqS, dNext, dIfS, dSet, dSetOwn, dFreeze, frz, dDrop, dPar, dPar3, dAsg, dgTup, dgCons, dgNil, dgName, dAppend, dRaiseF, dRaise0, dDrwI, dDrwC, dDrwPop, dDrwSet, dKeep, dLam, dMk, dFld, dFz, dSeq, noOwn, gAdd, DL.gSub, gMul, gDiv, gMod, gPow, gNeg, gLt, gLe, gGt, gGe, gEq, gNe, gIx, gIs, gIsNot, gLen, gAbs, gInt, gStr, gMin2, gMax2, gList, gTuple, gAll, gAny, gSum, gRepr, truD, DL.isNon, List.getElem?_cons_zero, List.getElem?_cons_succ, List.set_cons_zero, List.set_cons_succ, Option.map_some, List.map_cons, List.map_nil, u_is_word_told_1]
      refine lc_map (fun x => .bl (isL x)) (fun Q Q' hq h => hq _ _ h) ?_
      show xs.length ≤ sizeLine ∧ _
      refine ⟨by rw [sizeLine_eq]; omega, fun x hm S hS => ?_, ?_⟩
      · simp only [gRepT, dEnum, dOwnIx, dZip, gMin1, dDic0, gRep, gIn, gMax1, dBreak, dContinue, dRet, dRetN, dAnd, dOr, dNot, dB, dCall, dCallK, dCons, dVar, dC, dNil, dDrw, allD, dVal, dtAnd, dtOr, dtNot, dTru, dIf, dBin, dUn, dChain, dTup, dLst, dLstN, dSl, dNo, dPart, gSl, dSeqS, dNext, dIfS, dSet, dSetOwn, dFreeze, frz, dDrop, dPar, dPar3, dAsg, dgTup, dgCons, dgNil, dgName, dAppend, dRaiseF, dRaise0, dDrwI, dDrwC, dDrwPop, dDrwSet, dKeep, dLam, dMk, dFld, dFz, dSeq, noOwn, gAdd, DL.gSub, gMul, gDiv, gMod, gPow, gNeg, gLt, gLe, gGt, gGe, gEq, gNe, gIx, gIs, gIsNot, gLen, gAbs, gInt, gStr, gMin2, gMax2, gList, gTuple, gAll, gAny, gSum, gRepr, truD, DL.isNon, List.getElem?_cons_zero, List.getElem?_cons_succ, List.set_cons_zero, List.set_cons_succ, Option.map_some, List.map_cons, List.map_nil, inE, wipeE]
        exact ⟨x, (-1000000), _, rfl, ltB_ty (hx x hm), hS _⟩
      · show (match blD (xs.map fun x => .bl (isL x)) with | some bs => R (.bl (bs.all id)) | none => False)
        rw [bl_map]
        show R (.bl ((xs.map isL).all id))
        rw [List.all_map]
        exact hR
    · rw [decide_eq_false q] at hR
      rw [decide_eq_true (by omega)]
      exact hR
  | _ => first | (cases (okB_ty h); done) | exact hR
theorem pu_need_letters : Pure N_need_letters.length 1 t_need_letters p_need_letters := by
  rintro ds R er ⟨d, rfl, h, h1, h2⟩
  refine ⟨rfl, ?_⟩
  show t_need_letters [some (.d d)] _ er
  simp only [gRepT, dEnum, dOwnIx, dZip, gMin1, dDic0, gRep, gIn, gMax1, dBreak, dContinue, dRet, dRetN, dAnd, dOr, dNot, dB, dCall, dCallK, dCons, dVar, dC, dNil, dDrw, allD, dVal, dtAnd, dtOr, dtNot, dTru, dIf, dBin, dUn, dChain, dTup, dLst, dLstN, dSl, dNo, dPart, gSl, dSeqS, dNext, dIfS, dSet, dSetOwn, dFreeze, frz, dDrop, dPar, dPar3, dAsg, dgTup, dgCons, dgNil, dgName, dAppend, dRaiseF, dRaise0, dDrwI, dDrwC, dDrwPop, dDrwSet, dKeep, dLam, dMk, dFld, dFz, dSeq, noOwn, gAdd, DL.gSub, gMul, gDiv, gMod, gPow, gNeg, gLt, gLe, gGt, gGe, gEq, gNe, gIx, gIs, gIsNot, gLen, gAbs, gInt, gStr, gMin2, gMax2, gList, gTuple, gAll, gAny, gSum, gRepr, truD, DL.isNon, List.getElem?_cons_zero, List.getElem?_cons_succ, List.set_cons_zero, List.set_cons_succ, Option.map_some, List.map_cons, List.map_nil, t_need_letters]
  refine ⟨d, rfl, h, ?_⟩
  cases e : isW d with
  | true => exact h1 e
  | false => exact h2 e
abbrev pfs (ws : List Int) (k : Nat) : List D := (List.range k).map fun i => D.int (pf ws i)
theorem pfs_next (ws : List Int) (k : Nat) : pfs ws (k + 1) = pfs ws k ++ [D.int (pf ws k)] := by
  unfold pfs
  rw [List.range_succ, List.map_append, List.map_singleton]
theorem pfs_len (ws : List Int) (k : Nat) : (pfs ws k).length = k := by
  unfold pfs
  rw [List.length_map, List.length_range]
theorem pu_sums_of : Pure N_sums_of.length 1 t_sums_of p_sums_of := by
  rintro ds R er ⟨ws, rfl, h, hR⟩
  refine ⟨rfl, ?_⟩
  have hl := h.l
  show t_sums_of [some (.d (wd ws)), none, none] _ er
  simp only [gRepT, dEnum, dOwnIx, dZip, gMin1, dDic0, gRep, gIn, gMax1, dBreak, dContinue, dRet, dRetN, dAnd, dOr, dNot, dB, dCall, dCallK, dCons, dVar, dC, dNil, dDrw, allD, dVal, dtAnd, dtOr, dtNot, dTru, dIf, dBin, dUn, dChain, dTup, dLst, dLstN, dSl, dNo, dPart, gSl, dSeqS, dNext, dIfS, dSet, dSetOwn, dFreeze, frz, dDrop, dPar, dPar3, dAsg, dgTup, dgCons, dgNil, dgName, dAppend, dRaiseF, dRaise0, dDrwI, dDrwC, dDrwPop, dDrwSet, dKeep, dLam, dMk, dFld, dFz, dSeq, noOwn, gAdd, DL.gSub, gMul, gDiv, gMod, gPow, gNeg, gLt, gLe, gGt, gGe, gEq, gNe, gIx, gIs, gIsNot, gLen, gAbs, gInt, gStr, gMin2, gMax2, gList, gTuple, gAll, gAny, gSum, gRepr, truD, DL.isNon, List.getElem?_cons_zero, List.getElem?_cons_succ, List.set_cons_zero, List.set_cons_succ, Option.map_some, List.map_cons, List.map_nil, t_sums_of, dLstN]
  simp only [gRepT, dEnum, dOwnIx, dZip, gMin1, dDic0, gRep, gIn, gMax1, dBreak, dContinue, dRet, dRetN, dAnd, dOr, dNot, dB, dCall, dCallK, dCons, dVar, dC, dNil, dDrw, allD, dVal, dtAnd, dtOr, dtNot, dTru, dIf, dBin, dUn, dChain, dTup, dLst, dLstN, dSl, dNo, dPart, gSl, dSeqS, dNext, dIfS, dSet, dSetOwn, dFreeze, frz, dDrop, dPar, dPar3, dAsg, dgTup, dgCons, dgNil, dgName, dAppend, dRaiseF, dRaise0, dDrwI, dDrwC, dDrwPop, dDrwSet, dKeep, dLam, dMk, dFld, dFz, dSeq, noOwn, gAdd, DL.gSub, gMul, gDiv, gMod, gPow, gNeg, gLt, gLe, gGt, gGe, gEq, gNe, gIx, gIs, gIsNot, gLen, gAbs, gInt, gStr, gMin2, gMax2, gList, gTuple, gAll, gAny, gSum, gRepr, truD, DL.isNon, List.getElem?_cons_zero, List.getElem?_cons_succ, List.set_cons_zero, List.set_cons_succ, Option.map_some, List.map_cons, List.map_nil, u_sums_of_3, dFor]
  refine ⟨by simp, fun k ρ => k ≤ ws.length ∧ ∃ x2, ρ = [some (.d (wd ws)), some (.own (.lst (pfs ws (k + 1)))), x2], ⟨Nat.zero_le _, none, rfl⟩, ?_, ?_⟩
  · rintro k d ρ hd ⟨kl, x2, rfl⟩
    rw [List.getElem?_map] at hd
    obtain ⟨x, hx, rfl⟩ := Option.map_eq_some_iff.mp hd
    have kn := (List.getElem?_eq_some_iff.mp hx).1
    simp only [gRepT, dEnum, dOwnIx, dZip, gMin1, dDic0, gRep, gIn, gMax1, dBreak, dContinue, dRet, dRetN, dAnd, dOr, dNot, dB, dCall, dCallK, dCons, dVar, dC, dNil, dDrw, allD, dVal, dtAnd, dtOr, dtNot, dTru, dIf, dBin, dUn, dChain, dTup, dLst, dLstN, dSl, dNo, dPart, gSl, dSeqS, dNext, dIfS, dSet, dSetOwn, dFreeze, frz, dDrop, dPar, dPar3, dAsg, dgTup, dgCons, dgNil, dgName, dAppend, dRaiseF, dRaise0, dDrwI, dDrwC, dDrwPop, dDrwSet, dKeep, dLam, dMk, dFld, dFz, dSeq, noOwn, gAdd, DL.gSub, gMul, gDiv, gMod, gPow, gNeg, gLt, gLe, gGt, gGe, gEq, gNe, gIx, gIs, gIsNot, gLen, gAbs, gInt, gStr, gMin2, gMax2, gList, gTuple, gAll, gAny, gSum, gRepr, truD, DL.isNon, List.getElem?_cons_zero, List.getElem?_cons_succ, List.set_cons_zero, List.set_cons_succ, Option.map_some, List.map_cons, List.map_nil, w_sums_of_1]
    refine ⟨-1, rfl, ?_⟩
    rw [pfs_next, atI_last]
    refine ⟨by rw [List.length_append, pfs_len, sizeLine_eq]; simp; omega, by omega, some (.d (.int x)), ?_⟩
    rw [pfs_next ws (k + 1), pf_next hx, pfs_next ws k]
  · rintro ρ ⟨kl, x2, rfl⟩
    simp only [gRepT, dEnum, dOwnIx, dZip, gMin1, dDic0, gRep, gIn, gMax1, dBreak, dContinue, dRet, dRetN, dAnd, dOr, dNot, dB, dCall, dCallK, dCons, dVar, dC, dNil, dDrw, allD, dVal, dtAnd, dtOr, dtNot, dTru, dIf, dBin, dUn, dChain, dTup, dLst, dLstN, dSl, dNo, dPart, gSl, dSeqS, dNext, dIfS, dSet, dSetOwn, dFreeze, frz, dDrop, dPar, dPar3, dAsg, dgTup, dgCons, dgNil, dgName, dAppend, dRaiseF, dRaise0, dDrwI, dDrwC, dDrwPop, dDrwSet, dKeep, dLam, dMk, dFld, dFz, dSeq, noOwn, gAdd, DL.gSub, gMul, gDiv, gMod, gPow, gNeg, gLt, gLe, gGt, gGe, gEq, gNe, gIx, gIs, gIsNot, gLen, gAbs, gInt, gStr, gMin2, gMax2, gList, gTuple, gAll, gAny, gSum, gRepr, truD, DL.isNon, List.getElem?_cons_zero, List.getElem?_cons_succ, List.set_cons_zero, List.set_cons_succ, Option.map_some, List.map_cons, List.map_nil, u_sums_of_2, frz]
    rw [List.length_map]
    exact hR
theorem pfs_cut {ws : List Int} {n l : Nat} (h : l ≤ n) : DL.cutD (pfs ws n) (some (l : Int)) none = (pfs ws n).drop l := by
  have e := HT.sIx_nat (pfs ws n).length 0 l
  unfold DL.cutD
  rw [e, HT.sIx_none, pfs_len, Nat.min_eq_left h, List.take_of_length_le (by rw [List.length_drop, pfs_len]; omega)]
theorem zip_gaps {ws : List Int} {n l : Nat} (h : l ≤ n) : zipD (pfs ws n) ((pfs ws n).drop l) = ((List.range (n - l)).map fun i : Nat => (D.int (pf ws i), D.int (pf ws (i + l)))).map fun q => .tup [q.1, q.2] := by
  unfold zipD
  apply List.ext_getElem?
  intro i
  rw [List.getElem?_zipWith, List.getElem?_drop, List.map_map, List.getElem?_map, List.getElem?_map, List.getElem?_map]
  by_cases z : i < n - l
  · rw [List.getElem?_range (by omega), List.getElem?_range (by omega), List.getElem?_range z]
    show some (D.tup [D.int (pf ws i), D.int (pf ws (l + i))]) = some (D.tup [D.int (pf ws i), D.int (pf ws (i + l))])
    rw [Nat.add_comm l i]
  · rw [List.getElem?_eq_none (l := List.range (n - l)) (by rw [List.length_range]; omega), List.getElem?_eq_none (l := List.range n) (i := l + i) (by rw [List.length_range]; omega)]
    cases (List.range n)[i]? <;> rfl
theorem pu_stretch_sums : Pure N_stretch_sums.length 2 t_stretch_sums p_stretch_sums := by
  rintro ds R er ⟨ws, l, rfl, hl, h1, hR⟩
  refine ⟨rfl, ?_⟩
  show t_stretch_sums [some (.d (sumsD ws)), some (.d (.int l)), none, none] _ er
  simp only [gRepT, dEnum, dOwnIx, dZip, gMin1, dDic0, gRep, gIn, gMax1, dBreak, dContinue, dRet, dRetN, dAnd, dOr, dNot, dB, dCall, dCallK, dCons, dVar, dC, dNil, dDrw, allD, dVal, dtAnd, dtOr, dtNot, dTru, dIf, dBin, dUn, dChain, dTup, dLst, dLstN, dSl, dNo, dPart, gSl, dSeqS, dNext, dIfS, dSet, dSetOwn, dFreeze, frz, dDrop, dPar, dPar3, dAsg, dgTup, dgCons, dgNil, dgName, dAppend, dRaiseF, dRaise0, dDrwI, dDrwC, dDrwPop, dDrwSet, dKeep, dLam, dMk, dFld, dFz, dSeq, noOwn, gAdd, DL.gSub, gMul, gDiv, gMod, gPow, gNeg, gLt, gLe, gGt, gGe, gEq, gNe, gIx, gIs, gIsNot, gLen, gAbs, gInt, gStr, gMin2, gMax2, gList, gTuple, gAll, gAny, gSum, gRepr, truD, DL.isNon, List.getElem?_cons_zero, List.getElem?_cons_succ, List.set_cons_zero, List.set_cons_succ, Option.map_some, List.map_cons, List.map_nil, t_stretch_sums]
  refine lc_fm2 (fun _ => true) (fun q => match q with | (.int x, .int y) => .int (y - x) | _ => .non) (fun Q Q' hq h => hq _ _ h) ?_
  show ∃ ps : List (D × D), zipD (pfs ws (ws.length + 1)) (DL.cutD (pfs ws (ws.length + 1)) (some (l : Int)) none) = ps.map (fun q => .tup [q.1, q.2]) ∧ _
  rw [pfs_cut (by omega)]
  refine ⟨_, zip_gaps (by omega), by rw [sizeLine_eq, List.length_map, List.length_range]; omega, fun d hd S hS => hS, fun d hd hp S hS => ?_, ?_⟩
  · obtain ⟨i, _, rfl⟩ := List.mem_map.mp hd
    simp only [gRepT, dEnum, dOwnIx, dZip, gMin1, dDic0, gRep, gIn, gMax1, dBreak, dContinue, dRet, dRetN, dAnd, dOr, dNot, dB, dCall, dCallK, dCons, dVar, dC, dNil, dDrw, allD, dVal, dtAnd, dtOr, dtNot, dTru, dIf, dBin, dUn, dChain, dTup, dLst, dLstN, dSl, dNo, dPart, gSl, dSeqS, dNext, dIfS, dSet, dSetOwn, dFreeze, frz, dDrop, dPar, dPar3, dAsg, dgTup, dgCons, dgNil, dgName, dAppend, dRaiseF, dRaise0, dDrwI, dDrwC, dDrwPop, dDrwSet, dKeep, dLam, dMk, dFld, dFz, dSeq, noOwn, gAdd, DL.gSub, gMul, gDiv, gMod, gPow, gNeg, gLt, gLe, gGt, gGe, gEq, gNe, gIx, gIs, gIsNot, gLen, gAbs, gInt, gStr, gMin2, gMax2, gList, gTuple, gAll, gAny, gSum, gRepr, truD, DL.isNon, List.getElem?_cons_zero, List.getElem?_cons_succ, List.set_cons_zero, List.set_cons_succ, Option.map_some, List.map_cons, List.map_nil, inE, wipeE]
    exact hS _
  · have e : ∀ l : List (D × D), l.filter (fun _ => true) = l := fun l => List.filter_eq_self.mpr fun _ _ => rfl
    rw [e, List.map_map]
    exact hR
/-! the first stretches that are unlike by two -/
section
variable {R : D → Prop} {er : Er → Prop} {E : DEnds} {ws : List Int} {d : D} {l : Nat} {x4 x5 x6 x7 x8 : Option DV}
abbrev fuE (ws : List Int) (x2 x3 x4 x5 x6 x7 x8 : Option DV) : DEnv := [some (.d (wd ws)), some (.d (sumsD ws)), x2, x3, x4, x5, x6, x7, x8]
theorem gt_abs {a b : Int} : (if a - b < 0 then -(a - b) else a - b) > 1 ↔ (a - b > 1 ∨ b - a > 1) := by
  split <;> omega
theorem gaps_at {ws : List Int} {l : Nat} {i : Int} (h0 : 0 ≤ i) (h1 : i < (ws.length + 1 - l : Nat)) : atI ((List.range (ws.length + 1 - l)).map fun i => D.int (gap ws l i)) i = some (.int (gap ws l i.toNat)) := at_ints h0 h1
/-- one row of pairs -/
theorem fu2 (h : W ws) (hF : Fu ws d) (hR : E.rt d) {i : Nat} (l1 : 1 ≤ l) (hl : l ≤ ws.length) (il : i + l ≤ ws.length) (ol : ∀ l' i' j', 1 ≤ l' → l' < l → ¬ Bad ws l' i' j') (oi : ∀ i' j', i' < i → ¬ Bad ws l i' j')
    (hn : (∀ j, ¬ Bad ws l i j) → ∀ y8, E.nx (fuE ws (some (.d (.int l))) (some (.d (gapsD ws l))) x4 x5 (some (.d (.int i))) (some (.d (.int (gap ws l i)))) y8)) :
    w_first_unbalanced_2 (fuE ws (some (.d (.int l))) (some (.d (gapsD ws l))) x4 x5 (some (.d (.int i))) (some (.d (.int (gap ws l i)))) x8) E er := by
  have w5 := h.l
  have gl : ((List.range (ws.length + 1 - l)).map fun i => D.int (gap ws l i)).length = ws.length + 1 - l := by rw [List.length_map, List.length_range]
  simp only [gRepT, dEnum, dOwnIx, dZip, gMin1, dDic0, gRep, gIn, gMax1, dBreak, dContinue, dRet, dRetN, dAnd, dOr, dNot, dB, dCall, dCallK, dCons, dVar, dC, dNil, dDrw, allD, dVal, dtAnd, dtOr, dtNot, dTru, dIf, dBin, dUn, dChain, dTup, dLst, dLstN, dSl, dNo, dPart, gSl, dSeqS, dNext, dIfS, dSet, dSetOwn, dFreeze, frz, dDrop, dPar, dPar3, dAsg, dgTup, dgCons, dgNil, dgName, dAppend, dRaiseF, dRaise0, dDrwI, dDrwC, dDrwPop, dDrwSet, dKeep, dLam, dMk, dFld, dFz, dSeq, noOwn, gAdd, DL.gSub, gMul, gDiv, gMod, gPow, gNeg, gLt, gLe, gGt, gGe, gEq, gNe, gIx, gIs, gIsNot, gLen, gAbs, gInt, gStr, gMin2, gMax2, gList, gTuple, gAll, gAny, gSum, gRepr, truD, DL.isNon, List.getElem?_cons_zero, List.getElem?_cons_succ, List.set_cons_zero, List.set_cons_succ, Option.map_some, List.map_cons, List.map_nil, w_first_unbalanced_2, dFor, dRng2]
  rw [gl]
  refine ⟨⟨by omega, by omega⟩, ⟨by omega, by omega⟩, fun t ρ => (∀ j, j < i + 1 + t → ¬ Bad ws l i j) ∧ ∃ y8, ρ = fuE ws (some (.d (.int l))) (some (.d (gapsD ws l))) x4 x5 (some (.d (.int i))) (some (.d (.int (gap ws l i)))) y8, ⟨fun j hj B => by have := B.ij; omega, _, rfl⟩, ?_, ?_⟩
  · rintro t dd ρ hd ⟨hk, y8, rfl⟩
    have tn := (List.getElem?_eq_some_iff.mp hd).1
    have tn : t < (((ws.length + 1 - l : Nat) : Int) - ((i : Int) + 1)).toNat := by simpa [rngD] using tn
    rw [rngD_get tn] at hd
    cases hd
    simp only [gRepT, dEnum, dOwnIx, dZip, gMin1, dDic0, gRep, gIn, gMax1, dBreak, dContinue, dRet, dRetN, dAnd, dOr, dNot, dB, dCall, dCallK, dCons, dVar, dC, dNil, dDrw, allD, dVal, dtAnd, dtOr, dtNot, dTru, dIf, dBin, dUn, dChain, dTup, dLst, dLstN, dSl, dNo, dPart, gSl, dSeqS, dNext, dIfS, dSet, dSetOwn, dFreeze, frz, dDrop, dPar, dPar3, dAsg, dgTup, dgCons, dgNil, dgName, dAppend, dRaiseF, dRaise0, dDrwI, dDrwC, dDrwPop, dDrwSet, dKeep, dLam, dMk, dFld, dFz, dSeq, noOwn, gAdd, DL.gSub, gMul, gDiv, gMod, gPow, gNeg, gLt, gLe, gGt, gGe, gEq, gNe, gIx, gIs, gIsNot, gLen, gAbs, gInt, gStr, gMin2, gMax2, gList, gTuple, gAll, gAny, gSum, gRepr, truD, DL.isNon, List.getElem?_cons_zero, List.getElem?_cons_succ, List.set_cons_zero, List.set_cons_succ, Option.map_some, List.map_cons, List.map_nil, w_first_unbalanced_1]
    rw [gaps_at (by omega) (by omega), show ((i : Int) + 1 + (t : Int)).toNat = i + 1 + t by omega]
    simp only [gRepT, dEnum, dOwnIx, dZip, gMin1, dDic0, gRep, gIn, gMax1, dBreak, dContinue, dRet, dRetN, dAnd, dOr, dNot, dB, dCall, dCallK, dCons, dVar, dC, dNil, dDrw, allD, dVal, dtAnd, dtOr, dtNot, dTru, dIf, dBin, dUn, dChain, dTup, dLst, dLstN, dSl, dNo, dPart, gSl, dSeqS, dNext, dIfS, dSet, dSetOwn, dFreeze, frz, dDrop, dPar, dPar3, dAsg, dgTup, dgCons, dgNil, dgName, dAppend, dRaiseF, dRaise0, dDrwI, dDrwC, dDrwPop, dDrwSet, dKeep, dLam, dMk, dFld, dFz, dSeq, noOwn, gAdd, DL.gSub, gMul, gDiv, gMod, gPow, gNeg, gLt, gLe, gGt, gGe, gEq, gNe, gIx, gIs, gIsNot, gLen, gAbs, gInt, gStr, gMin2, gMax2, gList, gTuple, gAll, gAny, gSum, gRepr, truD, DL.isNon, List.getElem?_cons_zero, List.getElem?_cons_succ, List.set_cons_zero, List.set_cons_succ, Option.map_some, List.map_cons, List.map_nil]
    by_cases z : (if gap ws l i - gap ws l (i + 1 + t) < 0 then -(gap ws l i - gap ws l (i + 1 + t)) else gap ws l i - gap ws l (i + 1 + t)) > 1
    · rw [decide_eq_true z]
      have B : Bad ws l i (i + 1 + t) := ⟨by omega, by omega, gt_abs.mp z⟩
      have f : Fu ws (.tup [.int l, .int i, .int ((i : Int) + 1 + t)]) := .inr ⟨l, i, i + 1 + t, by rw [Int.natCast_add, Int.natCast_add]; rfl, l1, B, ol, oi, hk⟩
      rw [fu_one hF f] at hR
      exact ⟨by simp, hR⟩
    · rw [decide_eq_false z]
      refine ⟨fun j hj B => ?_, _, rfl⟩
      by_cases e : j = i + 1 + t
      · subst e
        exact z (gt_abs.mpr B.g)
      · exact hk j (by omega) B
  · rintro ρ ⟨hk, y8, rfl⟩
    have tl : (rngD ((i : Int) + 1) (((ws.length + 1 - l : Nat) : Int) - ((i : Int) + 1)).toNat).length = ws.length - l - i := by
      unfold rngD
      rw [List.length_map, List.length_range]
      omega
    rw [tl] at hk
    refine hn (fun j B => ?_) _
    have := B.jl
    exact hk j (by omega) B
theorem en_gap {ws : List Int} {l k : Nat} {d : D} (h : (enD ((List.range (ws.length + 1 - l)).map fun i => D.int (gap ws l i)))[k]? = some d) : k < ws.length + 1 - l ∧ d = .tup [.int k, .int (gap ws l k)] := by
  unfold enD at h
  rw [List.getElem?_zipWith, List.length_map, List.length_range] at h
  by_cases z : k < ws.length + 1 - l
  · rw [List.getElem?_range z, List.getElem?_map, List.getElem?_range z] at h
    exact ⟨z, (Option.some.inj h).symm⟩
  · have : (List.range (ws.length + 1 - l))[k]? = none := List.getElem?_eq_none (by rw [List.length_range]; omega)
    rw [this] at h
    cases h
/-- one length -/
theorem fu5 (h : W ws) (hF : Fu ws d) (hR : E.rt d) {x3 : Option DV} (l1 : 1 ≤ l) (hl : l ≤ ws.length) (ol : ∀ l' i' j', 1 ≤ l' → l' < l → ¬ Bad ws l' i' j')
    (hn : (∀ i j, ¬ Bad ws l i j) → ∀ y3 y4 y5 y6 y7 y8, E.nx (fuE ws (some (.d (.int l))) y3 y4 y5 y6 y7 y8)) :
    w_first_unbalanced_5 (fuE ws (some (.d (.int l))) x3 x4 x5 x6 x7 x8) E er := by
  have w5 := h.l
  have gi : (List.range (ws.length + 1 - l)).map (fun i => D.int (gap ws l i)) = ((List.range (ws.length + 1 - l)).map fun i => gap ws l i).map D.int := by
    rw [List.map_map]
    rfl
  simp only [gRepT, dEnum, dOwnIx, dZip, gMin1, dDic0, gRep, gIn, gMax1, dBreak, dContinue, dRet, dRetN, dAnd, dOr, dNot, dB, dCall, dCallK, dCons, dVar, dC, dNil, dDrw, allD, dVal, dtAnd, dtOr, dtNot, dTru, dIf, dBin, dUn, dChain, dTup, dLst, dLstN, dSl, dNo, dPart, gSl, dSeqS, dNext, dIfS, dSet, dSetOwn, dFreeze, frz, dDrop, dPar, dPar3, dAsg, dgTup, dgCons, dgNil, dgName, dAppend, dRaiseF, dRaise0, dDrwI, dDrwC, dDrwPop, dDrwSet, dKeep, dLam, dMk, dFld, dFz, dSeq, noOwn, gAdd, DL.gSub, gMul, gDiv, gMod, gPow, gNeg, gLt, gLe, gGt, gGe, gEq, gNe, gIx, gIs, gIsNot, gLen, gAbs, gInt, gStr, gMin2, gMax2, gList, gTuple, gAll, gAny, gSum, gRepr, truD, DL.isNon, List.getElem?_cons_zero, List.getElem?_cons_succ, List.set_cons_zero, List.set_cons_succ, Option.map_some, List.map_cons, List.map_nil, w_first_unbalanced_5]
  refine ⟨ws, l, rfl, w5, hl, ?_⟩
  simp only [gRepT, dEnum, dOwnIx, dZip, gMin1, dDic0, gRep, gIn, gMax1, dBreak, dContinue, dRet, dRetN, dAnd, dOr, dNot, dB, dCall, dCallK, dCons, dVar, dC, dNil, dDrw, allD, dVal, dtAnd, dtOr, dtNot, dTru, dIf, dBin, dUn, dChain, dTup, dLst, dLstN, dSl, dNo, dPart, gSl, dSeqS, dNext, dIfS, dSet, dSetOwn, dFreeze, frz, dDrop, dPar, dPar3, dAsg, dgTup, dgCons, dgNil, dgName, dAppend, dRaiseF, dRaise0, dDrwI, dDrwC, dDrwPop, dDrwSet, dKeep, dLam, dMk, dFld, dFz, dSeq, noOwn, gAdd, DL.gSub, gMul, gDiv, gMod, gPow, gNeg, gLt, gLe, gGt, gGe, gEq, gNe, gIx, gIs, gIsNot, gLen, gAbs, gInt, gStr, gMin2, gMax2, gList, gTuple, gAll, gAny, gSum, gRepr, truD, DL.isNon, List.getElem?_cons_zero, List.getElem?_cons_succ, List.set_cons_zero, List.set_cons_succ, Option.map_some, List.map_cons, List.map_nil, u_first_unbalanced_4]
  have key : ∀ m M : Int, m ∈ ((List.range (ws.length + 1 - l)).map fun i => gap ws l i) → (∀ y ∈ ((List.range (ws.length + 1 - l)).map fun i => gap ws l i), m ≤ y) → M ∈ ((List.range (ws.length + 1 - l)).map fun i => gap ws l i) → (∀ y ∈ ((List.range (ws.length + 1 - l)).map fun i => gap ws l i), y ≤ M) →
      u_first_unbalanced_3 (fuE ws (some (.d (.int l))) (some (.d (gapsD ws l))) (some (.d (.int m))) (some (.d (.int M))) x6 x7 x8) E er := fun m M m1 m2 M1 M2 => by
    simp only [gRepT, dEnum, dOwnIx, dZip, gMin1, dDic0, gRep, gIn, gMax1, dBreak, dContinue, dRet, dRetN, dAnd, dOr, dNot, dB, dCall, dCallK, dCons, dVar, dC, dNil, dDrw, allD, dVal, dtAnd, dtOr, dtNot, dTru, dIf, dBin, dUn, dChain, dTup, dLst, dLstN, dSl, dNo, dPart, gSl, dSeqS, dNext, dIfS, dSet, dSetOwn, dFreeze, frz, dDrop, dPar, dPar3, dAsg, dgTup, dgCons, dgNil, dgName, dAppend, dRaiseF, dRaise0, dDrwI, dDrwC, dDrwPop, dDrwSet, dKeep, dLam, dMk, dFld, dFz, dSeq, noOwn, gAdd, DL.gSub, gMul, gDiv, gMod, gPow, gNeg, gLt, gLe, gGt, gGe, gEq, gNe, gIx, gIs, gIsNot, gLen, gAbs, gInt, gStr, gMin2, gMax2, gList, gTuple, gAll, gAny, gSum, gRepr, truD, DL.isNon, List.getElem?_cons_zero, List.getElem?_cons_succ, List.set_cons_zero, List.set_cons_succ, Option.map_some, List.map_cons, List.map_nil, u_first_unbalanced_3]
    by_cases z : M - m > 1
    · rw [decide_eq_true z]
      simp only [gRepT, dEnum, dOwnIx, dZip, gMin1, dDic0, gRep, gIn, gMax1, dBreak, dContinue, dRet, dRetN, dAnd, dOr, dNot, dB, dCall, dCallK, dCons, dVar, dC, dNil, dDrw, allD, dVal, dtAnd, dtOr, dtNot, dTru, dIf, dBin, dUn, dChain, dTup, dLst, dLstN, dSl, dNo, dPart, gSl, dSeqS, dNext, dIfS, dSet, dSetOwn, dFreeze, frz, dDrop, dPar, dPar3, dAsg, dgTup, dgCons, dgNil, dgName, dAppend, dRaiseF, dRaise0, dDrwI, dDrwC, dDrwPop, dDrwSet, dKeep, dLam, dMk, dFld, dFz, dSeq, noOwn, gAdd, DL.gSub, gMul, gDiv, gMod, gPow, gNeg, gLt, gLe, gGt, gGe, gEq, gNe, gIx, gIs, gIsNot, gLen, gAbs, gInt, gStr, gMin2, gMax2, gList, gTuple, gAll, gAny, gSum, gRepr, truD, DL.isNon, List.getElem?_cons_zero, List.getElem?_cons_succ, List.set_cons_zero, List.set_cons_succ, Option.map_some, List.map_cons, List.map_nil, dFor]
      refine ⟨fun k ρ => (∀ i j, i < k → ¬ Bad ws l i j) ∧ ∃ y6 y7 y8, ρ = fuE ws (some (.d (.int l))) (some (.d (gapsD ws l))) (some (.d (.int m))) (some (.d (.int M))) y6 y7 y8, ⟨fun i j hi => by omega, _, _, _, rfl⟩, ?_, ?_⟩
      · rintro k dd ρ hd ⟨hk, y6, y7, y8, rfl⟩
        obtain ⟨kn, rfl⟩ := en_gap hd
        simp only [gRepT, dEnum, dOwnIx, dZip, gMin1, dDic0, gRep, gIn, gMax1, dBreak, dContinue, dRet, dRetN, dAnd, dOr, dNot, dB, dCall, dCallK, dCons, dVar, dC, dNil, dDrw, allD, dVal, dtAnd, dtOr, dtNot, dTru, dIf, dBin, dUn, dChain, dTup, dLst, dLstN, dSl, dNo, dPart, gSl, dSeqS, dNext, dIfS, dSet, dSetOwn, dFreeze, frz, dDrop, dPar, dPar3, dAsg, dgTup, dgCons, dgNil, dgName, dAppend, dRaiseF, dRaise0, dDrwI, dDrwC, dDrwPop, dDrwSet, dKeep, dLam, dMk, dFld, dFz, dSeq, noOwn, gAdd, DL.gSub, gMul, gDiv, gMod, gPow, gNeg, gLt, gLe, gGt, gGe, gEq, gNe, gIx, gIs, gIsNot, gLen, gAbs, gInt, gStr, gMin2, gMax2, gList, gTuple, gAll, gAny, gSum, gRepr, truD, DL.isNon, List.getElem?_cons_zero, List.getElem?_cons_succ, List.set_cons_zero, List.set_cons_succ, Option.map_some, List.map_cons, List.map_nil]
        refine ⟨rfl, ?_⟩
        refine fu2 h hF ?_ l1 hl (by omega) ol (fun i' j' hi => hk i' j' hi) ?_
        · exact hR
        intro no y8
        refine ⟨fun i j hi => ?_, _, _, y8, rfl⟩
        by_cases e : i = k
        · subst e
          exact no j
        · exact hk i j (by omega)
      · rintro ρ ⟨hk, y6, y7, y8, rfl⟩
        have el : (enD ((List.range (ws.length + 1 - l)).map fun i => D.int (gap ws l i))).length = ws.length + 1 - l := by
          unfold enD
          rw [List.length_zipWith, List.length_range, List.length_map, List.length_range]
          omega
        rw [el] at hk
        exact hn (fun i j B => hk i j (by have := B.jl; have := B.ij; omega) B) _ _ _ _ _ _
    · rw [decide_eq_false z]
      refine hn (fun i j B => ?_) _ _ _ _ _ _
      have bj := B.jl
      have bi := B.ij
      have mi : gap ws l i ∈ (List.range (ws.length + 1 - l)).map fun i => gap ws l i := List.mem_map.mpr ⟨i, List.mem_range.mpr (show i < ws.length + 1 - l by omega), rfl⟩
      have mj : gap ws l j ∈ (List.range (ws.length + 1 - l)).map fun i => gap ws l i := List.mem_map.mpr ⟨j, List.mem_range.mpr (show j < ws.length + 1 - l by omega), rfl⟩
      have a1 := m2 (gap ws l i) mi
      have a2 := m2 (gap ws l j) mj
      have a3 := M2 (gap ws l i) mi
      have a4 := M2 (gap ws l j) mj
      have := B.g
      omega
  have ne : 0 < ((List.range (ws.length + 1 - l)).map fun i => gap ws l i).length := by
    rw [List.length_map, List.length_range]
    omega
  show match inD ((List.range (ws.length + 1 - l)).map fun i => D.int (gap ws l i)) with | some bs => _ | none => False
  rw [gi, inD_ints]
  refine ⟨ne, fun m m1 m2 => ?_⟩
  refine ⟨ne, fun M M1 M2 => ?_⟩
  exact key m M m1 m2 M1 M2
end
theorem pu_first_unbalanced : Pure N_first_unbalanced.length 1 t_first_unbalanced p_first_unbalanced := by
  rintro ds R er ⟨ws, d, rfl, h, hF, hR⟩
  refine ⟨rfl, ?_⟩
  have w5 := h.l
  show t_first_unbalanced [some (.d (wd ws)), none, none, none, none, none, none, none, none] _ er
  simp only [gRepT, dEnum, dOwnIx, dZip, gMin1, dDic0, gRep, gIn, gMax1, dBreak, dContinue, dRet, dRetN, dAnd, dOr, dNot, dB, dCall, dCallK, dCons, dVar, dC, dNil, dDrw, allD, dVal, dtAnd, dtOr, dtNot, dTru, dIf, dBin, dUn, dChain, dTup, dLst, dLstN, dSl, dNo, dPart, gSl, dSeqS, dNext, dIfS, dSet, dSetOwn, dFreeze, frz, dDrop, dPar, dPar3, dAsg, dgTup, dgCons, dgNil, dgName, dAppend, dRaiseF, dRaise0, dDrwI, dDrwC, dDrwPop, dDrwSet, dKeep, dLam, dMk, dFld, dFz, dSeq, noOwn, gAdd, DL.gSub, gMul, gDiv, gMod, gPow, gNeg, gLt, gLe, gGt, gGe, gEq, gNe, gIx, gIs, gIsNot, gLen, gAbs, gInt, gStr, gMin2, gMax2, gList, gTuple, gAll, gAny, gSum, gRepr, truD, DL.isNon, List.getElem?_cons_zero, List.getElem?_cons_succ, List.set_cons_zero, List.set_cons_succ, Option.map_some, List.map_cons, List.map_nil, t_first_unbalanced]
  refine ⟨ws, rfl, h, ?_⟩
  have wl : (ws.map D.int).length = ws.length := List.length_map ..
  simp only [gRepT, dEnum, dOwnIx, dZip, gMin1, dDic0, gRep, gIn, gMax1, dBreak, dContinue, dRet, dRetN, dAnd, dOr, dNot, dB, dCall, dCallK, dCons, dVar, dC, dNil, dDrw, allD, dVal, dtAnd, dtOr, dtNot, dTru, dIf, dBin, dUn, dChain, dTup, dLst, dLstN, dSl, dNo, dPart, gSl, dSeqS, dNext, dIfS, dSet, dSetOwn, dFreeze, frz, dDrop, dPar, dPar3, dAsg, dgTup, dgCons, dgNil, dgName, dAppend, dRaiseF, dRaise0, dDrwI, dDrwC, dDrwPop, dDrwSet, dKeep, dLam, dMk, dFld, dFz, dSeq, noOwn, gAdd, DL.gSub, gMul, gDiv, gMod, gPow, gNeg, gLt, gLe, gGt, gGe, gEq, gNe, gIx, gIs, gIsNot, gLen, gAbs, gInt, gStr, gMin2, gMax2, gList, gTuple, gAll, gAny, gSum, gRepr, truD, DL.isNon, List.getElem?_cons_zero, List.getElem?_cons_succ, List.set_cons_zero, List.set_cons_succ, Option.map_some, List.map_cons, List.map_nil, u_first_unbalanced_7, dFor, dRng2]
  rw [wl]
  refine ⟨⟨by decide, by decide⟩, ⟨by omega, by omega⟩, fun k ρ => (∀ l i j, 1 ≤ l → l < k + 1 → ¬ Bad ws l i j) ∧ ∃ y2 y3 y4 y5 y6 y7 y8, ρ = fuE ws y2 y3 y4 y5 y6 y7 y8, ⟨fun l i j a b => by omega, _, _, _, _, _, _, _, rfl⟩, ?_, ?_⟩
  · rintro k dd ρ hd ⟨hk, y2, y3, y4, y5, y6, y7, y8, rfl⟩
    have tn := (List.getElem?_eq_some_iff.mp hd).1
    have tn : k < ((ws.length : Int) + 1 - 1).toNat := by simpa [rngD] using tn
    rw [rngD_get tn] at hd
    cases hd
    rw [show (1 : Int) + (k : Int) = ((k + 1 : Nat) : Int) by omega]
    refine fu5 (l := k + 1) h hF ?_ (by omega) (by omega) (fun l' i' j' a b => hk l' i' j' a b) ?_
    · exact hR
    intro no y3 y4 y5 y6 y7 y8
    refine ⟨fun l i j a b => ?_, _, y3, y4, y5, y6, y7, y8, rfl⟩
    by_cases e : l = k + 1
    · subst e
      exact no i j
    · exact hk l i j a (by omega)
  · rintro ρ ⟨hk, y2, y3, y4, y5, y6, y7, y8, rfl⟩
    have tl : (rngD 1 ((ws.length : Int) + 1 - 1).toNat).length = ws.length := by
      unfold rngD
      rw [List.length_map, List.length_range]
      omega
    rw [tl] at hk
    simp only [gRepT, dEnum, dOwnIx, dZip, gMin1, dDic0, gRep, gIn, gMax1, dBreak, dContinue, dRet, dRetN, dAnd, dOr, dNot, dB, dCall, dCallK, dCons, dVar, dC, dNil, dDrw, allD, dVal, dtAnd, dtOr, dtNot, dTru, dIf, dBin, dUn, dChain, dTup, dLst, dLstN, dSl, dNo, dPart, gSl, dSeqS, dNext, dIfS, dSet, dSetOwn, dFreeze, frz, dDrop, dPar, dPar3, dAsg, dgTup, dgCons, dgNil, dgName, dAppend, dRaiseF, dRaise0, dDrwI, dDrwC, dDrwPop, dDrwSet, dKeep, dLam, dMk, dFld, dFz, dSeq, noOwn, gAdd, DL.gSub, gMul, gDiv, gMod, gPow, gNeg, gLt, gLe, gGt, gGe, gEq, gNe, gIx, gIs, gIsNot, gLen, gAbs, gInt, gStr, gMin2, gMax2, gList, gTuple, gAll, gAny, gSum, gRepr, truD, DL.isNon, List.getElem?_cons_zero, List.getElem?_cons_succ, List.set_cons_zero, List.set_cons_succ, Option.map_some, List.map_cons, List.map_nil, u_first_unbalanced_6]
    have f : Fu ws .non := .inl ⟨rfl, fun l i j a B => hk l i j a (by have := B.jl; have := B.ij; omega) B⟩
    rw [fu_one hF f] at hR
    exact hR
theorem pu_is_balanced : Pure N_is_balanced.length 1 t_is_balanced p_is_balanced := by
  rintro ds R er ⟨x, rfl, hx, h⟩
  refine ⟨rfl, ?_⟩
  show t_is_balanced [some (.d x)] _ er
  simp only [gRepT, dEnum, dOwnIx, dZip, gMin1, dDic0, gRep, gIn, gMax1, dBreak, dContinue, dRet, dRetN, dAnd, dOr, dNot, dB, dCall, dCallK, dCons, dVar, dC, dNil, dDrw, allD, dVal, dtAnd, dtOr, dtNot, dTru, dIf, dBin, dUn, dChain, dTup, dLst, dLstN, dSl, dNo, dPart, gSl, dSeqS, dNext, dIfS, dSet, dSetOwn, dFreeze, frz, dDrop, dPar, dPar3, dAsg, dgTup, dgCons, dgNil, dgName, dAppend, dRaiseF, dRaise0, dDrwI, dDrwC, dDrwPop, dDrwSet, dKeep, dLam, dMk, dFld, dFz, dSeq, noOwn, gAdd, DL.gSub, gMul, gDiv, gMod, gPow, gNeg, gLt, gLe, gGt, gGe, gEq, gNe, gIx, gIs, gIsNot, gLen, gAbs, gInt, gStr, gMin2, gMax2, gList, gTuple, gAll, gAny, gSum, gRepr, truD, DL.isNon, List.getElem?_cons_zero, List.getElem?_cons_succ, List.set_cons_zero, List.set_cons_succ, Option.map_some, List.map_cons, List.map_nil, t_is_balanced]
  rcases h with ⟨e, hE⟩ | ⟨ws, d, rfl, hw, hF, hR⟩
  · exact ⟨x, rfl, hx, fun e' => (by rw [e] at e'; cases e'), fun _ => hE⟩
  · refine ⟨_, rfl, hx, fun _ => ?_, fun e => by rw [isW_wd hw] at e; cases e⟩
    simp only [gRepT, dEnum, dOwnIx, dZip, gMin1, dDic0, gRep, gIn, gMax1, dBreak, dContinue, dRet, dRetN, dAnd, dOr, dNot, dB, dCall, dCallK, dCons, dVar, dC, dNil, dDrw, allD, dVal, dtAnd, dtOr, dtNot, dTru, dIf, dBin, dUn, dChain, dTup, dLst, dLstN, dSl, dNo, dPart, gSl, dSeqS, dNext, dIfS, dSet, dSetOwn, dFreeze, frz, dDrop, dPar, dPar3, dAsg, dgTup, dgCons, dgNil, dgName, dAppend, dRaiseF, dRaise0, dDrwI, dDrwC, dDrwPop, dDrwSet, dKeep, dLam, dMk, dFld, dFz, dSeq, noOwn, gAdd, DL.gSub, gMul, gDiv, gMod, gPow, gNeg, gLt, gLe, gGt, gGe, gEq, gNe, gIx, gIs, gIsNot, gLen, gAbs, gInt, gStr, gMin2, gMax2, gList, gTuple, gAll, gAny, gSum, gRepr, truD, DL.isNon, List.getElem?_cons_zero, List.getElem?_cons_succ, List.set_cons_zero, List.set_cons_succ, Option.map_some, List.map_cons, List.map_nil, u_is_balanced_1]
    exact ⟨ws, d, rfl, hw, hF, hR⟩
end K40
set_option Elab.async false
set_option linter.all false
set_option maxRecDepth 100000
set_option maxHeartbeats 2000000
set_option exponentiation.threshold 2000
namespace K40
open PySem PySem.Spec PyProof.Rows L2 DL
theorem pu__law_take : Pure N__law_take.length 2 t__law_take p__law_take := by
  rintro ds R er ⟨m, rfl, h1, h2, hR⟩
  refine ⟨rfl, ?_⟩
  show t__law_take [some .drw, some (.d (.int m)), none] _ er
  simp only [gRepT, dEnum, dOwnIx, dZip, gMin1, dDic0, gRep, gIn, gMax1, dBreak, dContinue, dRet, dRetN, dAnd, dOr, dNot, dB, dCall, dCallK, dCons, dVar, dC, dNil, dDrw, allD, dVal, dtAnd, dtOr, dtNot, dTru, dIf, dBin, dUn, dChain, dTup, dLst, dLstN, dSl, dNo, dPart, gSl, dSeqS, dNext, dIfS, dSet, dSetOwn, dFreeze, frz, dDrop, dPar, dPar3, dAsg, dgTup, dgCons, dgNil, dgName, dAppend, dRaiseF, dRaise0, dDrwI, dDrwC, dDrwPop, dDrwSet, dKeep, dLam, dMk, dFld, dFz, dSeq, noOwn, gAdd, DL.gSub, gMul, gDiv, gMod, gPow, gNeg, gLt, gLe, gGt, gGe, gEq, gNe, gIx, gIs, gIsNot, gLen, gAbs, gInt, gStr, gMin2, gMax2, gList, gTuple, gAll, gAny, gSum, gRepr, truD, DL.isNon, List.getElem?_cons_zero, List.getElem?_cons_succ, List.set_cons_zero, List.set_cons_succ, Option.map_some, List.map_cons, List.map_nil, u__law_take_1, u__law_take_2, u__law_take_3, t__law_take]
  have tail : ∀ r : Int, 0 ≤ r → 0 < m ∧ True ∧ ∀ (r_1 : Int), 0 ≤ r_1 → DivOk m ∧ 0 ≤ r_1 / m ∧ True ∧ R (D.int (r % m)) := fun r hr =>
    ⟨h1, trivial, fun q hq => ⟨divOk_of h1 h2, Int.ediv_nonneg hq (Int.le_of_lt h1), trivial, hR _ (Int.emod_nonneg _ (by omega)) (Int.emod_lt_of_pos _ h1)⟩⟩
  refine ⟨trivial, fun r hr => ⟨.inl rfl, ?_⟩⟩
  rw [eqv_ii]
  cases (r == 0) with
  | false => exact ⟨trivial, tail⟩
  | true => exact ⟨trivial, fun r hr => ⟨hr, trivial, trivial, tail⟩, rfl, fun n hn => ⟨hn, trivial, trivial, tail⟩⟩
theorem pu__law_pick : Pure N__law_pick.length 2 t__law_pick p__law_pick := by
  rintro ds R er ⟨xs, rfl, h1, h2, hR⟩
  refine ⟨rfl, ?_⟩
  show t__law_pick [some .drw, some (.d (.lst xs))] _ er
  simp only [gRepT, dEnum, dOwnIx, dZip, gMin1, dDic0, gRep, gIn, gMax1, dBreak, dContinue, dRet, dRetN, dAnd, dOr, dNot, dB, dCall, dCallK, dCons, dVar, dC, dNil, dDrw, allD, dVal, dtAnd, dtOr, dtNot, dTru, dIf, dBin, dUn, dChain, dTup, dLst, dLstN, dSl, dNo, dPart, gSl, dSeqS, dNext, dIfS, dSet, dSetOwn, dFreeze, frz, dDrop, dPar, dPar3, dAsg, dgTup, dgCons, dgNil, dgName, dAppend, dRaiseF, dRaise0, dDrwI, dDrwC, dDrwPop, dDrwSet, dKeep, dLam, dMk, dFld, dFz, dSeq, noOwn, gAdd, DL.gSub, gMul, gDiv, gMod, gPow, gNeg, gLt, gLe, gGt, gGe, gEq, gNe, gIx, gIs, gIsNot, gLen, gAbs, gInt, gStr, gMin2, gMax2, gList, gTuple, gAll, gAny, gSum, gRepr, truD, DL.isNon, List.getElem?_cons_zero, List.getElem?_cons_succ, List.set_cons_zero, List.set_cons_succ, Option.map_some, List.map_cons, List.map_nil, t__law_pick]
  refine ⟨xs.length, rfl, by omega, by omega, fun n h3 h4 => ?_⟩
  obtain ⟨x, hx, e⟩ := atI_in h3 h4
  show match atI xs n with | some d => R d | none => False
  rw [e]
  exact hR x hx
theorem pu__law_number : Pure N__law_number.length 2 t__law_number p__law_number := by
  rintro ds R er ⟨m, rfl, h1, h2, hR⟩
  refine ⟨rfl, ?_⟩
  show t__law_number [some .drw, some (.d (.int m)), none] _ er
  simp only [gRepT, dEnum, dOwnIx, dZip, gMin1, dDic0, gRep, gIn, gMax1, dBreak, dContinue, dRet, dRetN, dAnd, dOr, dNot, dB, dCall, dCallK, dCons, dVar, dC, dNil, dDrw, allD, dVal, dtAnd, dtOr, dtNot, dTru, dIf, dBin, dUn, dChain, dTup, dLst, dLstN, dSl, dNo, dPart, gSl, dSeqS, dNext, dIfS, dSet, dSetOwn, dFreeze, frz, dDrop, dPar, dPar3, dAsg, dgTup, dgCons, dgNil, dgName, dAppend, dRaiseF, dRaise0, dDrwI, dDrwC, dDrwPop, dDrwSet, dKeep, dLam, dMk, dFld, dFz, dSeq, noOwn, gAdd, DL.gSub, gMul, gDiv, gMod, gPow, gNeg, gLt, gLe, gGt, gGe, gEq, gNe, gIx, gIs, gIsNot, gLen, gAbs, gInt, gStr, gMin2, gMax2, gList, gTuple, gAll, gAny, gSum, gRepr, truD, DL.isNon, List.getElem?_cons_zero, List.getElem?_cons_succ, List.set_cons_zero, List.set_cons_succ, Option.map_some, List.map_cons, List.map_nil, u__law_number_1, t__law_number]
  have hs : ∃ s : Int, (if 9 < m then 9 else m) = s ∧ 1 ≤ s ∧ s ≤ m ∧ s ≤ 9 := ⟨_, rfl, by split <;> omega, by split <;> omega, by split <;> omega⟩
  obtain ⟨s, es, s1, s2, s3⟩ := hs
  rw [es]
  refine ⟨mulOk_l (by omega), 2 * s + 1, rfl, by omega, by omega, fun n a1 a2 => ?_⟩
  refine ⟨mulOk_l (by omega), 2 * m + 1, rfl, by omega, by omega, fun q b1 b2 => ?_⟩
  refine ⟨by simp, _, rfl, by simp, by simp, fun x hx => ?_⟩
  simp only [List.mem_cons, List.not_mem_nil, or_false] at hx
  rcases hx with rfl | rfl | rfl | rfl | rfl | rfl <;> exact hR _ (by omega) (by omega)
theorem p6 : (10 : Int) ^ Int.toNat 6 = 1000000 := by decide
theorem p12 : (10 : Int) ^ Int.toNat 12 = 1000000000000 := by decide
theorem p18 : (10 : Int) ^ Int.toNat 18 = 1000000000000000000 := by decide
theorem p4 : (10 : Int) ^ Int.toNat 4 = 10000 := by decide
theorem cp {j : Int} (h : 0 ≤ j) (h2 : j ≤ 1000000) : CPow 10 j := ⟨h, h2, by decide⟩
theorem pu__law_mixed : Pure N__law_mixed.length 1 t__law_mixed p__law_mixed := by
  rintro ds R er ⟨rfl, hR⟩
  refine ⟨rfl, ?_⟩
  show t__law_mixed [some .drw, none, none, none, none, none] _ er
  simp only [gRepT, dEnum, dOwnIx, dZip, gMin1, dDic0, gRep, gIn, gMax1, dBreak, dContinue, dRet, dRetN, dAnd, dOr, dNot, dB, dCall, dCallK, dCons, dVar, dC, dNil, dDrw, allD, dVal, dtAnd, dtOr, dtNot, dTru, dIf, dBin, dUn, dChain, dTup, dLst, dLstN, dSl, dNo, dPart, gSl, dSeqS, dNext, dIfS, dSet, dSetOwn, dFreeze, frz, dDrop, dPar, dPar3, dAsg, dgTup, dgCons, dgNil, dgName, dAppend, dRaiseF, dRaise0, dDrwI, dDrwC, dDrwPop, dDrwSet, dKeep, dLam, dMk, dFld, dFz, dSeq, noOwn, gAdd, DL.gSub, gMul, gDiv, gMod, gPow, gNeg, gLt, gLe, gGt, gGe, gEq, gNe, gIx, gIs, gIsNot, gLen, gAbs, gInt, gStr, gMin2, gMax2, gList, gTuple, gAll, gAny, gSum, gRepr, truD, DL.isNon, List.getElem?_cons_zero, List.getElem?_cons_succ, List.set_cons_zero, List.set_cons_succ, Option.map_some, List.map_cons, List.map_nil, t__law_mixed, u__law_mixed_7, u__law_mixed_6, u__law_mixed_5, dFor]
  refine ⟨trivial, fun t0 ht0 => ⟨by omega, trivial, trivial, fun t ht => ⟨by decide, fun _ ρ => ∃ (f : Int) (x3 x4 x5 : Option DV), 0 ≤ f ∧ ρ = [some .drw, some (.d (.int t)), some (.d (.int f)), x3, x4, x5], ⟨0, _, _, _, Int.le_refl 0, rfl⟩, ?_, ?_⟩⟩⟩
  · rintro k d ρ hd ⟨f, x3, x4, x5, hf, rfl⟩
    have hg : ∃ g : Int, d = .int g ∧ 2147483000 < g ∧ g < 2147483648 := by
      have hm := List.mem_of_getElem? hd
      simp only [List.mem_cons, List.not_mem_nil, or_false] at hm
      rcases hm with rfl | rfl | rfl <;> exact ⟨_, rfl, by decide, by decide⟩
    obtain ⟨g, rfl, g1, g2⟩ := hg
    simp only [gRepT, dEnum, dOwnIx, dZip, gMin1, dDic0, gRep, gIn, gMax1, dBreak, dContinue, dRet, dRetN, dAnd, dOr, dNot, dB, dCall, dCallK, dCons, dVar, dC, dNil, dDrw, allD, dVal, dtAnd, dtOr, dtNot, dTru, dIf, dBin, dUn, dChain, dTup, dLst, dLstN, dSl, dNo, dPart, gSl, dSeqS, dNext, dIfS, dSet, dSetOwn, dFreeze, frz, dDrop, dPar, dPar3, dAsg, dgTup, dgCons, dgNil, dgName, dAppend, dRaiseF, dRaise0, dDrwI, dDrwC, dDrwPop, dDrwSet, dKeep, dLam, dMk, dFld, dFz, dSeq, noOwn, gAdd, DL.gSub, gMul, gDiv, gMod, gPow, gNeg, gLt, gLe, gGt, gGe, gEq, gNe, gIx, gIs, gIsNot, gLen, gAbs, gInt, gStr, gMin2, gMax2, gList, gTuple, gAll, gAny, gSum, gRepr, truD, DL.isNon, List.getElem?_cons_zero, List.getElem?_cons_succ, List.set_cons_zero, List.set_cons_succ, Option.map_some, List.map_cons, List.map_nil, w__law_mixed_4, u__law_mixed_3, dFor]
    refine ⟨mulOk_r (by omega), divOk_of (by decide) (by decide), by omega, trivial, fun cells hc => ⟨fun _ ρ => ∃ (b : Int) (x5 : Option DV), 0 ≤ b ∧ b < g ∧ ρ = [some .drw, some (.d (.int t)), some (.d (.int f)), some (.d (.int g)), some (.d (.int b)), x5],
      ⟨_, _, Int.emod_nonneg _ (by omega), Int.emod_lt_of_pos _ (by omega), rfl⟩, ?_, ?_⟩⟩
    · rintro k' d ρ hd' ⟨b, x5, hb, hb2, rfl⟩
      have hn : ∃ n : Int, d = .int n := by
        have hm := List.mem_of_getElem? hd'
        obtain ⟨n, _, rfl⟩ := List.mem_map.mp hm
        exact ⟨n, rfl⟩
      obtain ⟨n, rfl⟩ := hn
      simp only [gRepT, dEnum, dOwnIx, dZip, gMin1, dDic0, gRep, gIn, gMax1, dBreak, dContinue, dRet, dRetN, dAnd, dOr, dNot, dB, dCall, dCallK, dCons, dVar, dC, dNil, dDrw, allD, dVal, dtAnd, dtOr, dtNot, dTru, dIf, dBin, dUn, dChain, dTup, dLst, dLstN, dSl, dNo, dPart, gSl, dSeqS, dNext, dIfS, dSet, dSetOwn, dFreeze, frz, dDrop, dPar, dPar3, dAsg, dgTup, dgCons, dgNil, dgName, dAppend, dRaiseF, dRaise0, dDrwI, dDrwC, dDrwPop, dDrwSet, dKeep, dLam, dMk, dFld, dFz, dSeq, noOwn, gAdd, DL.gSub, gMul, gDiv, gMod, gPow, gNeg, gLt, gLe, gGt, gGe, gEq, gNe, gIx, gIs, gIsNot, gLen, gAbs, gInt, gStr, gMin2, gMax2, gList, gTuple, gAll, gAny, gSum, gRepr, truD, DL.isNon, List.getElem?_cons_zero, List.getElem?_cons_succ, List.set_cons_zero, List.set_cons_succ, Option.map_some, List.map_cons, List.map_nil, w__law_mixed_1]
      exact ⟨mulOk_r (by omega), by omega, _, _, Int.emod_nonneg _ (by omega), Int.emod_lt_of_pos _ (by omega), rfl⟩
    · rintro ρ ⟨b, x5, hb, hb2, rfl⟩
      simp only [gRepT, dEnum, dOwnIx, dZip, gMin1, dDic0, gRep, gIn, gMax1, dBreak, dContinue, dRet, dRetN, dAnd, dOr, dNot, dB, dCall, dCallK, dCons, dVar, dC, dNil, dDrw, allD, dVal, dtAnd, dtOr, dtNot, dTru, dIf, dBin, dUn, dChain, dTup, dLst, dLstN, dSl, dNo, dPart, gSl, dSeqS, dNext, dIfS, dSet, dSetOwn, dFreeze, frz, dDrop, dPar, dPar3, dAsg, dgTup, dgCons, dgNil, dgName, dAppend, dRaiseF, dRaise0, dDrwI, dDrwC, dDrwPop, dDrwSet, dKeep, dLam, dMk, dFld, dFz, dSeq, noOwn, gAdd, DL.gSub, gMul, gDiv, gMod, gPow, gNeg, gLt, gLe, gGt, gGe, gEq, gNe, gIx, gIs, gIsNot, gLen, gAbs, gInt, gStr, gMin2, gMax2, gList, gTuple, gAll, gAny, gSum, gRepr, truD, DL.isNon, List.getElem?_cons_zero, List.getElem?_cons_succ, List.set_cons_zero, List.set_cons_succ, Option.map_some, List.map_cons, List.map_nil, u__law_mixed_2]
      refine ⟨mulOk_r (by omega), ⟨by decide, by decide, by omega⟩, by omega, _, _, _, _, ?_, rfl⟩
      have h1 : 0 ≤ b ^ Int.toNat 5 % g := Int.emod_nonneg _ (by omega)
      have h2 : 0 ≤ f * 2147483659 := Int.mul_nonneg hf (by decide)
      omega
  · rintro ρ ⟨f, x3, x4, x5, hf, rfl⟩
    exact hR f hf
theorem ab_ {i : Int} : 0 ≤ (if i < 0 then -i else i) := by
  split <;> omega
theorem pb__law_begun : PureB N__law_begun.length 1 t1__law_begun t2__law_begun := by
  intro ns hlen
  show t1__law_begun [some (.d (.scr ns)), none, none] _ _
  simp only [gRepT, dEnum, dOwnIx, dZip, gMin1, dDic0, gRep, gIn, gMax1, dBreak, dContinue, dRet, dRetN, dAnd, dOr, dNot, dB, dCall, dCallK, dCons, dVar, dC, dNil, dDrw, allD, dVal, dtAnd, dtOr, dtNot, dTru, dIf, dBin, dUn, dChain, dTup, dLst, dLstN, dSl, dNo, dPart, gSl, dSeqS, dNext, dIfS, dSet, dSetOwn, dFreeze, frz, dDrop, dPar, dPar3, dAsg, dgTup, dgCons, dgNil, dgName, dAppend, dRaiseF, dRaise0, dDrwI, dDrwC, dDrwPop, dDrwSet, dKeep, dLam, dMk, dFld, dFz, dSeq, noOwn, gAdd, DL.gSub, gMul, gDiv, gMod, gPow, gNeg, gLt, gLe, gGt, gGe, gEq, gNe, gIx, gIs, gIsNot, gLen, gAbs, gInt, gStr, gMin2, gMax2, gList, gTuple, gAll, gAny, gSum, gRepr, truD, DL.isNon, List.getElem?_cons_zero, List.getElem?_cons_succ, List.set_cons_zero, List.set_cons_succ, Option.map_some, List.map_cons, List.map_nil, t1__law_begun, dLc]
  have line : ∀ (k : Nat) (d : D) (acc : List D), (ns.map D.int)[k]? = some d → acc.length ≤ k → acc.length < sizeLine := fun k d acc hd hk => by
    have h := (List.getElem?_eq_some_iff.mp hd).1
    rw [List.length_map] at h
    rw [sizeLine_eq]
    omega
  refine ⟨fun k acc => acc.length ≤ k ∧ ∃ big : List Int, acc = big.map D.int ∧ ∀ b ∈ big, 0 ≤ b, ⟨Nat.le_refl 0, [], rfl, by simp⟩, ?_, ?_⟩
  · rintro k d acc hd ⟨hk, big, rfl, hb⟩
    obtain ⟨n, _, rfl⟩ := List.mem_map.mp (List.mem_of_getElem? hd)
    simp only [gRepT, dEnum, dOwnIx, dZip, gMin1, dDic0, gRep, gIn, gMax1, dBreak, dContinue, dRet, dRetN, dAnd, dOr, dNot, dB, dCall, dCallK, dCons, dVar, dC, dNil, dDrw, allD, dVal, dtAnd, dtOr, dtNot, dTru, dIf, dBin, dUn, dChain, dTup, dLst, dLstN, dSl, dNo, dPart, gSl, dSeqS, dNext, dIfS, dSet, dSetOwn, dFreeze, frz, dDrop, dPar, dPar3, dAsg, dgTup, dgCons, dgNil, dgName, dAppend, dRaiseF, dRaise0, dDrwI, dDrwC, dDrwPop, dDrwSet, dKeep, dLam, dMk, dFld, dFz, dSeq, noOwn, gAdd, DL.gSub, gMul, gDiv, gMod, gPow, gNeg, gLt, gLe, gGt, gGe, gEq, gNe, gIx, gIs, gIsNot, gLen, gAbs, gInt, gStr, gMin2, gMax2, gList, gTuple, gAll, gAny, gSum, gRepr, truD, DL.isNon, List.getElem?_cons_zero, List.getElem?_cons_succ, List.set_cons_zero, List.set_cons_succ, Option.map_some, List.map_cons, List.map_nil, inE, wipeE, p18]
    refine ⟨cp (by decide) (by decide), ?_⟩
    generalize hm : (if n < 0 then -n else n) = m
    cases h : decide (1000000000000000000 ≤ m) with
    | true =>
      refine ⟨cp (by decide) (by decide), line k _ _ hd hk, by simp at hk ⊢; omega, big ++ [m - 1000000000000000000], by simp, fun b hb2 => ?_⟩
      rcases List.mem_append.mp hb2 with z | z
      · exact hb b z
      · have := of_decide_eq_true h
        simp at z
        omega
    | false => exact ⟨Nat.le_succ_of_le hk, big, rfl, hb⟩
  · rintro acc ⟨_, big, rfl, hb⟩
    refine ⟨⟨big, rfl, hb⟩, ?_⟩
    simp only [gRepT, dEnum, dOwnIx, dZip, gMin1, dDic0, gRep, gIn, gMax1, dBreak, dContinue, dRet, dRetN, dAnd, dOr, dNot, dB, dCall, dCallK, dCons, dVar, dC, dNil, dDrw, allD, dVal, dtAnd, dtOr, dtNot, dTru, dIf, dBin, dUn, dChain, dTup, dLst, dLstN, dSl, dNo, dPart, gSl, dSeqS, dNext, dIfS, dSet, dSetOwn, dFreeze, frz, dDrop, dPar, dPar3, dAsg, dgTup, dgCons, dgNil, dgName, dAppend, dRaiseF, dRaise0, dDrwI, dDrwC, dDrwPop, dDrwSet, dKeep, dLam, dMk, dFld, dFz, dSeq, noOwn, gAdd, DL.gSub, gMul, gDiv, gMod, gPow, gNeg, gLt, gLe, gGt, gGe, gEq, gNe, gIx, gIs, gIsNot, gLen, gAbs, gInt, gStr, gMin2, gMax2, gList, gTuple, gAll, gAny, gSum, gRepr, truD, DL.isNon, List.getElem?_cons_zero, List.getElem?_cons_succ, List.set_cons_zero, List.set_cons_succ, Option.map_some, List.map_cons, List.map_nil, t2__law_begun]
    refine lc_map (fun x => match x with | .int i => .int (if i < 0 then -i else i) | _ => .non) (fun Q Q' hq h => hq _ _ h) ?_
    show (ns.map D.int).length ≤ sizeLine ∧ _
    refine ⟨by rw [sizeLine_eq, List.length_map]; omega, fun d hd S hS => ?_, ns.map (fun i => if i < 0 then -i else i), by simp [List.map_map, Function.comp_def], fun b hb => ?_⟩
    · obtain ⟨n, _, rfl⟩ := List.mem_map.mp hd
      simp only [gRepT, dEnum, dOwnIx, dZip, gMin1, dDic0, gRep, gIn, gMax1, dBreak, dContinue, dRet, dRetN, dAnd, dOr, dNot, dB, dCall, dCallK, dCons, dVar, dC, dNil, dDrw, allD, dVal, dtAnd, dtOr, dtNot, dTru, dIf, dBin, dUn, dChain, dTup, dLst, dLstN, dSl, dNo, dPart, gSl, dSeqS, dNext, dIfS, dSet, dSetOwn, dFreeze, frz, dDrop, dPar, dPar3, dAsg, dgTup, dgCons, dgNil, dgName, dAppend, dRaiseF, dRaise0, dDrwI, dDrwC, dDrwPop, dDrwSet, dKeep, dLam, dMk, dFld, dFz, dSeq, noOwn, gAdd, DL.gSub, gMul, gDiv, gMod, gPow, gNeg, gLt, gLe, gGt, gGe, gEq, gNe, gIx, gIs, gIsNot, gLen, gAbs, gInt, gStr, gMin2, gMax2, gList, gTuple, gAll, gAny, gSum, gRepr, truD, DL.isNon, List.getElem?_cons_zero, List.getElem?_cons_succ, List.set_cons_zero, List.set_cons_succ, Option.map_some, List.map_cons, List.map_nil, inE, wipeE]
      exact hS _
    · obtain ⟨n, _, rfl⟩ := List.mem_map.mp hb
      exact ab_
theorem pu__law_says : Pure N__law_says.length 2 t__law_says p__law_says := by
  rintro ds R er ⟨d, rfl, hd, hR⟩
  refine ⟨rfl, ?_⟩
  show t__law_says [some (.d d), some (.d d)] _ er
  simp only [gRepT, dEnum, dOwnIx, dZip, gMin1, dDic0, gRep, gIn, gMax1, dBreak, dContinue, dRet, dRetN, dAnd, dOr, dNot, dB, dCall, dCallK, dCons, dVar, dC, dNil, dDrw, allD, dVal, dtAnd, dtOr, dtNot, dTru, dIf, dBin, dUn, dChain, dTup, dLst, dLstN, dSl, dNo, dPart, gSl, dSeqS, dNext, dIfS, dSet, dSetOwn, dFreeze, frz, dDrop, dPar, dPar3, dAsg, dgTup, dgCons, dgNil, dgName, dAppend, dRaiseF, dRaise0, dDrwI, dDrwC, dDrwPop, dDrwSet, dKeep, dLam, dMk, dFld, dFz, dSeq, noOwn, gAdd, DL.gSub, gMul, gDiv, gMod, gPow, gNeg, gLt, gLe, gGt, gGe, gEq, gNe, gIx, gIs, gIsNot, gLen, gAbs, gInt, gStr, gMin2, gMax2, gList, gTuple, gAll, gAny, gSum, gRepr, truD, DL.isNon, List.getElem?_cons_zero, List.getElem?_cons_succ, List.set_cons_zero, List.set_cons_succ, Option.map_some, List.map_cons, List.map_nil, t__law_says]
  refine ⟨hd, hd, .inl rfl, ?_⟩
  have e : PyData.eqv (D.str d.py.shown).py (D.str d.py.shown).py = true := by
    show (d.py.shown == d.py.shown) = true
    exact beq_self_eq_true _
  rw [e]
  exact hR
theorem pu__law_caught : Pure N__law_caught.length 1 t__law_caught p__law_caught := by
  rintro ds R er ⟨L, cs, pt, rfl, h1, h2, h3, h4⟩
  refine ⟨rfl, ?_⟩
  show t__law_caught [some (.d (.lam L cs)), none, none] _ er
  simp only [gRepT, dEnum, dOwnIx, dZip, gMin1, dDic0, gRep, gIn, gMax1, dBreak, dContinue, dRet, dRetN, dAnd, dOr, dNot, dB, dCall, dCallK, dCons, dVar, dC, dNil, dDrw, allD, dVal, dtAnd, dtOr, dtNot, dTru, dIf, dBin, dUn, dChain, dTup, dLst, dLstN, dSl, dNo, dPart, gSl, dSeqS, dNext, dIfS, dSet, dSetOwn, dFreeze, frz, dDrop, dPar, dPar3, dAsg, dgTup, dgCons, dgNil, dgName, dAppend, dRaiseF, dRaise0, dDrwI, dDrwC, dDrwPop, dDrwSet, dKeep, dLam, dMk, dFld, dFz, dSeq, noOwn, gAdd, DL.gSub, gMul, gDiv, gMod, gPow, gNeg, gLt, gLe, gGt, gGe, gEq, gNe, gIx, gIs, gIsNot, gLen, gAbs, gInt, gStr, gMin2, gMax2, gList, gTuple, gAll, gAny, gSum, gRepr, truD, DL.isNon, List.getElem?_cons_zero, List.getElem?_cons_succ, List.set_cons_zero, List.set_cons_succ, Option.map_some, List.map_cons, List.map_nil, u__law_caught_1, u__law_caught_2, t__law_caught]
  exact ⟨pt, h1, h2, h3, h4⟩
section
variable {α : Type} {a b c : α}
theorem at3_0 : atI [a, b, c] 0 = some a := rfl
theorem at3_1 : atI [a, b, c] 1 = some b := rfl
theorem at3_2 : atI [a, b, c] 2 = some c := rfl
end
theorem va_alt {w c : Int} (hc : 1 ≤ c) : (w - w % c) / c = w / c := by
  have h : w - w % c = w / c * c := by
    have := Int.emod_add_mul_ediv w c
    rw [Int.mul_comm] at this
    omega
  rw [h, Int.mul_ediv_cancel _ (by omega)]
theorem pu__law_at : Pure N__law_at.length 2 t__law_at p__law_at := by
  rintro ds R er ⟨a, b, c, n, rfl, h, hR⟩
  refine ⟨rfl, ?_⟩
  show t__law_at [some (.d (std a b c)), some (.d (.int n)), none] _ er
  obtain ⟨a1, a2, b1, b2, c1, c2⟩ := h
  simp only [gRepT, dEnum, dOwnIx, dZip, gMin1, dDic0, gRep, gIn, gMax1, dBreak, dContinue, dRet, dRetN, dAnd, dOr, dNot, dB, dCall, dCallK, dCons, dVar, dC, dNil, dDrw, allD, dVal, dtAnd, dtOr, dtNot, dTru, dIf, dBin, dUn, dChain, dTup, dLst, dLstN, dSl, dNo, dPart, gSl, dSeqS, dNext, dIfS, dSet, dSetOwn, dFreeze, frz, dDrop, dPar, dPar3, dAsg, dgTup, dgCons, dgNil, dgName, dAppend, dRaiseF, dRaise0, dDrwI, dDrwC, dDrwPop, dDrwSet, dKeep, dLam, dMk, dFld, dFz, dSeq, noOwn, gAdd, DL.gSub, gMul, gDiv, gMod, gPow, gNeg, gLt, gLe, gGt, gGe, gEq, gNe, gIx, gIs, gIsNot, gLen, gAbs, gInt, gStr, gMin2, gMax2, gList, gTuple, gAll, gAny, gSum, gRepr, truD, DL.isNon, List.getElem?_cons_zero, List.getElem?_cons_succ, List.set_cons_zero, List.set_cons_succ, Option.map_some, List.map_cons, List.map_nil, u__law_at_1, t__law_at, at3_0, at3_1, at3_2]
  refine ⟨mulOk_l ⟨by omega, by omega⟩, by omega, divOk_of (by omega) (by omega), ?_⟩
  rw [va_alt (by omega)]
  exact hR
theorem xcl : xcat "BadLetters" := List.mem_cons_self
theorem sl1 : xsub "BadLetters" "BadLetters" = some true := by decide +kernel
theorem sl2 : xsub "BadLetters" "BadMost" = some false := by decide +kernel
theorem sl3 : xsub "BadLetters" "BadPace" = some false := by decide +kernel
theorem sl4 : xsub "BadLetters" "BadTurn" = some false := by decide +kernel
theorem sl5 : xsub "BadLetters" "BadStride" = some false := by decide +kernel
theorem sl6 : xsub "BadLetters" "BadMany" = some false := by decide +kernel
theorem sl7 : xsub "BadLetters" "BadStep" = some false := by decide +kernel
theorem sl8 : xsub "BadLetters" "BadFrame" = some false := by decide +kernel
theorem sl9 : xsub "BadLetters" "TooMany" = some false := by decide +kernel
/-! the word of an error -/
section
variable {er : Er → Prop} {E : DEnds}
def pB : D × D → Bool := fun q => match q.1 with
  | .bl b => b
  | _ => false
theorem words (bs : List (Bool × Str)) : ((bs.map fun q => (D.bl q.1, D.str q.2)).filter pB).map (fun q => q.2) = (bs.filter fun q => q.1).map fun q => D.str q.2 := by
  induction bs with
  | nil => rfl
  | cons q bs ih =>
    rw [List.map_cons, List.filter_cons, List.filter_cons]
    show List.map _ (if q.1 = true then _ else _) = _
    cases q.1 with
    | true =>
      rw [if_pos rfl, if_pos rfl, List.map_cons, List.map_cons, ih]
    | false =>
      rw [if_neg (by decide), if_neg (by decide), ih]
abbrev tps (bs : List (Bool × Str)) : D := .lst (bs.map fun q => .tup [.bl q.1, .str q.2])
theorem named4 {e : D} (bs : List (Bool × Str)) (hz : bs.length ≤ 1000) (hn : u__law_named_3 [some (.d e), some (.d (tps bs)), some (.own (.lst ((bs.filter fun q => q.1).map fun q => D.str q.2))), none, none] E er) : u__law_named_4 [some (.d e), some (.d (tps bs)), none, none, none] E er := by
  simp only [gRepT, dEnum, dOwnIx, dZip, gMin1, dDic0, gRep, gIn, gMax1, dBreak, dContinue, dRet, dRetN, dAnd, dOr, dNot, dB, dCall, dCallK, dCons, dVar, dC, dNil, dDrw, allD, dVal, dtAnd, dtOr, dtNot, dTru, dIf, dBin, dUn, dChain, dTup, dLst, dLstN, dSl, dNo, dPart, gSl, dSeqS, dNext, dIfS, dSet, dSetOwn, dFreeze, frz, dDrop, dPar, dPar3, dAsg, dgTup, dgCons, dgNil, dgName, dAppend, dRaiseF, dRaise0, dDrwI, dDrwC, dDrwPop, dDrwSet, dKeep, dLam, dMk, dFld, dFz, dSeq, noOwn, gAdd, DL.gSub, gMul, gDiv, gMod, gPow, gNeg, gLt, gLe, gGt, gGe, gEq, gNe, gIx, gIs, gIsNot, gLen, gAbs, gInt, gStr, gMin2, gMax2, gList, gTuple, gAll, gAny, gSum, gRepr, truD, DL.isNon, List.getElem?_cons_zero, List.getElem?_cons_succ, List.set_cons_zero, List.set_cons_succ, Option.map_some, List.map_cons, List.map_nil, u__law_named_4]
  refine lc_fm2 pB (fun q => q.2) (fun Q Q' hq h => hq _ _ h) ?_
  show ∃ ps : List (D × D), (bs.map fun q : Bool × Str => D.tup [.bl q.1, .str q.2]) = ps.map (fun q => .tup [q.1, q.2]) ∧ _
  refine ⟨bs.map fun q => (D.bl q.1, D.str q.2), by rw [List.map_map]; rfl, by rw [List.length_map, sizeLine_eq]; omega, fun d hd S hS => ?_, fun d hd hp S hS => ?_, ?_⟩
  · obtain ⟨q, _, rfl⟩ := List.mem_map.mp hd
    simp only [gRepT, dEnum, dOwnIx, dZip, gMin1, dDic0, gRep, gIn, gMax1, dBreak, dContinue, dRet, dRetN, dAnd, dOr, dNot, dB, dCall, dCallK, dCons, dVar, dC, dNil, dDrw, allD, dVal, dtAnd, dtOr, dtNot, dTru, dIf, dBin, dUn, dChain, dTup, dLst, dLstN, dSl, dNo, dPart, gSl, dSeqS, dNext, dIfS, dSet, dSetOwn, dFreeze, frz, dDrop, dPar, dPar3, dAsg, dgTup, dgCons, dgNil, dgName, dAppend, dRaiseF, dRaise0, dDrwI, dDrwC, dDrwPop, dDrwSet, dKeep, dLam, dMk, dFld, dFz, dSeq, noOwn, gAdd, DL.gSub, gMul, gDiv, gMod, gPow, gNeg, gLt, gLe, gGt, gGe, gEq, gNe, gIx, gIs, gIsNot, gLen, gAbs, gInt, gStr, gMin2, gMax2, gList, gTuple, gAll, gAny, gSum, gRepr, truD, DL.isNon, List.getElem?_cons_zero, List.getElem?_cons_succ, List.set_cons_zero, List.set_cons_succ, Option.map_some, List.map_cons, List.map_nil, inE, wipeE]
    exact hS
  · exact hS _
  · rw [words]
    exact hn
/-- the last statement: one word -/
theorem named1 {x : Str} {f : Option (Str × D)} {w : Str} {x1 x3 x4 : Option DV} (hv : xval x) (hR : E.rt (.str w)) : u__law_named_1 [some (.d (.exc x f)), x1, some (.own (.lst [.str w])), x3, x4] E er := by
  simp only [gRepT, dEnum, dOwnIx, dZip, gMin1, dDic0, gRep, gIn, gMax1, dBreak, dContinue, dRet, dRetN, dAnd, dOr, dNot, dB, dCall, dCallK, dCons, dVar, dC, dNil, dDrw, allD, dVal, dtAnd, dtOr, dtNot, dTru, dIf, dBin, dUn, dChain, dTup, dLst, dLstN, dSl, dNo, dPart, gSl, dSeqS, dNext, dIfS, dSet, dSetOwn, dFreeze, frz, dDrop, dPar, dPar3, dAsg, dgTup, dgCons, dgNil, dgName, dAppend, dRaiseF, dRaise0, dDrwI, dDrwC, dDrwPop, dDrwSet, dKeep, dLam, dMk, dFld, dFz, dSeq, noOwn, gAdd, DL.gSub, gMul, gDiv, gMod, gPow, gNeg, gLt, gLe, gGt, gGe, gEq, gNe, gIx, gIs, gIsNot, gLen, gAbs, gInt, gStr, gMin2, gMax2, gList, gTuple, gAll, gAny, gSum, gRepr, truD, DL.isNon, List.getElem?_cons_zero, List.getElem?_cons_succ, List.set_cons_zero, List.set_cons_succ, Option.map_some, List.map_cons, List.map_nil, u__law_named_1]
  refine ⟨.inl rfl, ?_⟩
  rw [show PyData.eqv (D.int (([D.str w].length : Nat) : Int)).py (D.int 1).py = true from rfl]
  exact ⟨hv, hR⟩
theorem named2 {x : Str} {f : Option (Str × D)} {w : Str} {x1 x3 x4 : Option DV} (hv : xval x) (hs : xsub x "TooMany" = some false) (hR : E.rt (.str w)) : u__law_named_2 [some (.d (.exc x f)), x1, some (.own (.lst [.str w])), x3, x4] E er := by
  have dn := named1 (er := er) (f := f) (x1 := x1) (x3 := x3) (x4 := x4) hv hR
  unfold u__law_named_2
  simp only [dSeqS, dIfS, dVal, dB, dCons, dVar, dC, dNil, allD, List.getElem?_cons_zero, Option.map_some]
  refine isi_exc hs ?_
  exact dn
theorem named3l {x1 x3 x4 : Option DV} {w : Str} (hR : E.rt (.str w)) : u__law_named_3 [some (.d (.exc "BadLetters" none)), x1, some (.own (.lst [.str w])), x3, x4] E er := by
  have dn := named2 (er := er) (f := none) (x1 := x1) (x3 := x3) (x4 := x4) xcl sl9 hR
  unfold u__law_named_3
  simp only [dSeqS, dIfS, dtOr, dVal, dB, dCons, dVar, dC, dNil, allD, List.getElem?_cons_zero, Option.map_some]
  refine isi_exc sl7 ?_
  refine isi_exc sl8 ?_
  exact dn
end
theorem pu__law_named : Pure N__law_named.length 1 t__law_named p__law_named := by
  rintro ds R er ⟨rfl, hR⟩
  refine ⟨rfl, ?_⟩
  show t__law_named [some (.d (.exc "BadLetters" none)), none, none, none, none] _ er
  simp only [gRepT, dEnum, dOwnIx, dZip, gMin1, dDic0, gRep, gIn, gMax1, dBreak, dContinue, dRet, dRetN, dAnd, dOr, dNot, dB, dCall, dCallK, dCons, dVar, dC, dNil, dDrw, allD, dVal, dtAnd, dtOr, dtNot, dTru, dIf, dBin, dUn, dChain, dTup, dLst, dLstN, dSl, dNo, dPart, gSl, dSeqS, dNext, dIfS, dSet, dSetOwn, dFreeze, frz, dDrop, dPar, dPar3, dAsg, dgTup, dgCons, dgNil, dgName, dAppend, dRaiseF, dRaise0, dDrwI, dDrwC, dDrwPop, dDrwSet, dKeep, dLam, dMk, dFld, dFz, dSeq, noOwn, gAdd, DL.gSub, gMul, gDiv, gMod, gPow, gNeg, gLt, gLe, gGt, gGe, gEq, gNe, gIx, gIs, gIsNot, gLen, gAbs, gInt, gStr, gMin2, gMax2, gList, gTuple, gAll, gAny, gSum, gRepr, truD, DL.isNon, List.getElem?_cons_zero, List.getElem?_cons_succ, List.set_cons_zero, List.set_cons_succ, Option.map_some, List.map_cons, List.map_nil, t__law_named]
  refine isi_exc sl1 ⟨by simp, isi_exc sl2 ⟨by simp, isi_exc sl3 ⟨by simp, isi_exc sl4 ⟨by simp, by simp, ?_⟩⟩⟩⟩
  simp only [gRepT, dEnum, dOwnIx, dZip, gMin1, dDic0, gRep, gIn, gMax1, dBreak, dContinue, dRet, dRetN, dAnd, dOr, dNot, dB, dCall, dCallK, dCons, dVar, dC, dNil, dDrw, allD, dVal, dtAnd, dtOr, dtNot, dTru, dIf, dBin, dUn, dChain, dTup, dLst, dLstN, dSl, dNo, dPart, gSl, dSeqS, dNext, dIfS, dSet, dSetOwn, dFreeze, frz, dDrop, dPar, dPar3, dAsg, dgTup, dgCons, dgNil, dgName, dAppend, dRaiseF, dRaise0, dDrwI, dDrwC, dDrwPop, dDrwSet, dKeep, dLam, dMk, dFld, dFz, dSeq, noOwn, gAdd, DL.gSub, gMul, gDiv, gMod, gPow, gNeg, gLt, gLe, gGt, gGe, gEq, gNe, gIx, gIs, gIsNot, gLen, gAbs, gInt, gStr, gMin2, gMax2, gList, gTuple, gAll, gAny, gSum, gRepr, truD, DL.isNon, List.getElem?_cons_zero, List.getElem?_cons_succ, List.set_cons_zero, List.set_cons_succ, Option.map_some, List.map_cons, List.map_nil, u__law_named_5]
  refine isi_exc sl5 ⟨by simp, isi_exc sl6 ⟨by simp, by simp, by rw [sizeLine_eq]; simp, ?_⟩⟩
  exact named4 (e := .exc "BadLetters" none) [(true, "letters"), (false, "most"), (false, "pace"), (false, "turn"), (false, "stride"), (false, "many")] (by simp) (named3l hR)
theorem rng_ms {n : Nat} {F : Int → Int} : (rngD 0 n).map (fun d => match d with | D.int i => D.int (F i) | _ => .non) = ((List.range n).map fun i : Nat => F i).map D.int := by
  unfold rngD
  rw [List.map_map, List.map_map]
  refine List.map_congr_left fun i _ => ?_
  show D.int (F (0 + (i : Int))) = D.int (F (i : Int))
  rw [Int.zero_add]
theorem pu__law_shown : Pure N__law_shown.length 3 t__law_shown p__law_shown := by
  rintro ds R er ⟨a, b, c, f, n, rfl, h, hn, hR⟩
  refine ⟨rfl, ?_⟩
  show t__law_shown [some (.d (std a b c)), some (.d (.int f)), some (.d (.int n)), none] _ er
  simp only [gRepT, dEnum, dOwnIx, dZip, gMin1, dDic0, gRep, gIn, gMax1, dBreak, dContinue, dRet, dRetN, dAnd, dOr, dNot, dB, dCall, dCallK, dCons, dVar, dC, dNil, dDrw, allD, dVal, dtAnd, dtOr, dtNot, dTru, dIf, dBin, dUn, dChain, dTup, dLst, dLstN, dSl, dNo, dPart, gSl, dSeqS, dNext, dIfS, dSet, dSetOwn, dFreeze, frz, dDrop, dPar, dPar3, dAsg, dgTup, dgCons, dgNil, dgName, dAppend, dRaiseF, dRaise0, dDrwI, dDrwC, dDrwPop, dDrwSet, dKeep, dLam, dMk, dFld, dFz, dSeq, noOwn, gAdd, DL.gSub, gMul, gDiv, gMod, gPow, gNeg, gLt, gLe, gGt, gGe, gEq, gNe, gIx, gIs, gIsNot, gLen, gAbs, gInt, gStr, gMin2, gMax2, gList, gTuple, gAll, gAny, gSum, gRepr, truD, DL.isNon, List.getElem?_cons_zero, List.getElem?_cons_succ, List.set_cons_zero, List.set_cons_succ, Option.map_some, List.map_cons, List.map_nil, t__law_shown]
  refine lc_map (fun d => match d with | .int i => .int (va a b c (f + i + 1) - va a b c (f + i)) | _ => .non) (fun Q Q' hq h => ⟨h.1, hq _ _ h.2⟩) ?_
  refine ⟨⟨by omega, by omega⟩, ?_⟩
  rw [show ((n : Int)).toNat = n by omega]
  refine ⟨by unfold rngD; rw [sizeLine_eq, List.length_map, List.length_range]; omega, fun d hm S hS => ?_, ?_⟩
  · obtain ⟨j, hj, rfl⟩ := List.mem_map.mp hm
    simp only [gRepT, dEnum, dOwnIx, dZip, gMin1, dDic0, gRep, gIn, gMax1, dBreak, dContinue, dRet, dRetN, dAnd, dOr, dNot, dB, dCall, dCallK, dCons, dVar, dC, dNil, dDrw, allD, dVal, dtAnd, dtOr, dtNot, dTru, dIf, dBin, dUn, dChain, dTup, dLst, dLstN, dSl, dNo, dPart, gSl, dSeqS, dNext, dIfS, dSet, dSetOwn, dFreeze, frz, dDrop, dPar, dPar3, dAsg, dgTup, dgCons, dgNil, dgName, dAppend, dRaiseF, dRaise0, dDrwI, dDrwC, dDrwPop, dDrwSet, dKeep, dLam, dMk, dFld, dFz, dSeq, noOwn, gAdd, DL.gSub, gMul, gDiv, gMod, gPow, gNeg, gLt, gLe, gGt, gGe, gEq, gNe, gIx, gIs, gIsNot, gLen, gAbs, gInt, gStr, gMin2, gMax2, gList, gTuple, gAll, gAny, gSum, gRepr, truD, DL.isNon, List.getElem?_cons_zero, List.getElem?_cons_succ, List.set_cons_zero, List.set_cons_succ, Option.map_some, List.map_cons, List.map_nil, inE, wipeE]
    exact ⟨a, b, c, _, rfl, h, a, b, c, _, rfl, h, hS _⟩
  · have e3 : (rngD 0 n).map (fun d => match d with | D.int i => D.int (va a b c (f + i + 1) - va a b c (f + i)) | _ => .non) = (shW a b c f n).map D.int := rng_ms (F := fun i => va a b c (f + i + 1) - va a b c (f + i))
    rw [e3]
    exact hR
theorem pu__law_small_step : Pure N__law_small_step.length 2 t__law_small_step p__law_small_step := by
  rintro ds R er ⟨m, rfl, m1, m2, hR⟩
  refine ⟨rfl, ?_⟩
  show t__law_small_step [some .drw, some (.d (.int m)), none, none] _ er
  simp only [gRepT, dEnum, dOwnIx, dZip, gMin1, dDic0, gRep, gIn, gMax1, dBreak, dContinue, dRet, dRetN, dAnd, dOr, dNot, dB, dCall, dCallK, dCons, dVar, dC, dNil, dDrw, allD, dVal, dtAnd, dtOr, dtNot, dTru, dIf, dBin, dUn, dChain, dTup, dLst, dLstN, dSl, dNo, dPart, gSl, dSeqS, dNext, dIfS, dSet, dSetOwn, dFreeze, frz, dDrop, dPar, dPar3, dAsg, dgTup, dgCons, dgNil, dgName, dAppend, dRaiseF, dRaise0, dDrwI, dDrwC, dDrwPop, dDrwSet, dKeep, dLam, dMk, dFld, dFz, dSeq, noOwn, gAdd, DL.gSub, gMul, gDiv, gMod, gPow, gNeg, gLt, gLe, gGt, gGe, gEq, gNe, gIx, gIs, gIsNot, gLen, gAbs, gInt, gStr, gMin2, gMax2, gList, gTuple, gAll, gAny, gSum, gRepr, truD, DL.isNon, List.getElem?_cons_zero, List.getElem?_cons_succ, List.set_cons_zero, List.set_cons_succ, Option.map_some, List.map_cons, List.map_nil, t__law_small_step]
  refine ⟨m, rfl, by omega, by omega, fun c c0 c1 => ?_⟩
  simp only [gRepT, dEnum, dOwnIx, dZip, gMin1, dDic0, gRep, gIn, gMax1, dBreak, dContinue, dRet, dRetN, dAnd, dOr, dNot, dB, dCall, dCallK, dCons, dVar, dC, dNil, dDrw, allD, dVal, dtAnd, dtOr, dtNot, dTru, dIf, dBin, dUn, dChain, dTup, dLst, dLstN, dSl, dNo, dPart, gSl, dSeqS, dNext, dIfS, dSet, dSetOwn, dFreeze, frz, dDrop, dPar, dPar3, dAsg, dgTup, dgCons, dgNil, dgName, dAppend, dRaiseF, dRaise0, dDrwI, dDrwC, dDrwPop, dDrwSet, dKeep, dLam, dMk, dFld, dFz, dSeq, noOwn, gAdd, DL.gSub, gMul, gDiv, gMod, gPow, gNeg, gLt, gLe, gGt, gGe, gEq, gNe, gIx, gIs, gIsNot, gLen, gAbs, gInt, gStr, gMin2, gMax2, gList, gTuple, gAll, gAny, gSum, gRepr, truD, DL.isNon, List.getElem?_cons_zero, List.getElem?_cons_succ, List.set_cons_zero, List.set_cons_succ, Option.map_some, List.map_cons, List.map_nil, u__law_small_step_2, p6]
  refine ⟨1 + c + 1, rfl, by omega, by omega, fun q1 q2 q3 => ⟨1 + c + 1, rfl, by omega, by omega, fun q4 q5 q6 => ⟨mulOk_l ⟨by decide, by decide⟩, 3 * (1 + c), rfl, by omega, by omega, fun q7 q8 q9 => ⟨cp (by decide) (by decide), 1000000, rfl, by decide, by decide, fun r1 r2 r3 => ⟨by simp, _, rfl, by simp, by simp, fun x hx => ?_⟩⟩⟩⟩⟩
  have hx2 : ∃ a : Int, x = .int a ∧ -1000000 ≤ a ∧ a ≤ 1000000 := by
    simp only [List.mem_cons, List.not_mem_nil, or_false] at hx
    rcases hx with rfl | rfl | rfl | rfl
    · exact ⟨_, rfl, by omega, by omega⟩
    · exact ⟨_, rfl, by omega, by omega⟩
    · exact ⟨_, rfl, by omega, by omega⟩
    · exact ⟨_, rfl, by omega, by omega⟩
  obtain ⟨a, rfl, a1, a2⟩ := hx2
  simp only [gRepT, dEnum, dOwnIx, dZip, gMin1, dDic0, gRep, gIn, gMax1, dBreak, dContinue, dRet, dRetN, dAnd, dOr, dNot, dB, dCall, dCallK, dCons, dVar, dC, dNil, dDrw, allD, dVal, dtAnd, dtOr, dtNot, dTru, dIf, dBin, dUn, dChain, dTup, dLst, dLstN, dSl, dNo, dPart, gSl, dSeqS, dNext, dIfS, dSet, dSetOwn, dFreeze, frz, dDrop, dPar, dPar3, dAsg, dgTup, dgCons, dgNil, dgName, dAppend, dRaiseF, dRaise0, dDrwI, dDrwC, dDrwPop, dDrwSet, dKeep, dLam, dMk, dFld, dFz, dSeq, noOwn, gAdd, DL.gSub, gMul, gDiv, gMod, gPow, gNeg, gLt, gLe, gGt, gGe, gEq, gNe, gIx, gIs, gIsNot, gLen, gAbs, gInt, gStr, gMin2, gMax2, gList, gTuple, gAll, gAny, gSum, gRepr, truD, DL.isNon, List.getElem?_cons_zero, List.getElem?_cons_succ, List.set_cons_zero, List.set_cons_succ, Option.map_some, List.map_cons, List.map_nil, u__law_small_step_1, p6, p12]
  refine ⟨cp (by decide) (by decide), cp (by decide) (by decide), by simp, _, rfl, by simp, by simp, fun x hx => ?_⟩
  have hx2 : ∃ k : Int, x = .int k ∧ 1 ≤ k ∧ k ≤ 1000000000000 := by
    simp only [List.mem_cons, List.not_mem_nil, or_false] at hx
    rcases hx with rfl | rfl | rfl <;> exact ⟨_, rfl, by decide, by decide⟩
  obtain ⟨k, rfl, k1, k2⟩ := hx2
  exact ⟨k, rfl, k1, by omega, fun b b1 b2 => ⟨by simp, hR a b (1 + c) ⟨by omega, by omega, by omega, by omega, by omega, by omega⟩⟩⟩
/-! words -/
theorem cut_to {xs : List D} {k : Nat} (h : k ≤ xs.length) : DL.cutD xs none (some (k : Int)) = xs.take k := by
  have e := HT.sIx_nat xs.length xs.length k
  unfold DL.cutD
  rw [e, HT.sIx_none, List.drop_zero, Nat.min_eq_left h]
  simp
theorem cut_from {xs : List D} {k : Nat} (h : k ≤ xs.length) : DL.cutD xs (some (k : Int)) none = xs.drop k := by
  have e := HT.sIx_nat xs.length 0 k
  unfold DL.cutD
  rw [e, HT.sIx_none, Nat.min_eq_left h, List.take_of_length_le (by rw [List.length_drop]; omega)]
theorem at_int {ws : List Int} {i : Int} (h0 : 0 ≤ i) (h1 : i < ws.length) : ∃ x ∈ ws, atI (ws.map D.int) i = some (.int x) := by
  have hl : i.toNat < ws.length := by omega
  refine ⟨ws[i.toNat], List.getElem_mem hl, ?_⟩
  unfold atI ixN
  rw [if_pos h0, if_pos (by rw [List.length_map]; exact h1)]
  show (ws.map D.int)[i.toNat]? = _
  rw [List.getElem?_map, List.getElem?_eq_getElem hl]
  rfl
theorem lay_ints {ws : List Int} : Lay (.tup (ws.map D.int)) 1 := lay_tup (n := 0) fun d hd => by
  obtain ⟨i, _, rfl⟩ := List.mem_map.mp hd
  exact lay_int
theorem tup_nil : ∀ (ys : List D), PyData.eqv (D.tup ys).py (D.tup []).py = ys.isEmpty
  | [] => rfl
  | _ :: _ => rfl
theorem lst_nil : ∀ (ys : List D), PyData.eqv (D.lst ys).py (D.lst []).py = ys.isEmpty
  | [] => rfl
  | _ :: _ => rfl
section
variable {R : D → Prop} {er : Er → Prop} {m way n : Int} {x4 x6 x7 : Option DV}
/-- one letter otherwise -/
theorem word3 (hR : ∀ ws, W ws → R (wd ws)) {ws : List Int} (h : W ws) (hn : (ws.length : Int) = n) : u__law_word_3 [some .drw, some (.d (.int m)), some (.d (.int n)), some (.d (.int way)), x4, some (.d (wd ws)), x6, x7] { nx := fun _ => R .non, rt := R } er := by
  have hl := h.l
  have fin : u__law_word_2 [some .drw, some (.d (.int m)), some (.d (.int n)), some (.d (.int way)), x4, some (.d (wd ws)), x6, x7] { nx := fun _ => R .non, rt := R } er := by
    simp only [gRepT, dEnum, dOwnIx, dZip, gMin1, dDic0, gRep, gIn, gMax1, dBreak, dContinue, dRet, dRetN, dAnd, dOr, dNot, dB, dCall, dCallK, dCons, dVar, dC, dNil, dDrw, allD, dVal, dtAnd, dtOr, dtNot, dTru, dIf, dBin, dUn, dChain, dTup, dLst, dLstN, dSl, dNo, dPart, gSl, dSeqS, dNext, dIfS, dSet, dSetOwn, dFreeze, frz, dDrop, dPar, dPar3, dAsg, dgTup, dgCons, dgNil, dgName, dAppend, dRaiseF, dRaise0, dDrwI, dDrwC, dDrwPop, dDrwSet, dKeep, dLam, dMk, dFld, dFz, dSeq, noOwn, gAdd, DL.gSub, gMul, gDiv, gMod, gPow, gNeg, gLt, gLe, gGt, gGe, gEq, gNe, gIx, gIs, gIsNot, gLen, gAbs, gInt, gStr, gMin2, gMax2, gList, gTuple, gAll, gAny, gSum, gRepr, truD, DL.isNon, List.getElem?_cons_zero, List.getElem?_cons_succ, List.set_cons_zero, List.set_cons_succ, Option.map_some, List.map_cons, List.map_nil, u__law_word_2]
    exact hR ws h
  simp only [gRepT, dEnum, dOwnIx, dZip, gMin1, dDic0, gRep, gIn, gMax1, dBreak, dContinue, dRet, dRetN, dAnd, dOr, dNot, dB, dCall, dCallK, dCons, dVar, dC, dNil, dDrw, allD, dVal, dtAnd, dtOr, dtNot, dTru, dIf, dBin, dUn, dChain, dTup, dLst, dLstN, dSl, dNo, dPart, gSl, dSeqS, dNext, dIfS, dSet, dSetOwn, dFreeze, frz, dDrop, dPar, dPar3, dAsg, dgTup, dgCons, dgNil, dgName, dAppend, dRaiseF, dRaise0, dDrwI, dDrwC, dDrwPop, dDrwSet, dKeep, dLam, dMk, dFld, dFz, dSeq, noOwn, gAdd, DL.gSub, gMul, gDiv, gMod, gPow, gNeg, gLt, gLe, gGt, gGe, gEq, gNe, gIx, gIs, gIsNot, gLen, gAbs, gInt, gStr, gMin2, gMax2, gList, gTuple, gAll, gAny, gSum, gRepr, truD, DL.isNon, List.getElem?_cons_zero, List.getElem?_cons_succ, List.set_cons_zero, List.set_cons_succ, Option.map_some, List.map_cons, List.map_nil, u__law_word_3]
  refine ⟨.inl rfl, ?_⟩
  rw [eqv_ii]
  cases (way == 2) with
  | false => exact fin
  | true =>
    refine ⟨by simp, .inr (lay_ints.eq (lay_tup (n := 0) fun d hd => by cases hd) (by decide) (by decide)), ?_⟩
    rw [tup_nil]
    cases ws with
    | nil => exact fin
    | cons w ws =>
      refine ⟨n, rfl, by rw [← hn, List.length_cons]; omega, by omega, fun s s0 s1 => ?_⟩
      obtain ⟨x, hx, ex⟩ := at_int (ws := w :: ws) s0 (by omega)
      have xb := h.b x hx
      obtain ⟨t, rfl⟩ : ∃ t : Nat, s = t := ⟨s.toNat, by omega⟩
      have ml : ((w :: ws).map D.int).length = (w :: ws).length := List.length_map ..
      have key : ∀ v : Int, -1000000 ≤ v → v ≤ 1000000 → (DL.cutD ((w :: ws).map D.int) none (some (t : Int))).length + [D.int v].length ≤ sizeLine ∧ ((DL.cutD ((w :: ws).map D.int) none (some (t : Int)) ++ [D.int v]).length + (DL.cutD ((w :: ws).map D.int) (some ((t : Int) + 1)) none).length ≤ sizeLine ∧ R (.tup (DL.cutD ((w :: ws).map D.int) none (some (t : Int)) ++ [D.int v] ++ DL.cutD ((w :: ws).map D.int) (some ((t : Int) + 1)) none))) := fun v v1 v2 => by
        have c1 := cut_to (xs := (w :: ws).map D.int) (k := t) (by omega)
        have c2 := cut_from (xs := (w :: ws).map D.int) (k := t + 1) (by omega)
        rw [Int.natCast_add] at c2
        rw [c1, show ((t : Int) + 1) = (t : Int) + ((1 : Nat) : Int) from rfl, c2]
        have e : ((w :: ws).map D.int).take t ++ [D.int v] ++ ((w :: ws).map D.int).drop (t + 1) = ((w :: ws).take t ++ [v] ++ (w :: ws).drop (t + 1)).map D.int := by
          rw [List.map_append, List.map_append, List.map_take, List.map_drop]
          rfl
        have lt1 : (((w :: ws).map D.int).take t).length ≤ 501 := by
          rw [List.length_take, ml]
          omega
        have lt2 : (((w :: ws).map D.int).drop (t + 1)).length ≤ 501 := by
          rw [List.length_drop, ml]
          omega
        refine ⟨by rw [sizeLine_eq, List.length_singleton]; omega, by rw [List.length_append, List.length_singleton, sizeLine_eq]; omega, ?_⟩
        rw [e]
        refine hR _ ⟨by rw [List.length_append, List.length_append, List.length_take, List.length_drop]; simp; simp at hl s1 hn; omega, fun y hy => ?_⟩
        rcases List.mem_append.mp hy with hy | hy
        · rcases List.mem_append.mp hy with hy | hy
          · exact h.b y (List.mem_of_mem_take hy)
          · rw [List.mem_singleton.mp hy]
            exact ⟨v1, v2⟩
        · exact h.b y (List.mem_of_mem_drop hy)
      show u__law_word_1 _ _ er
      simp only [gRepT, dEnum, dOwnIx, dZip, gMin1, dDic0, gRep, gIn, gMax1, dBreak, dContinue, dRet, dRetN, dAnd, dOr, dNot, dB, dCall, dCallK, dCons, dVar, dC, dNil, dDrw, allD, dVal, dtAnd, dtOr, dtNot, dTru, dIf, dBin, dUn, dChain, dTup, dLst, dLstN, dSl, dNo, dPart, gSl, dSeqS, dNext, dIfS, dSet, dSetOwn, dFreeze, frz, dDrop, dPar, dPar3, dAsg, dgTup, dgCons, dgNil, dgName, dAppend, dRaiseF, dRaise0, dDrwI, dDrwC, dDrwPop, dDrwSet, dKeep, dLam, dMk, dFld, dFz, dSeq, noOwn, gAdd, DL.gSub, gMul, gDiv, gMod, gPow, gNeg, gLt, gLe, gGt, gGe, gEq, gNe, gIx, gIs, gIsNot, gLen, gAbs, gInt, gStr, gMin2, gMax2, gList, gTuple, gAll, gAny, gSum, gRepr, truD, DL.isNon, List.getElem?_cons_zero, List.getElem?_cons_succ, List.set_cons_zero, List.set_cons_succ, Option.map_some, List.map_cons, List.map_nil, u__law_word_1, p6]
      rw [show atI (D.int w :: ws.map D.int) (t : Int) = some (.int x) from ex]
      simp only [gRepT, dEnum, dOwnIx, dZip, gMin1, dDic0, gRep, gIn, gMax1, dBreak, dContinue, dRet, dRetN, dAnd, dOr, dNot, dB, dCall, dCallK, dCons, dVar, dC, dNil, dDrw, allD, dVal, dtAnd, dtOr, dtNot, dTru, dIf, dBin, dUn, dChain, dTup, dLst, dLstN, dSl, dNo, dPart, gSl, dSeqS, dNext, dIfS, dSet, dSetOwn, dFreeze, frz, dDrop, dPar, dPar3, dAsg, dgTup, dgCons, dgNil, dgName, dAppend, dRaiseF, dRaise0, dDrwI, dDrwC, dDrwPop, dDrwSet, dKeep, dLam, dMk, dFld, dFz, dSeq, noOwn, gAdd, DL.gSub, gMul, gDiv, gMod, gPow, gNeg, gLt, gLe, gGt, gGe, gEq, gNe, gIx, gIs, gIsNot, gLen, gAbs, gInt, gStr, gMin2, gMax2, gList, gTuple, gAll, gAny, gSum, gRepr, truD, DL.isNon, List.getElem?_cons_zero, List.getElem?_cons_succ, List.set_cons_zero, List.set_cons_succ, Option.map_some, List.map_cons, List.map_nil]
      refine ⟨cp (by decide) (by decide), ?_⟩
      by_cases z : (if x < 0 then -x else x) < 1000000
      · rw [decide_eq_true z]
        refine ⟨by simp, _, rfl, by simp, by simp, fun q hq => ?_⟩
        have hq2 : ∃ k : Int, q = .int k ∧ -1 ≤ k ∧ k ≤ 1 := by
          simp only [List.mem_cons, List.not_mem_nil, or_false] at hq
          rcases hq with rfl | rfl <;> exact ⟨_, rfl, by decide, by decide⟩
        obtain ⟨k, rfl, k1, k2⟩ := hq2
        obtain ⟨g1, g2, g3⟩ := key (x + k) (by split at z <;> omega) (by split at z <;> omega)
        exact ⟨by simp, g1, g2, g3⟩
      · rw [decide_eq_false z]
        obtain ⟨g1, g2, g3⟩ := key 0 (by decide) (by decide)
        exact ⟨by simp, g1, g2, g3⟩
end
theorem pu__law_word : Pure N__law_word.length 2 t__law_word p__law_word := by
  rintro ds R er ⟨m, rfl, m0, m1, hR⟩
  refine ⟨rfl, ?_⟩
  show t__law_word [some .drw, some (.d (.int m)), none, none, none, none, none, none] _ er
  simp only [gRepT, dEnum, dOwnIx, dZip, gMin1, dDic0, gRep, gIn, gMax1, dBreak, dContinue, dRet, dRetN, dAnd, dOr, dNot, dB, dCall, dCallK, dCons, dVar, dC, dNil, dDrw, allD, dVal, dtAnd, dtOr, dtNot, dTru, dIf, dBin, dUn, dChain, dTup, dLst, dLstN, dSl, dNo, dPart, gSl, dSeqS, dNext, dIfS, dSet, dSetOwn, dFreeze, frz, dDrop, dPar, dPar3, dAsg, dgTup, dgCons, dgNil, dgName, dAppend, dRaiseF, dRaise0, dDrwI, dDrwC, dDrwPop, dDrwSet, dKeep, dLam, dMk, dFld, dFz, dSeq, noOwn, gAdd, DL.gSub, gMul, gDiv, gMod, gPow, gNeg, gLt, gLe, gGt, gGe, gEq, gNe, gIx, gIs, gIsNot, gLen, gAbs, gInt, gStr, gMin2, gMax2, gList, gTuple, gAll, gAny, gSum, gRepr, truD, DL.isNon, List.getElem?_cons_zero, List.getElem?_cons_succ, List.set_cons_zero, List.set_cons_succ, Option.map_some, List.map_cons, List.map_nil, t__law_word]
  refine ⟨m + 1, rfl, by omega, by omega, fun n n0 n1 => ⟨6, rfl, by decide, by decide, fun way _ _ => ?_⟩⟩
  obtain ⟨n, rfl⟩ : ∃ k : Nat, n = k := ⟨n.toNat, by omega⟩
  have tn : ((n : Int)).toNat = n := by omega
  have rl : (rngD 0 n).length = n := by simp [rngD]
  simp only [gRepT, dEnum, dOwnIx, dZip, gMin1, dDic0, gRep, gIn, gMax1, dBreak, dContinue, dRet, dRetN, dAnd, dOr, dNot, dB, dCall, dCallK, dCons, dVar, dC, dNil, dDrw, allD, dVal, dtAnd, dtOr, dtNot, dTru, dIf, dBin, dUn, dChain, dTup, dLst, dLstN, dSl, dNo, dPart, gSl, dSeqS, dNext, dIfS, dSet, dSetOwn, dFreeze, frz, dDrop, dPar, dPar3, dAsg, dgTup, dgCons, dgNil, dgName, dAppend, dRaiseF, dRaise0, dDrwI, dDrwC, dDrwPop, dDrwSet, dKeep, dLam, dMk, dFld, dFz, dSeq, noOwn, gAdd, DL.gSub, gMul, gDiv, gMod, gPow, gNeg, gLt, gLe, gGt, gGe, gEq, gNe, gIx, gIs, gIsNot, gLen, gAbs, gInt, gStr, gMin2, gMax2, gList, gTuple, gAll, gAny, gSum, gRepr, truD, DL.isNon, List.getElem?_cons_zero, List.getElem?_cons_succ, List.set_cons_zero, List.set_cons_succ, Option.map_some, List.map_cons, List.map_nil, u__law_word_7]
  refine ⟨.inl rfl, ?_⟩
  rw [eqv_ii]
  cases (way == 0) with
  | true =>
    simp only [gRepT, dEnum, dOwnIx, dZip, gMin1, dDic0, gRep, gIn, gMax1, dBreak, dContinue, dRet, dRetN, dAnd, dOr, dNot, dB, dCall, dCallK, dCons, dVar, dC, dNil, dDrw, allD, dVal, dtAnd, dtOr, dtNot, dTru, dIf, dBin, dUn, dChain, dTup, dLst, dLstN, dSl, dNo, dPart, gSl, dSeqS, dNext, dIfS, dSet, dSetOwn, dFreeze, frz, dDrop, dPar, dPar3, dAsg, dgTup, dgCons, dgNil, dgName, dAppend, dRaiseF, dRaise0, dDrwI, dDrwC, dDrwPop, dDrwSet, dKeep, dLam, dMk, dFld, dFz, dSeq, noOwn, gAdd, DL.gSub, gMul, gDiv, gMod, gPow, gNeg, gLt, gLe, gGt, gGe, gEq, gNe, gIx, gIs, gIsNot, gLen, gAbs, gInt, gStr, gMin2, gMax2, gList, gTuple, gAll, gAny, gSum, gRepr, truD, DL.isNon, List.getElem?_cons_zero, List.getElem?_cons_succ, List.set_cons_zero, List.set_cons_succ, Option.map_some, List.map_cons, List.map_nil, dLc, p6]
    refine ⟨⟨by omega, by omega⟩, fun k acc => ∃ l : List Int, acc = l.map D.int ∧ l.length = k ∧ ∀ x ∈ l, -1000000 ≤ x ∧ x ≤ 1000000, ⟨[], rfl, rfl, by simp⟩, ?_, ?_⟩
    · rw [tn]
      rintro k d acc hd ⟨l, rfl, hk, hl⟩
      have kn := (List.getElem?_eq_some_iff.mp hd).1
      rw [rl] at kn
      simp only [gRepT, dEnum, dOwnIx, dZip, gMin1, dDic0, gRep, gIn, gMax1, dBreak, dContinue, dRet, dRetN, dAnd, dOr, dNot, dB, dCall, dCallK, dCons, dVar, dC, dNil, dDrw, allD, dVal, dtAnd, dtOr, dtNot, dTru, dIf, dBin, dUn, dChain, dTup, dLst, dLstN, dSl, dNo, dPart, gSl, dSeqS, dNext, dIfS, dSet, dSetOwn, dFreeze, frz, dDrop, dPar, dPar3, dAsg, dgTup, dgCons, dgNil, dgName, dAppend, dRaiseF, dRaise0, dDrwI, dDrwC, dDrwPop, dDrwSet, dKeep, dLam, dMk, dFld, dFz, dSeq, noOwn, gAdd, DL.gSub, gMul, gDiv, gMod, gPow, gNeg, gLt, gLe, gGt, gGe, gEq, gNe, gIx, gIs, gIsNot, gLen, gAbs, gInt, gStr, gMin2, gMax2, gList, gTuple, gAll, gAny, gSum, gRepr, truD, DL.isNon, List.getElem?_cons_zero, List.getElem?_cons_succ, List.set_cons_zero, List.set_cons_succ, Option.map_some, List.map_cons, List.map_nil, inE, wipeE, p6]
      refine ⟨cp (by decide) (by decide), by simp, _, rfl, by simp, by simp, fun x hx => ?_⟩
      have hx2 : ∃ k : Int, x = .int k ∧ 1 ≤ k ∧ k ≤ 1000000 := by
        simp only [List.mem_cons, List.not_mem_nil, or_false] at hx
        rcases hx with rfl | rfl | rfl <;> exact ⟨_, rfl, by decide, by decide⟩
      obtain ⟨q, rfl, q1, q2⟩ := hx2
      refine ⟨q, rfl, q1, by omega, fun v v1 v2 => ⟨by rw [List.length_map, sizeLine_eq]; omega, l ++ [v], by simp, by simp [hk], fun y hy => ?_⟩⟩
      rcases List.mem_append.mp hy with hy | hy
      · exact hl y hy
      · rw [List.mem_singleton.mp hy]
        omega
    · rw [tn, rl]
      rintro acc ⟨l, rfl, hk, hl⟩
      exact hR l ⟨by omega, hl⟩
  | false =>
  simp only [gRepT, dEnum, dOwnIx, dZip, gMin1, dDic0, gRep, gIn, gMax1, dBreak, dContinue, dRet, dRetN, dAnd, dOr, dNot, dB, dCall, dCallK, dCons, dVar, dC, dNil, dDrw, allD, dVal, dtAnd, dtOr, dtNot, dTru, dIf, dBin, dUn, dChain, dTup, dLst, dLstN, dSl, dNo, dPart, gSl, dSeqS, dNext, dIfS, dSet, dSetOwn, dFreeze, frz, dDrop, dPar, dPar3, dAsg, dgTup, dgCons, dgNil, dgName, dAppend, dRaiseF, dRaise0, dDrwI, dDrwC, dDrwPop, dDrwSet, dKeep, dLam, dMk, dFld, dFz, dSeq, noOwn, gAdd, DL.gSub, gMul, gDiv, gMod, gPow, gNeg, gLt, gLe, gGt, gGe, gEq, gNe, gIx, gIs, gIsNot, gLen, gAbs, gInt, gStr, gMin2, gMax2, gList, gTuple, gAll, gAny, gSum, gRepr, truD, DL.isNon, List.getElem?_cons_zero, List.getElem?_cons_succ, List.set_cons_zero, List.set_cons_succ, Option.map_some, List.map_cons, List.map_nil, u__law_word_6, p6]
  refine ⟨.inl rfl, ?_⟩
  rw [eqv_ii]
  cases (way == 1) with
  | true =>
    simp only [gRepT, dEnum, dOwnIx, dZip, gMin1, dDic0, gRep, gIn, gMax1, dBreak, dContinue, dRet, dRetN, dAnd, dOr, dNot, dB, dCall, dCallK, dCons, dVar, dC, dNil, dDrw, allD, dVal, dtAnd, dtOr, dtNot, dTru, dIf, dBin, dUn, dChain, dTup, dLst, dLstN, dSl, dNo, dPart, gSl, dSeqS, dNext, dIfS, dSet, dSetOwn, dFreeze, frz, dDrop, dPar, dPar3, dAsg, dgTup, dgCons, dgNil, dgName, dAppend, dRaiseF, dRaise0, dDrwI, dDrwC, dDrwPop, dDrwSet, dKeep, dLam, dMk, dFld, dFz, dSeq, noOwn, gAdd, DL.gSub, gMul, gDiv, gMod, gPow, gNeg, gLt, gLe, gGt, gGe, gEq, gNe, gIx, gIs, gIsNot, gLen, gAbs, gInt, gStr, gMin2, gMax2, gList, gTuple, gAll, gAny, gSum, gRepr, truD, DL.isNon, List.getElem?_cons_zero, List.getElem?_cons_succ, List.set_cons_zero, List.set_cons_succ, Option.map_some, List.map_cons, List.map_nil]
    refine ⟨cp (by decide) (by decide), by simp, _, rfl, by simp, by simp, fun x hx => ?_⟩
    have hx2 : ∃ k : Int, x = .int k ∧ 1 ≤ k ∧ k ≤ 1000000 := by
      simp only [List.mem_cons, List.not_mem_nil, or_false] at hx
      rcases hx with rfl | rfl <;> exact ⟨_, rfl, by decide, by decide⟩
    obtain ⟨q, rfl, q1, q2⟩ := hx2
    refine ⟨q, rfl, q1, by omega, fun v v1 v2 => ⟨by simp, by simp, by omega, by omega, by simp, ?_⟩⟩
    have e : (List.replicate ((n : Int)).toNat [D.int v]).flatten = (List.replicate n v).map D.int := by
      rw [tn, List.map_replicate]
      simp
    rw [e]
    refine hR _ ⟨by rw [List.length_replicate]; omega, fun y hy => ?_⟩
    rw [List.eq_of_mem_replicate hy]
    omega
  | false =>
  simp only [gRepT, dEnum, dOwnIx, dZip, gMin1, dDic0, gRep, gIn, gMax1, dBreak, dContinue, dRet, dRetN, dAnd, dOr, dNot, dB, dCall, dCallK, dCons, dVar, dC, dNil, dDrw, allD, dVal, dtAnd, dtOr, dtNot, dTru, dIf, dBin, dUn, dChain, dTup, dLst, dLstN, dSl, dNo, dPart, gSl, dSeqS, dNext, dIfS, dSet, dSetOwn, dFreeze, frz, dDrop, dPar, dPar3, dAsg, dgTup, dgCons, dgNil, dgName, dAppend, dRaiseF, dRaise0, dDrwI, dDrwC, dDrwPop, dDrwSet, dKeep, dLam, dMk, dFld, dFz, dSeq, noOwn, gAdd, DL.gSub, gMul, gDiv, gMod, gPow, gNeg, gLt, gLe, gGt, gGe, gEq, gNe, gIx, gIs, gIsNot, gLen, gAbs, gInt, gStr, gMin2, gMax2, gList, gTuple, gAll, gAny, gSum, gRepr, truD, DL.isNon, List.getElem?_cons_zero, List.getElem?_cons_succ, List.set_cons_zero, List.set_cons_succ, Option.map_some, List.map_cons, List.map_nil, u__law_word_5, p6]
  refine ⟨by simp, _, rfl, by simp, by simp, fun x hx => ?_⟩
  have hx2 : ∃ k : Int, x = .int k ∧ 1 ≤ k ∧ k ≤ 400 := by
    simp only [List.mem_cons, List.not_mem_nil, or_false] at hx
    rcases hx with rfl | rfl | rfl <;> exact ⟨_, rfl, by decide, by decide⟩
  obtain ⟨q, rfl, q1, q2⟩ := hx2
  refine ⟨q, rfl, q1, q2, fun a b c h => ⟨cp (by decide) (by decide), 1000000, rfl, by decide, by decide, fun f f1 f2 => ⟨a, b, c, f, n, rfl, h, by omega, ?_⟩⟩⟩
  have sl : (shW a b c f n).length = n := shW_len
  generalize shW a b c f n = ws at sl
  simp only [gRepT, dEnum, dOwnIx, dZip, gMin1, dDic0, gRep, gIn, gMax1, dBreak, dContinue, dRet, dRetN, dAnd, dOr, dNot, dB, dCall, dCallK, dCons, dVar, dC, dNil, dDrw, allD, dVal, dtAnd, dtOr, dtNot, dTru, dIf, dBin, dUn, dChain, dTup, dLst, dLstN, dSl, dNo, dPart, gSl, dSeqS, dNext, dIfS, dSet, dSetOwn, dFreeze, frz, dDrop, dPar, dPar3, dAsg, dgTup, dgCons, dgNil, dgName, dAppend, dRaiseF, dRaise0, dDrwI, dDrwC, dDrwPop, dDrwSet, dKeep, dLam, dMk, dFld, dFz, dSeq, noOwn, gAdd, DL.gSub, gMul, gDiv, gMod, gPow, gNeg, gLt, gLe, gGt, gGe, gEq, gNe, gIx, gIs, gIsNot, gLen, gAbs, gInt, gStr, gMin2, gMax2, gList, gTuple, gAll, gAny, gSum, gRepr, truD, DL.isNon, List.getElem?_cons_zero, List.getElem?_cons_succ, List.set_cons_zero, List.set_cons_succ, Option.map_some, List.map_cons, List.map_nil, u__law_word_4, p6]
  refine lc_map (fun d => match d with | .int i => .int (if (if i > 0 - 1000000 then i else 0 - 1000000) < 1000000 then (if i > 0 - 1000000 then i else 0 - 1000000) else 1000000) | _ => .non) (fun Q Q' hq h => hq _ _ h) ?_
  show (ws.map D.int).length ≤ sizeLine ∧ _
  refine ⟨by rw [List.length_map, sizeLine_eq]; omega, fun d hm S hS => ?_, ?_⟩
  · obtain ⟨i, _, rfl⟩ := List.mem_map.mp hm
    simp only [gRepT, dEnum, dOwnIx, dZip, gMin1, dDic0, gRep, gIn, gMax1, dBreak, dContinue, dRet, dRetN, dAnd, dOr, dNot, dB, dCall, dCallK, dCons, dVar, dC, dNil, dDrw, allD, dVal, dtAnd, dtOr, dtNot, dTru, dIf, dBin, dUn, dChain, dTup, dLst, dLstN, dSl, dNo, dPart, gSl, dSeqS, dNext, dIfS, dSet, dSetOwn, dFreeze, frz, dDrop, dPar, dPar3, dAsg, dgTup, dgCons, dgNil, dgName, dAppend, dRaiseF, dRaise0, dDrwI, dDrwC, dDrwPop, dDrwSet, dKeep, dLam, dMk, dFld, dFz, dSeq, noOwn, gAdd, DL.gSub, gMul, gDiv, gMod, gPow, gNeg, gLt, gLe, gGt, gGe, gEq, gNe, gIx, gIs, gIsNot, gLen, gAbs, gInt, gStr, gMin2, gMax2, gList, gTuple, gAll, gAny, gSum, gRepr, truD, DL.isNon, List.getElem?_cons_zero, List.getElem?_cons_succ, List.set_cons_zero, List.set_cons_succ, Option.map_some, List.map_cons, List.map_nil, inE, wipeE, p6]
    exact ⟨cp (by decide) (by decide), cp (by decide) (by decide), hS _⟩
  · have e : (ws.map D.int).map (fun d => match d with | D.int i => D.int (if (if i > 0 - 1000000 then i else 0 - 1000000) < 1000000 then (if i > 0 - 1000000 then i else 0 - 1000000) else 1000000) | _ => .non) = (ws.map fun i => if (if i > 0 - 1000000 then i else 0 - 1000000) < 1000000 then (if i > 0 - 1000000 then i else 0 - 1000000) else 1000000).map D.int := by
      rw [List.map_map, List.map_map]
      rfl
    rw [e]
    refine word3 hR ⟨by rw [List.length_map]; omega, fun x hx => ?_⟩ (by rw [List.length_map, sl])
    obtain ⟨i, _, rfl⟩ := List.mem_map.mp hx
    split <;> split <;> omega
theorem flt_all : ∀ xs : List D, (xs.filter fun x => !isL x).isEmpty = xs.all isL
  | [] => rfl
  | x :: xs => by
    have ih := flt_all xs
    rw [List.filter_cons, List.all_cons]
    cases isL x with
    | true => exact ih
    | false => rfl
theorem pu__law_no_word : Pure N__law_no_word.length 1 t__law_no_word p__law_no_word := by
  rintro ds R er ⟨rfl, hR⟩
  refine ⟨rfl, ?_⟩
  show t__law_no_word [some .drw] _ er
  simp only [gRepT, dEnum, dOwnIx, dZip, gMin1, dDic0, gRep, gIn, gMax1, dBreak, dContinue, dRet, dRetN, dAnd, dOr, dNot, dB, dCall, dCallK, dCons, dVar, dC, dNil, dDrw, allD, dVal, dtAnd, dtOr, dtNot, dTru, dIf, dBin, dUn, dChain, dTup, dLst, dLstN, dSl, dNo, dPart, gSl, dSeqS, dNext, dIfS, dSet, dSetOwn, dFreeze, frz, dDrop, dPar, dPar3, dAsg, dgTup, dgCons, dgNil, dgName, dAppend, dRaiseF, dRaise0, dDrwI, dDrwC, dDrwPop, dDrwSet, dKeep, dLam, dMk, dFld, dFz, dSeq, noOwn, gAdd, DL.gSub, gMul, gDiv, gMod, gPow, gNeg, gLt, gLe, gGt, gGe, gEq, gNe, gIx, gIs, gIsNot, gLen, gAbs, gInt, gStr, gMin2, gMax2, gList, gTuple, gAll, gAny, gSum, gRepr, truD, DL.isNon, List.getElem?_cons_zero, List.getElem?_cons_succ, List.set_cons_zero, List.set_cons_succ, Option.map_some, List.map_cons, List.map_nil, t__law_no_word, p6]
  repeat (first | refine ⟨by simp; done, ?_⟩ | refine ⟨cp (by decide) (by decide), ?_⟩ | refine ⟨by decide, ?_⟩)
  refine ⟨_, rfl, by simp, by simp, fun x hx => ?_⟩
  have h := List.all_eq_true.mp (show List.all _ (fun x : D => okB x && !isW x) = true by decide +kernel) x hx
  obtain ⟨h1, h2⟩ := Bool.and_eq_true_iff.mp h
  exact hR x h1 (by cases q : isW x with | true => rw [q] at h2; cases h2 | false => rfl)
theorem pu__law_sums : Pure N__law_sums.length 1 t__law_sums p__law_sums := by
  rintro ds R er ⟨ws, rfl, h, hR⟩
  refine ⟨rfl, ?_⟩
  have hl := h.l
  show t__law_sums [some (.d (wd ws)), none, none] _ er
  simp only [gRepT, dEnum, dOwnIx, dZip, gMin1, dDic0, gRep, gIn, gMax1, dBreak, dContinue, dRet, dRetN, dAnd, dOr, dNot, dB, dCall, dCallK, dCons, dVar, dC, dNil, dDrw, allD, dVal, dtAnd, dtOr, dtNot, dTru, dIf, dBin, dUn, dChain, dTup, dLst, dLstN, dSl, dNo, dPart, gSl, dSeqS, dNext, dIfS, dSet, dSetOwn, dFreeze, frz, dDrop, dPar, dPar3, dAsg, dgTup, dgCons, dgNil, dgName, dAppend, dRaiseF, dRaise0, dDrwI, dDrwC, dDrwPop, dDrwSet, dKeep, dLam, dMk, dFld, dFz, dSeq, noOwn, gAdd, DL.gSub, gMul, gDiv, gMod, gPow, gNeg, gLt, gLe, gGt, gGe, gEq, gNe, gIx, gIs, gIsNot, gLen, gAbs, gInt, gStr, gMin2, gMax2, gList, gTuple, gAll, gAny, gSum, gRepr, truD, DL.isNon, List.getElem?_cons_zero, List.getElem?_cons_succ, List.set_cons_zero, List.set_cons_succ, Option.map_some, List.map_cons, List.map_nil, t__law_sums, dLstN]
  simp only [gRepT, dEnum, dOwnIx, dZip, gMin1, dDic0, gRep, gIn, gMax1, dBreak, dContinue, dRet, dRetN, dAnd, dOr, dNot, dB, dCall, dCallK, dCons, dVar, dC, dNil, dDrw, allD, dVal, dtAnd, dtOr, dtNot, dTru, dIf, dBin, dUn, dChain, dTup, dLst, dLstN, dSl, dNo, dPart, gSl, dSeqS, dNext, dIfS, dSet, dSetOwn, dFreeze, frz, dDrop, dPar, dPar3, dAsg, dgTup, dgCons, dgNil, dgName, dAppend, dRaiseF, dRaise0, dDrwI, dDrwC, dDrwPop, dDrwSet, dKeep, dLam, dMk, dFld, dFz, dSeq, noOwn, gAdd, DL.gSub, gMul, gDiv, gMod, gPow, gNeg, gLt, gLe, gGt, gGe, gEq, gNe, gIx, gIs, gIsNot, gLen, gAbs, gInt, gStr, gMin2, gMax2, gList, gTuple, gAll, gAny, gSum, gRepr, truD, DL.isNon, List.getElem?_cons_zero, List.getElem?_cons_succ, List.set_cons_zero, List.set_cons_succ, Option.map_some, List.map_cons, List.map_nil, u__law_sums_3, dFor]
  refine ⟨by simp, fun k ρ => k ≤ ws.length ∧ ∃ x2, ρ = [some (.d (wd ws)), some (.own (.lst (pfs ws (k + 1)))), x2], ⟨Nat.zero_le _, none, rfl⟩, ?_, ?_⟩
  · rintro k d ρ hd ⟨kl, x2, rfl⟩
    rw [List.getElem?_map] at hd
    obtain ⟨x, hx, rfl⟩ := Option.map_eq_some_iff.mp hd
    have kn := (List.getElem?_eq_some_iff.mp hx).1
    simp only [gRepT, dEnum, dOwnIx, dZip, gMin1, dDic0, gRep, gIn, gMax1, dBreak, dContinue, dRet, dRetN, dAnd, dOr, dNot, dB, dCall, dCallK, dCons, dVar, dC, dNil, dDrw, allD, dVal, dtAnd, dtOr, dtNot, dTru, dIf, dBin, dUn, dChain, dTup, dLst, dLstN, dSl, dNo, dPart, gSl, dSeqS, dNext, dIfS, dSet, dSetOwn, dFreeze, frz, dDrop, dPar, dPar3, dAsg, dgTup, dgCons, dgNil, dgName, dAppend, dRaiseF, dRaise0, dDrwI, dDrwC, dDrwPop, dDrwSet, dKeep, dLam, dMk, dFld, dFz, dSeq, noOwn, gAdd, DL.gSub, gMul, gDiv, gMod, gPow, gNeg, gLt, gLe, gGt, gGe, gEq, gNe, gIx, gIs, gIsNot, gLen, gAbs, gInt, gStr, gMin2, gMax2, gList, gTuple, gAll, gAny, gSum, gRepr, truD, DL.isNon, List.getElem?_cons_zero, List.getElem?_cons_succ, List.set_cons_zero, List.set_cons_succ, Option.map_some, List.map_cons, List.map_nil, w__law_sums_1]
    refine ⟨-1, rfl, ?_⟩
    rw [pfs_next, atI_last]
    refine ⟨by rw [List.length_append, pfs_len, sizeLine_eq]; simp; omega, by omega, some (.d (.int x)), ?_⟩
    rw [pfs_next ws (k + 1), pf_next hx, pfs_next ws k]
  · rintro ρ ⟨kl, x2, rfl⟩
    simp only [gRepT, dEnum, dOwnIx, dZip, gMin1, dDic0, gRep, gIn, gMax1, dBreak, dContinue, dRet, dRetN, dAnd, dOr, dNot, dB, dCall, dCallK, dCons, dVar, dC, dNil, dDrw, allD, dVal, dtAnd, dtOr, dtNot, dTru, dIf, dBin, dUn, dChain, dTup, dLst, dLstN, dSl, dNo, dPart, gSl, dSeqS, dNext, dIfS, dSet, dSetOwn, dFreeze, frz, dDrop, dPar, dPar3, dAsg, dgTup, dgCons, dgNil, dgName, dAppend, dRaiseF, dRaise0, dDrwI, dDrwC, dDrwPop, dDrwSet, dKeep, dLam, dMk, dFld, dFz, dSeq, noOwn, gAdd, DL.gSub, gMul, gDiv, gMod, gPow, gNeg, gLt, gLe, gGt, gGe, gEq, gNe, gIx, gIs, gIsNot, gLen, gAbs, gInt, gStr, gMin2, gMax2, gList, gTuple, gAll, gAny, gSum, gRepr, truD, DL.isNon, List.getElem?_cons_zero, List.getElem?_cons_succ, List.set_cons_zero, List.set_cons_succ, Option.map_some, List.map_cons, List.map_nil, u__law_sums_2, frz]
    rw [List.length_map]
    exact hR
end K40
set_option Elab.async false
set_option linter.all false
set_option maxRecDepth 100000
set_option maxHeartbeats 2000000
set_option exponentiation.threshold 2000
namespace K40
open PySem PySem.Spec PyProof.Rows L2 DL
theorem pu__law_common : Pure N__law_common.length 2 t__law_common p__law_common := by
  rintro ds R er ⟨x, y, rfl, hR⟩
  refine ⟨rfl, ?_⟩
  show t__law_common [some (.d (.int x)), some (.d (.int y))] _ er
  simp only [gRepT, dEnum, dOwnIx, dZip, gMin1, dDic0, gRep, gIn, gMax1, dBreak, dContinue, dRet, dRetN, dAnd, dOr, dNot, dB, dCall, dCallK, dCons, dVar, dC, dNil, dDrw, allD, dVal, dtAnd, dtOr, dtNot, dTru, dIf, dBin, dUn, dChain, dTup, dLst, dLstN, dSl, dNo, dPart, gSl, dSeqS, dNext, dIfS, dSet, dSetOwn, dFreeze, frz, dDrop, dPar, dPar3, dAsg, dgTup, dgCons, dgNil, dgName, dAppend, dRaiseF, dRaise0, dDrwI, dDrwC, dDrwPop, dDrwSet, dKeep, dLam, dMk, dFld, dFz, dSeq, noOwn, gAdd, DL.gSub, gMul, gDiv, gMod, gPow, gNeg, gLt, gLe, gGt, gGe, gEq, gNe, gIx, gIs, gIsNot, gLen, gAbs, gInt, gStr, gMin2, gMax2, gList, gTuple, gAll, gAny, gSum, gRepr, truD, DL.isNon, List.getElem?_cons_zero, List.getElem?_cons_succ, List.set_cons_zero, List.set_cons_succ, Option.map_some, List.map_cons, List.map_nil, t__law_common]
  have ex : (if x < 0 then -x else x) = (x.natAbs : Int) := by split <;> omega
  have ey : (if y < 0 then -y else y) = (y.natAbs : Int) := by split <;> omega
  rw [ex, ey]
  simp only [gRepT, dEnum, dOwnIx, dZip, gMin1, dDic0, gRep, gIn, gMax1, dBreak, dContinue, dRet, dRetN, dAnd, dOr, dNot, dB, dCall, dCallK, dCons, dVar, dC, dNil, dDrw, allD, dVal, dtAnd, dtOr, dtNot, dTru, dIf, dBin, dUn, dChain, dTup, dLst, dLstN, dSl, dNo, dPart, gSl, dSeqS, dNext, dIfS, dSet, dSetOwn, dFreeze, frz, dDrop, dPar, dPar3, dAsg, dgTup, dgCons, dgNil, dgName, dAppend, dRaiseF, dRaise0, dDrwI, dDrwC, dDrwPop, dDrwSet, dKeep, dLam, dMk, dFld, dFz, dSeq, noOwn, gAdd, DL.gSub, gMul, gDiv, gMod, gPow, gNeg, gLt, gLe, gGt, gGe, gEq, gNe, gIx, gIs, gIsNot, gLen, gAbs, gInt, gStr, gMin2, gMax2, gList, gTuple, gAll, gAny, gSum, gRepr, truD, DL.isNon, List.getElem?_cons_zero, List.getElem?_cons_succ, List.set_cons_zero, List.set_cons_succ, Option.map_some, List.map_cons, List.map_nil, u__law_common_2, dWhile]
  refine ⟨fun m ρ => ∃ a b : Nat, m = b ∧ Nat.gcd a b = Nat.gcd x.natAbs y.natAbs ∧ ρ = [some (.d (.int a)), some (.d (.int b))], ⟨_, _, _, rfl, rfl, rfl⟩, ?_⟩
  rintro m ρ ⟨a, b, hm, hg, rfl⟩
  simp only [gRepT, dEnum, dOwnIx, dZip, gMin1, dDic0, gRep, gIn, gMax1, dBreak, dContinue, dRet, dRetN, dAnd, dOr, dNot, dB, dCall, dCallK, dCons, dVar, dC, dNil, dDrw, allD, dVal, dtAnd, dtOr, dtNot, dTru, dIf, dBin, dUn, dChain, dTup, dLst, dLstN, dSl, dNo, dPart, gSl, dSeqS, dNext, dIfS, dSet, dSetOwn, dFreeze, frz, dDrop, dPar, dPar3, dAsg, dgTup, dgCons, dgNil, dgName, dAppend, dRaiseF, dRaise0, dDrwI, dDrwC, dDrwPop, dDrwSet, dKeep, dLam, dMk, dFld, dFz, dSeq, noOwn, gAdd, DL.gSub, gMul, gDiv, gMod, gPow, gNeg, gLt, gLe, gGt, gGe, gEq, gNe, gIx, gIs, gIsNot, gLen, gAbs, gInt, gStr, gMin2, gMax2, gList, gTuple, gAll, gAny, gSum, gRepr, truD, DL.isNon, List.getElem?_cons_zero, List.getElem?_cons_succ, List.set_cons_zero, List.set_cons_succ, Option.map_some, List.map_cons, List.map_nil]
  refine ⟨.inl rfl, ?_⟩
  rw [eqv_ii]
  by_cases z : (b : Int) = 0
  · rw [show ((b : Int) == 0) = true from beq_iff_eq.mpr z]
    simp only [gRepT, dEnum, dOwnIx, dZip, gMin1, dDic0, gRep, gIn, gMax1, dBreak, dContinue, dRet, dRetN, dAnd, dOr, dNot, dB, dCall, dCallK, dCons, dVar, dC, dNil, dDrw, allD, dVal, dtAnd, dtOr, dtNot, dTru, dIf, dBin, dUn, dChain, dTup, dLst, dLstN, dSl, dNo, dPart, gSl, dSeqS, dNext, dIfS, dSet, dSetOwn, dFreeze, frz, dDrop, dPar, dPar3, dAsg, dgTup, dgCons, dgNil, dgName, dAppend, dRaiseF, dRaise0, dDrwI, dDrwC, dDrwPop, dDrwSet, dKeep, dLam, dMk, dFld, dFz, dSeq, noOwn, gAdd, DL.gSub, gMul, gDiv, gMod, gPow, gNeg, gLt, gLe, gGt, gGe, gEq, gNe, gIx, gIs, gIsNot, gLen, gAbs, gInt, gStr, gMin2, gMax2, gList, gTuple, gAll, gAny, gSum, gRepr, truD, DL.isNon, List.getElem?_cons_zero, List.getElem?_cons_succ, List.set_cons_zero, List.set_cons_succ, Option.map_some, List.map_cons, List.map_nil, u__law_common_1]
    have : b = 0 := by omega
    subst this
    rw [Nat.gcd_zero_right] at hg
    unfold gc at hR
    rw [← hg] at hR
    exact hR
  · rw [show ((b : Int) == 0) = false from beq_eq_false_iff_ne.mpr z]
    refine ⟨by omega, a % b, by rw [hm]; exact Nat.mod_lt _ (by omega), b, a % b, rfl, ?_, ?_⟩
    · rw [← hg, Nat.gcd_comm a b, Nat.gcd_rec b a, Nat.gcd_comm]
    · rw [Int.natCast_emod]
theorem gcd_ {a b : Int} {R : D → Prop} (h : R (.int (gc a b))) : gGcd [.int a, .int b] R := h
theorem dv_gc {u d : Int} (h : 0 < d) (h2 : d < 2 ^ 300) : DivOk (gc u d) := by
  have g := gc_pos (x := u) h
  exact divOk_of g.1 (by omega)
theorem pu_lowest : Pure N_lowest.length 2 t_lowest p_lowest := by
  rintro ds R er ⟨u, d, rfl, h, h2, hR⟩
  refine ⟨rfl, ?_⟩
  show t_lowest [some (.d (.int u)), some (.d (.int d)), none] _ er
  simp only [gRepT, dEnum, dOwnIx, dZip, gMin1, dDic0, gRep, gIn, gMax1, dBreak, dContinue, dRet, dRetN, dAnd, dOr, dNot, dB, dCall, dCallK, dCons, dVar, dC, dNil, dDrw, allD, dVal, dtAnd, dtOr, dtNot, dTru, dIf, dBin, dUn, dChain, dTup, dLst, dLstN, dSl, dNo, dPart, gSl, dSeqS, dNext, dIfS, dSet, dSetOwn, dFreeze, frz, dDrop, dPar, dPar3, dAsg, dgTup, dgCons, dgNil, dgName, dAppend, dRaiseF, dRaise0, dDrwI, dDrwC, dDrwPop, dDrwSet, dKeep, dLam, dMk, dFld, dFz, dSeq, noOwn, gAdd, DL.gSub, gMul, gDiv, gMod, gPow, gNeg, gLt, gLe, gGt, gGe, gEq, gNe, gIx, gIs, gIsNot, gLen, gAbs, gInt, gStr, gMin2, gMax2, gList, gTuple, gAll, gAny, gSum, gRepr, truD, DL.isNon, List.getElem?_cons_zero, List.getElem?_cons_succ, List.set_cons_zero, List.set_cons_succ, Option.map_some, List.map_cons, List.map_nil, t_lowest]
  refine gcd_ ?_
  simp only [gRepT, dEnum, dOwnIx, dZip, gMin1, dDic0, gRep, gIn, gMax1, dBreak, dContinue, dRet, dRetN, dAnd, dOr, dNot, dB, dCall, dCallK, dCons, dVar, dC, dNil, dDrw, allD, dVal, dtAnd, dtOr, dtNot, dTru, dIf, dBin, dUn, dChain, dTup, dLst, dLstN, dSl, dNo, dPart, gSl, dSeqS, dNext, dIfS, dSet, dSetOwn, dFreeze, frz, dDrop, dPar, dPar3, dAsg, dgTup, dgCons, dgNil, dgName, dAppend, dRaiseF, dRaise0, dDrwI, dDrwC, dDrwPop, dDrwSet, dKeep, dLam, dMk, dFld, dFz, dSeq, noOwn, gAdd, DL.gSub, gMul, gDiv, gMod, gPow, gNeg, gLt, gLe, gGt, gGe, gEq, gNe, gIx, gIs, gIsNot, gLen, gAbs, gInt, gStr, gMin2, gMax2, gList, gTuple, gAll, gAny, gSum, gRepr, truD, DL.isNon, List.getElem?_cons_zero, List.getElem?_cons_succ, List.set_cons_zero, List.set_cons_succ, Option.map_some, List.map_cons, List.map_nil, u_lowest_1]
  exact ⟨dv_gc (by omega) (by omega), dv_gc (by omega) (by omega), by simp, hR⟩
theorem pu__law_lowest : Pure N__law_lowest.length 2 t__law_lowest p__law_lowest := by
  rintro ds R er ⟨u, d, rfl, h, h2, hR⟩
  refine ⟨rfl, ?_⟩
  show t__law_lowest [some (.d (.int u)), some (.d (.int d)), none] _ er
  simp only [gRepT, dEnum, dOwnIx, dZip, gMin1, dDic0, gRep, gIn, gMax1, dBreak, dContinue, dRet, dRetN, dAnd, dOr, dNot, dB, dCall, dCallK, dCons, dVar, dC, dNil, dDrw, allD, dVal, dtAnd, dtOr, dtNot, dTru, dIf, dBin, dUn, dChain, dTup, dLst, dLstN, dSl, dNo, dPart, gSl, dSeqS, dNext, dIfS, dSet, dSetOwn, dFreeze, frz, dDrop, dPar, dPar3, dAsg, dgTup, dgCons, dgNil, dgName, dAppend, dRaiseF, dRaise0, dDrwI, dDrwC, dDrwPop, dDrwSet, dKeep, dLam, dMk, dFld, dFz, dSeq, noOwn, gAdd, DL.gSub, gMul, gDiv, gMod, gPow, gNeg, gLt, gLe, gGt, gGe, gEq, gNe, gIx, gIs, gIsNot, gLen, gAbs, gInt, gStr, gMin2, gMax2, gList, gTuple, gAll, gAny, gSum, gRepr, truD, DL.isNon, List.getElem?_cons_zero, List.getElem?_cons_succ, List.set_cons_zero, List.set_cons_succ, Option.map_some, List.map_cons, List.map_nil, t__law_lowest]
  refine ⟨_, _, rfl, ?_⟩
  simp only [gRepT, dEnum, dOwnIx, dZip, gMin1, dDic0, gRep, gIn, gMax1, dBreak, dContinue, dRet, dRetN, dAnd, dOr, dNot, dB, dCall, dCallK, dCons, dVar, dC, dNil, dDrw, allD, dVal, dtAnd, dtOr, dtNot, dTru, dIf, dBin, dUn, dChain, dTup, dLst, dLstN, dSl, dNo, dPart, gSl, dSeqS, dNext, dIfS, dSet, dSetOwn, dFreeze, frz, dDrop, dPar, dPar3, dAsg, dgTup, dgCons, dgNil, dgName, dAppend, dRaiseF, dRaise0, dDrwI, dDrwC, dDrwPop, dDrwSet, dKeep, dLam, dMk, dFld, dFz, dSeq, noOwn, gAdd, DL.gSub, gMul, gDiv, gMod, gPow, gNeg, gLt, gLe, gGt, gGe, gEq, gNe, gIx, gIs, gIsNot, gLen, gAbs, gInt, gStr, gMin2, gMax2, gList, gTuple, gAll, gAny, gSum, gRepr, truD, DL.isNon, List.getElem?_cons_zero, List.getElem?_cons_succ, List.set_cons_zero, List.set_cons_succ, Option.map_some, List.map_cons, List.map_nil, u__law_lowest_1]
  exact ⟨dv_gc (by omega) (by omega), dv_gc (by omega) (by omega), by simp, hR⟩
theorem at2_0 {a b : D} : atI [a, b] 0 = some a := rfl
theorem at2_1 {a b : D} : atI [a, b] 1 = some b := rfl
/-- the greatest so far -/
def OT (F : Nat → Nat → Int) (P : Nat → Nat → Prop) (n : Nat) (d : D) : Prop := (d = .non ∧ ∀ l i, ¬ P l i) ∨ ∃ u v : Int, d = .tup [.int u, .int v] ∧ v ≤ n ∧ Top F P u v
def OB (F : Nat → Nat → Int) (P : Nat → Nat → Prop) (n : Nat) (d : D) : Prop := (d = .non ∧ ∀ l i, ¬ P l i) ∨ ∃ r s : Int, d = .tup [.int r, .int s] ∧ s ≤ n ∧ Top F P (-r) s
section
variable {E : DEnds} {er : Er → Prop} {ws : List Int} {P Q P' : Nat → Nat → Prop}
abbrev orE (ws : List Int) (x2 x3 x4 x5 x6 x7 : Option DV) : DEnv := [some (.d (wd ws)), some (.d (sumsD ws)), x2, x3, x4, x5, x6, x7]
theorem or12 {x5 : Option DV} {x6 x7 l : Int} {lo hi : D} (n5 : ws.length ≤ 500) (e : ∀ l i, P' l i ↔ P l i ∨ Q l i) (h2 : OT (up ws) P ws.length lo) (h3 : OB (dn ws) P ws.length hi) (hl : l ≤ ws.length)
    (q2 : Top (up ws) Q x6 l) (q3 : Top (dn ws) Q (-x7) l) (hn : ∀ lo' hi', OT (up ws) P' ws.length lo' → OB (dn ws) P' ws.length hi' → E.nx (orE ws (some (.d lo')) (some (.d hi')) (some (.d (.int l))) x5 (some (.d (.int x6))) (some (.d (.int x7))))) :
    u_open_rates_2 (orE ws (some (.d lo)) (some (.d hi)) (some (.d (.int l))) x5 (some (.d (.int x6))) (some (.d (.int x7)))) E er := by
  have l1 := q2.v1
  have k3 : ∀ lo', OT (up ws) P' ws.length lo' → u_open_rates_1 (orE ws (some (.d lo')) (some (.d hi)) (some (.d (.int l))) x5 (some (.d (.int x6))) (some (.d (.int x7)))) E er := fun lo' hlo => by
    simp only [gRepT, dEnum, dOwnIx, dZip, gMin1, dDic0, gRep, gIn, gMax1, dBreak, dContinue, dRet, dRetN, dAnd, dOr, dNot, dB, dCall, dCallK, dCons, dVar, dC, dNil, dDrw, allD, dVal, dtAnd, dtOr, dtNot, dTru, dIf, dBin, dUn, dChain, dTup, dLst, dLstN, dSl, dNo, dPart, gSl, dSeqS, dNext, dIfS, dSet, dSetOwn, dFreeze, frz, dDrop, dPar, dPar3, dAsg, dgTup, dgCons, dgNil, dgName, dAppend, dRaiseF, dRaise0, dDrwI, dDrwC, dDrwPop, dDrwSet, dKeep, dLam, dMk, dFld, dFz, dSeq, noOwn, gAdd, DL.gSub, gMul, gDiv, gMod, gPow, gNeg, gLt, gLe, gGt, gGe, gEq, gNe, gIx, gIs, gIsNot, gLen, gAbs, gInt, gStr, gMin2, gMax2, gList, gTuple, gAll, gAny, gSum, gRepr, truD, DL.isNon, List.getElem?_cons_zero, List.getElem?_cons_succ, List.set_cons_zero, List.set_cons_succ, Option.map_some, List.map_cons, List.map_nil, u_open_rates_1]
    rcases h3 with ⟨rfl, no⟩ | ⟨r, s, rfl, sn, t3⟩
    · exact ⟨by simp, hn _ _ hlo (.inr ⟨_, _, rfl, hl, top_none no q3 e⟩)⟩
    · have s1 := t3.v1
      simp only [gRepT, dEnum, dOwnIx, dZip, gMin1, dDic0, gRep, gIn, gMax1, dBreak, dContinue, dRet, dRetN, dAnd, dOr, dNot, dB, dCall, dCallK, dCons, dVar, dC, dNil, dDrw, allD, dVal, dtAnd, dtOr, dtNot, dTru, dIf, dBin, dUn, dChain, dTup, dLst, dLstN, dSl, dNo, dPart, gSl, dSeqS, dNext, dIfS, dSet, dSetOwn, dFreeze, frz, dDrop, dPar, dPar3, dAsg, dgTup, dgCons, dgNil, dgName, dAppend, dRaiseF, dRaise0, dDrwI, dDrwC, dDrwPop, dDrwSet, dKeep, dLam, dMk, dFld, dFz, dSeq, noOwn, gAdd, DL.gSub, gMul, gDiv, gMod, gPow, gNeg, gLt, gLe, gGt, gGe, gEq, gNe, gIx, gIs, gIsNot, gLen, gAbs, gInt, gStr, gMin2, gMax2, gList, gTuple, gAll, gAny, gSum, gRepr, truD, DL.isNon, List.getElem?_cons_zero, List.getElem?_cons_succ, List.set_cons_zero, List.set_cons_succ, Option.map_some, List.map_cons, List.map_nil, at2_0, at2_1]
      show MulOk x7 s ∧ MulOk r l ∧ _
      refine ⟨mulOk_r (by omega), mulOk_r (by omega), ?_⟩
      by_cases z : x7 * s < r * l
      · rw [decide_eq_true z]
        refine ⟨by simp, hn _ _ hlo (.inr ⟨_, _, rfl, hl, top_new t3 q3 e ?_⟩)⟩
        rw [Int.neg_mul, Int.neg_mul]
        omega
      · rw [decide_eq_false z]
        refine hn _ _ hlo (.inr ⟨_, _, rfl, sn, top_old t3 q3 e ?_⟩)
        rw [Int.neg_mul, Int.neg_mul]
        omega
  simp only [gRepT, dEnum, dOwnIx, dZip, gMin1, dDic0, gRep, gIn, gMax1, dBreak, dContinue, dRet, dRetN, dAnd, dOr, dNot, dB, dCall, dCallK, dCons, dVar, dC, dNil, dDrw, allD, dVal, dtAnd, dtOr, dtNot, dTru, dIf, dBin, dUn, dChain, dTup, dLst, dLstN, dSl, dNo, dPart, gSl, dSeqS, dNext, dIfS, dSet, dSetOwn, dFreeze, frz, dDrop, dPar, dPar3, dAsg, dgTup, dgCons, dgNil, dgName, dAppend, dRaiseF, dRaise0, dDrwI, dDrwC, dDrwPop, dDrwSet, dKeep, dLam, dMk, dFld, dFz, dSeq, noOwn, gAdd, DL.gSub, gMul, gDiv, gMod, gPow, gNeg, gLt, gLe, gGt, gGe, gEq, gNe, gIx, gIs, gIsNot, gLen, gAbs, gInt, gStr, gMin2, gMax2, gList, gTuple, gAll, gAny, gSum, gRepr, truD, DL.isNon, List.getElem?_cons_zero, List.getElem?_cons_succ, List.set_cons_zero, List.set_cons_succ, Option.map_some, List.map_cons, List.map_nil, u_open_rates_2]
  rcases h2 with ⟨rfl, no⟩ | ⟨u, v, rfl, vn, t2⟩
  · exact ⟨by simp, k3 _ (.inr ⟨_, _, rfl, hl, top_none no q2 e⟩)⟩
  · have v1 := t2.v1
    simp only [gRepT, dEnum, dOwnIx, dZip, gMin1, dDic0, gRep, gIn, gMax1, dBreak, dContinue, dRet, dRetN, dAnd, dOr, dNot, dB, dCall, dCallK, dCons, dVar, dC, dNil, dDrw, allD, dVal, dtAnd, dtOr, dtNot, dTru, dIf, dBin, dUn, dChain, dTup, dLst, dLstN, dSl, dNo, dPart, gSl, dSeqS, dNext, dIfS, dSet, dSetOwn, dFreeze, frz, dDrop, dPar, dPar3, dAsg, dgTup, dgCons, dgNil, dgName, dAppend, dRaiseF, dRaise0, dDrwI, dDrwC, dDrwPop, dDrwSet, dKeep, dLam, dMk, dFld, dFz, dSeq, noOwn, gAdd, DL.gSub, gMul, gDiv, gMod, gPow, gNeg, gLt, gLe, gGt, gGe, gEq, gNe, gIx, gIs, gIsNot, gLen, gAbs, gInt, gStr, gMin2, gMax2, gList, gTuple, gAll, gAny, gSum, gRepr, truD, DL.isNon, List.getElem?_cons_zero, List.getElem?_cons_succ, List.set_cons_zero, List.set_cons_succ, Option.map_some, List.map_cons, List.map_nil, at2_0, at2_1]
    show MulOk x6 v ∧ MulOk u l ∧ _
    refine ⟨mulOk_r (by omega), mulOk_r (by omega), ?_⟩
    by_cases z : u * l < x6 * v
    · rw [decide_eq_true z]
      exact ⟨by simp, k3 _ (.inr ⟨_, _, rfl, hl, top_new t2 q2 e z⟩)⟩
    · rw [decide_eq_false z]
      exact k3 _ (.inr ⟨_, _, rfl, vn, top_old t2 q2 e z⟩)
theorem or5 {lo hi : D} {x4 x5 x6 x7 : Option DV} (n1 : 1 ≤ ws.length) (n5 : ws.length ≤ 500) (h2 : OT (up ws) (In ws.length) ws.length lo) (h3 : OB (dn ws) (In ws.length) ws.length hi) (hR : ∀ d, Rt ws d → E.rt d) :
    u_open_rates_5 (orE ws (some (.d lo)) (some (.d hi)) x4 x5 x6 x7) E er := by
  have i0 : In ws.length 1 0 := ⟨Nat.le_refl _, by omega⟩
  rcases h2 with ⟨rfl, no⟩ | ⟨u, v, rfl, vn, t2⟩
  · exact absurd i0 (no 1 0)
  rcases h3 with ⟨rfl, no⟩ | ⟨r, s, rfl, sn, t3⟩
  · exact absurd i0 (no 1 0)
  have v1 := t2.v1
  have s1 := t3.v1
  simp only [gRepT, dEnum, dOwnIx, dZip, gMin1, dDic0, gRep, gIn, gMax1, dBreak, dContinue, dRet, dRetN, dAnd, dOr, dNot, dB, dCall, dCallK, dCons, dVar, dC, dNil, dDrw, allD, dVal, dtAnd, dtOr, dtNot, dTru, dIf, dBin, dUn, dChain, dTup, dLst, dLstN, dSl, dNo, dPart, gSl, dSeqS, dNext, dIfS, dSet, dSetOwn, dFreeze, frz, dDrop, dPar, dPar3, dAsg, dgTup, dgCons, dgNil, dgName, dAppend, dRaiseF, dRaise0, dDrwI, dDrwC, dDrwPop, dDrwSet, dKeep, dLam, dMk, dFld, dFz, dSeq, noOwn, gAdd, DL.gSub, gMul, gDiv, gMod, gPow, gNeg, gLt, gLe, gGt, gGe, gEq, gNe, gIx, gIs, gIsNot, gLen, gAbs, gInt, gStr, gMin2, gMax2, gList, gTuple, gAll, gAny, gSum, gRepr, truD, DL.isNon, List.getElem?_cons_zero, List.getElem?_cons_succ, List.set_cons_zero, List.set_cons_succ, Option.map_some, List.map_cons, List.map_nil, u_open_rates_5, at2_0, at2_1]
  show MulOk u s ∧ MulOk r v ∧ _
  refine ⟨mulOk_r (by omega), mulOk_r (by omega), ?_⟩
  by_cases z : u * s < r * v
  · rw [decide_eq_true z]
    exact ⟨u, v, rfl, v1, by omega, r, s, rfl, s1, by omega, by simp, hR _ ⟨u, v, r, s, t2, t3, .inl ⟨z, rfl⟩⟩⟩
  · rw [decide_eq_false z]
    exact hR _ ⟨u, v, r, s, t2, t3, .inr ⟨z, rfl⟩⟩
end
theorem pu_open_rates : Pure N_open_rates.length 1 t_open_rates p_open_rates := by
  rintro ds R er ⟨ws, rfl, h, hne, hR⟩
  refine ⟨rfl, ?_⟩
  have w5 := h.l
  have n1 : 1 ≤ ws.length := by
    cases ws with
    | nil => exact absurd rfl hne
    | cons x l => rw [List.length_cons]; omega
  show t_open_rates [some (.d (wd ws)), none, none, none, none, none, none, none] _ er
  simp only [gRepT, dEnum, dOwnIx, dZip, gMin1, dDic0, gRep, gIn, gMax1, dBreak, dContinue, dRet, dRetN, dAnd, dOr, dNot, dB, dCall, dCallK, dCons, dVar, dC, dNil, dDrw, allD, dVal, dtAnd, dtOr, dtNot, dTru, dIf, dBin, dUn, dChain, dTup, dLst, dLstN, dSl, dNo, dPart, gSl, dSeqS, dNext, dIfS, dSet, dSetOwn, dFreeze, frz, dDrop, dPar, dPar3, dAsg, dgTup, dgCons, dgNil, dgName, dAppend, dRaiseF, dRaise0, dDrwI, dDrwC, dDrwPop, dDrwSet, dKeep, dLam, dMk, dFld, dFz, dSeq, noOwn, gAdd, DL.gSub, gMul, gDiv, gMod, gPow, gNeg, gLt, gLe, gGt, gGe, gEq, gNe, gIx, gIs, gIsNot, gLen, gAbs, gInt, gStr, gMin2, gMax2, gList, gTuple, gAll, gAny, gSum, gRepr, truD, DL.isNon, List.getElem?_cons_zero, List.getElem?_cons_succ, List.set_cons_zero, List.set_cons_succ, Option.map_some, List.map_cons, List.map_nil, t_open_rates]
  refine ⟨ws, rfl, h, ?_⟩
  have wl : (ws.map D.int).length = ws.length := List.length_map ..
  simp only [gRepT, dEnum, dOwnIx, dZip, gMin1, dDic0, gRep, gIn, gMax1, dBreak, dContinue, dRet, dRetN, dAnd, dOr, dNot, dB, dCall, dCallK, dCons, dVar, dC, dNil, dDrw, allD, dVal, dtAnd, dtOr, dtNot, dTru, dIf, dBin, dUn, dChain, dTup, dLst, dLstN, dSl, dNo, dPart, gSl, dSeqS, dNext, dIfS, dSet, dSetOwn, dFreeze, frz, dDrop, dPar, dPar3, dAsg, dgTup, dgCons, dgNil, dgName, dAppend, dRaiseF, dRaise0, dDrwI, dDrwC, dDrwPop, dDrwSet, dKeep, dLam, dMk, dFld, dFz, dSeq, noOwn, gAdd, DL.gSub, gMul, gDiv, gMod, gPow, gNeg, gLt, gLe, gGt, gGe, gEq, gNe, gIx, gIs, gIsNot, gLen, gAbs, gInt, gStr, gMin2, gMax2, gList, gTuple, gAll, gAny, gSum, gRepr, truD, DL.isNon, List.getElem?_cons_zero, List.getElem?_cons_succ, List.set_cons_zero, List.set_cons_succ, Option.map_some, List.map_cons, List.map_nil, u_open_rates_6, dFor, dRng2]
  rw [wl]
  refine ⟨⟨by decide, by decide⟩, ⟨by omega, by omega⟩, fun k ρ => ∃ lo hi y4 y5 y6 y7, OT (up ws) (fun l i => In ws.length l i ∧ l ≤ k) ws.length lo ∧ OB (dn ws) (fun l i => In ws.length l i ∧ l ≤ k) ws.length hi ∧ ρ = orE ws (some (.d lo)) (some (.d hi)) y4 y5 y6 y7, ⟨.non, .non, _, _, _, _, .inl ⟨rfl, fun l i a => by have := a.1.1; omega⟩, .inl ⟨rfl, fun l i a => by have := a.1.1; omega⟩, rfl⟩, ?_, ?_⟩
  · rintro k dd ρ hd ⟨lo, hi, y4, y5, y6, y7, h2, h3, rfl⟩
    have tn := (List.getElem?_eq_some_iff.mp hd).1
    have tn : k < ((ws.length : Int) + 1 - 1).toNat := by simpa [rngD] using tn
    rw [rngD_get tn] at hd
    cases hd
    rw [show (1 : Int) + (k : Int) = ((k + 1 : Nat) : Int) by omega]
    simp only [gRepT, dEnum, dOwnIx, dZip, gMin1, dDic0, gRep, gIn, gMax1, dBreak, dContinue, dRet, dRetN, dAnd, dOr, dNot, dB, dCall, dCallK, dCons, dVar, dC, dNil, dDrw, allD, dVal, dtAnd, dtOr, dtNot, dTru, dIf, dBin, dUn, dChain, dTup, dLst, dLstN, dSl, dNo, dPart, gSl, dSeqS, dNext, dIfS, dSet, dSetOwn, dFreeze, frz, dDrop, dPar, dPar3, dAsg, dgTup, dgCons, dgNil, dgName, dAppend, dRaiseF, dRaise0, dDrwI, dDrwC, dDrwPop, dDrwSet, dKeep, dLam, dMk, dFld, dFz, dSeq, noOwn, gAdd, DL.gSub, gMul, gDiv, gMod, gPow, gNeg, gLt, gLe, gGt, gGe, gEq, gNe, gIx, gIs, gIsNot, gLen, gAbs, gInt, gStr, gMin2, gMax2, gList, gTuple, gAll, gAny, gSum, gRepr, truD, DL.isNon, List.getElem?_cons_zero, List.getElem?_cons_succ, List.set_cons_zero, List.set_cons_succ, Option.map_some, List.map_cons, List.map_nil, w_open_rates_4]
    refine ⟨ws, k + 1, rfl, w5, by omega, ?_⟩
    have ne : 0 < ((List.range (ws.length + 1 - (k + 1))).map fun i => gap ws (k + 1) i).length := by
      rw [List.length_map, List.length_range]
      omega
    have gi : (List.range (ws.length + 1 - (k + 1))).map (fun i => D.int (gap ws (k + 1) i)) = ((List.range (ws.length + 1 - (k + 1))).map fun i => gap ws (k + 1) i).map D.int := by
      rw [List.map_map]
      rfl
    simp only [gRepT, dEnum, dOwnIx, dZip, gMin1, dDic0, gRep, gIn, gMax1, dBreak, dContinue, dRet, dRetN, dAnd, dOr, dNot, dB, dCall, dCallK, dCons, dVar, dC, dNil, dDrw, allD, dVal, dtAnd, dtOr, dtNot, dTru, dIf, dBin, dUn, dChain, dTup, dLst, dLstN, dSl, dNo, dPart, gSl, dSeqS, dNext, dIfS, dSet, dSetOwn, dFreeze, frz, dDrop, dPar, dPar3, dAsg, dgTup, dgCons, dgNil, dgName, dAppend, dRaiseF, dRaise0, dDrwI, dDrwC, dDrwPop, dDrwSet, dKeep, dLam, dMk, dFld, dFz, dSeq, noOwn, gAdd, DL.gSub, gMul, gDiv, gMod, gPow, gNeg, gLt, gLe, gGt, gGe, gEq, gNe, gIx, gIs, gIsNot, gLen, gAbs, gInt, gStr, gMin2, gMax2, gList, gTuple, gAll, gAny, gSum, gRepr, truD, DL.isNon, List.getElem?_cons_zero, List.getElem?_cons_succ, List.set_cons_zero, List.set_cons_succ, Option.map_some, List.map_cons, List.map_nil, u_open_rates_3]
    show match inD ((List.range (ws.length + 1 - (k + 1))).map fun i => D.int (gap ws (k + 1) i)) with | some bs => _ | none => False
    rw [gi, inD_ints]
    refine ⟨ne, fun M M1 M2 => ?_⟩
    refine ⟨ne, fun m m1 m2 => ?_⟩
    have e : ∀ l i, (In ws.length l i ∧ l ≤ k + 1) ↔ (In ws.length l i ∧ l ≤ k) ∨ (l = k + 1 ∧ i + (k + 1) ≤ ws.length) := fun l i => by
      unfold In
      omega
    refine or12 (Q := fun l i => l = k + 1 ∧ i + (k + 1) ≤ ws.length) (P := fun l i => In ws.length l i ∧ l ≤ k) (P' := fun l i => In ws.length l i ∧ l ≤ k + 1) w5 e h2 h3 (by omega) ?_ ?_ ?_
    · refine ⟨by omega, ?_, ?_⟩
      · obtain ⟨i, hi, rfl⟩ := List.mem_map.mp M1
        have hi := List.mem_range.mp hi
        exact ⟨k + 1, i, ⟨rfl, by omega⟩, rfl, rfl⟩
      · rintro l i ⟨rfl, hi⟩
        have := M2 _ (List.mem_map.mpr ⟨i, List.mem_range.mpr (show i < ws.length + 1 - (k + 1) by omega), rfl⟩)
        exact Int.mul_le_mul_of_nonneg_right (show gap ws (k + 1) i - 1 ≤ M - 1 by omega) (by omega)
    · refine ⟨by omega, ?_, ?_⟩
      · obtain ⟨i, hi, rfl⟩ := List.mem_map.mp m1
        have hi := List.mem_range.mp hi
        exact ⟨k + 1, i, ⟨rfl, by omega⟩, rfl, rfl⟩
      · rintro l i ⟨rfl, hi⟩
        have := m2 _ (List.mem_map.mpr ⟨i, List.mem_range.mpr (show i < ws.length + 1 - (k + 1) by omega), rfl⟩)
        exact Int.mul_le_mul_of_nonneg_right (show -(gap ws (k + 1) i + 1) ≤ -(m + 1) by omega) (by omega)
    · intro lo' hi' a b
      exact ⟨lo', hi', _, _, _, _, a, b, rfl⟩
  · rintro ρ ⟨lo, hi, y4, y5, y6, y7, h2, h3, rfl⟩
    have tl : (rngD 1 ((ws.length : Int) + 1 - 1).toNat).length = ws.length := by
      unfold rngD
      rw [List.length_map, List.length_range]
      omega
    rw [tl] at h2 h3
    have e : (fun l i => In ws.length l i ∧ l ≤ ws.length) = In ws.length := by
      funext l i
      unfold In
      exact propext ⟨fun a => a.1, fun a => ⟨a, by omega⟩⟩
    rw [e] at h2 h3
    exact or5 n1 w5 h2 h3 hR
theorem pu_slopes : Pure N_slopes.length 1 t_slopes p_slopes := by
  rintro ds R er ⟨x, rfl, hx, h⟩
  refine ⟨rfl, ?_⟩
  show t_slopes [some (.d x)] _ er
  simp only [gRepT, dEnum, dOwnIx, dZip, gMin1, dDic0, gRep, gIn, gMax1, dBreak, dContinue, dRet, dRetN, dAnd, dOr, dNot, dB, dCall, dCallK, dCons, dVar, dC, dNil, dDrw, allD, dVal, dtAnd, dtOr, dtNot, dTru, dIf, dBin, dUn, dChain, dTup, dLst, dLstN, dSl, dNo, dPart, gSl, dSeqS, dNext, dIfS, dSet, dSetOwn, dFreeze, frz, dDrop, dPar, dPar3, dAsg, dgTup, dgCons, dgNil, dgName, dAppend, dRaiseF, dRaise0, dDrwI, dDrwC, dDrwPop, dDrwSet, dKeep, dLam, dMk, dFld, dFz, dSeq, noOwn, gAdd, DL.gSub, gMul, gDiv, gMod, gPow, gNeg, gLt, gLe, gGt, gGe, gEq, gNe, gIx, gIs, gIsNot, gLen, gAbs, gInt, gStr, gMin2, gMax2, gList, gTuple, gAll, gAny, gSum, gRepr, truD, DL.isNon, List.getElem?_cons_zero, List.getElem?_cons_succ, List.set_cons_zero, List.set_cons_succ, Option.map_some, List.map_cons, List.map_nil, t_slopes]
  rcases h with ⟨e, hE⟩ | ⟨ws, rfl, hw, h⟩
  · exact ⟨x, rfl, hx, fun e' => (by rw [e] at e'; cases e'), fun _ => hE⟩
  · refine ⟨_, rfl, hx, fun _ => ?_, fun e => by rw [isW_wd hw] at e; cases e⟩
    simp only [gRepT, dEnum, dOwnIx, dZip, gMin1, dDic0, gRep, gIn, gMax1, dBreak, dContinue, dRet, dRetN, dAnd, dOr, dNot, dB, dCall, dCallK, dCons, dVar, dC, dNil, dDrw, allD, dVal, dtAnd, dtOr, dtNot, dTru, dIf, dBin, dUn, dChain, dTup, dLst, dLstN, dSl, dNo, dPart, gSl, dSeqS, dNext, dIfS, dSet, dSetOwn, dFreeze, frz, dDrop, dPar, dPar3, dAsg, dgTup, dgCons, dgNil, dgName, dAppend, dRaiseF, dRaise0, dDrwI, dDrwC, dDrwPop, dDrwSet, dKeep, dLam, dMk, dFld, dFz, dSeq, noOwn, gAdd, DL.gSub, gMul, gDiv, gMod, gPow, gNeg, gLt, gLe, gGt, gGe, gEq, gNe, gIx, gIs, gIsNot, gLen, gAbs, gInt, gStr, gMin2, gMax2, gList, gTuple, gAll, gAny, gSum, gRepr, truD, DL.isNon, List.getElem?_cons_zero, List.getElem?_cons_succ, List.set_cons_zero, List.set_cons_succ, Option.map_some, List.map_cons, List.map_nil, u_slopes_1]
    refine ⟨by simp, .inr ((lay_ints (ws := ws)).eq (lay_tup (n := 0) (ds := []) fun d hd => by cases hd) (by decide) (by decide)), ?_⟩
    rw [tup_nil]
    rcases h with ⟨rfl, hR⟩ | ⟨hne, hR⟩
    · exact ⟨by simp, hR⟩
    · have : (ws.map D.int).isEmpty = false := by
        cases ws with
        | nil => exact absurd rfl hne
        | cons x l => rfl
      rw [this]
      exact ⟨ws, rfl, hw, hne, hR⟩
/-! the law's own -/
section
variable {E : DEnds} {er : Er → Prop} {ws : List Int} {P Q P' : Nat → Nat → Prop}
theorem lr12 {x4 x5 : Option DV} {t l : Int} {lo hi : D} (n5 : ws.length ≤ 500) (e : ∀ l i, P' l i ↔ P l i ∨ Q l i) (h2 : OT (up ws) P ws.length lo) (h3 : OB (dn ws) P ws.length hi) (hl : l ≤ ws.length)
    (q2 : Top (up ws) Q (t - 1) l) (q3 : Top (dn ws) Q (-(t + 1)) l) (hn : ∀ lo' hi', OT (up ws) P' ws.length lo' → OB (dn ws) P' ws.length hi' → E.nx (orE ws (some (.d lo')) (some (.d hi')) x4 x5 (some (.d (.int t))) (some (.d (.int l))))) :
    u__law_rates_2 (orE ws (some (.d lo)) (some (.d hi)) x4 x5 (some (.d (.int t))) (some (.d (.int l)))) E er := by
  have l1 := q2.v1
  have k3 : ∀ lo', OT (up ws) P' ws.length lo' → u__law_rates_1 (orE ws (some (.d lo')) (some (.d hi)) x4 x5 (some (.d (.int t))) (some (.d (.int l)))) E er := fun lo' hlo => by
    simp only [gRepT, dEnum, dOwnIx, dZip, gMin1, dDic0, gRep, gIn, gMax1, dBreak, dContinue, dRet, dRetN, dAnd, dOr, dNot, dB, dCall, dCallK, dCons, dVar, dC, dNil, dDrw, allD, dVal, dtAnd, dtOr, dtNot, dTru, dIf, dBin, dUn, dChain, dTup, dLst, dLstN, dSl, dNo, dPart, gSl, dSeqS, dNext, dIfS, dSet, dSetOwn, dFreeze, frz, dDrop, dPar, dPar3, dAsg, dgTup, dgCons, dgNil, dgName, dAppend, dRaiseF, dRaise0, dDrwI, dDrwC, dDrwPop, dDrwSet, dKeep, dLam, dMk, dFld, dFz, dSeq, noOwn, gAdd, DL.gSub, gMul, gDiv, gMod, gPow, gNeg, gLt, gLe, gGt, gGe, gEq, gNe, gIx, gIs, gIsNot, gLen, gAbs, gInt, gStr, gMin2, gMax2, gList, gTuple, gAll, gAny, gSum, gRepr, truD, DL.isNon, List.getElem?_cons_zero, List.getElem?_cons_succ, List.set_cons_zero, List.set_cons_succ, Option.map_some, List.map_cons, List.map_nil, u__law_rates_1]
    rcases h3 with ⟨rfl, no⟩ | ⟨r, s, rfl, sn, t3⟩
    · exact ⟨by simp, hn _ _ hlo (.inr ⟨_, _, rfl, hl, top_none no q3 e⟩)⟩
    · have s1 := t3.v1
      simp only [gRepT, dEnum, dOwnIx, dZip, gMin1, dDic0, gRep, gIn, gMax1, dBreak, dContinue, dRet, dRetN, dAnd, dOr, dNot, dB, dCall, dCallK, dCons, dVar, dC, dNil, dDrw, allD, dVal, dtAnd, dtOr, dtNot, dTru, dIf, dBin, dUn, dChain, dTup, dLst, dLstN, dSl, dNo, dPart, gSl, dSeqS, dNext, dIfS, dSet, dSetOwn, dFreeze, frz, dDrop, dPar, dPar3, dAsg, dgTup, dgCons, dgNil, dgName, dAppend, dRaiseF, dRaise0, dDrwI, dDrwC, dDrwPop, dDrwSet, dKeep, dLam, dMk, dFld, dFz, dSeq, noOwn, gAdd, DL.gSub, gMul, gDiv, gMod, gPow, gNeg, gLt, gLe, gGt, gGe, gEq, gNe, gIx, gIs, gIsNot, gLen, gAbs, gInt, gStr, gMin2, gMax2, gList, gTuple, gAll, gAny, gSum, gRepr, truD, DL.isNon, List.getElem?_cons_zero, List.getElem?_cons_succ, List.set_cons_zero, List.set_cons_succ, Option.map_some, List.map_cons, List.map_nil, at2_0, at2_1]
      show DL.MulOk (t + 1) s ∧ DL.MulOk r l ∧ _
      refine ⟨mulOk_r (by omega), mulOk_r (by omega), ?_⟩
      by_cases z : (t + 1) * s < r * l
      · rw [decide_eq_true z]
        refine ⟨by simp, hn _ _ hlo (.inr ⟨_, _, rfl, hl, top_new t3 q3 e ?_⟩)⟩
        rw [Int.neg_mul, Int.neg_mul]
        omega
      · rw [decide_eq_false z]
        refine hn _ _ hlo (.inr ⟨_, _, rfl, sn, top_old t3 q3 e ?_⟩)
        rw [Int.neg_mul, Int.neg_mul]
        omega
  simp only [gRepT, dEnum, dOwnIx, dZip, gMin1, dDic0, gRep, gIn, gMax1, dBreak, dContinue, dRet, dRetN, dAnd, dOr, dNot, dB, dCall, dCallK, dCons, dVar, dC, dNil, dDrw, allD, dVal, dtAnd, dtOr, dtNot, dTru, dIf, dBin, dUn, dChain, dTup, dLst, dLstN, dSl, dNo, dPart, gSl, dSeqS, dNext, dIfS, dSet, dSetOwn, dFreeze, frz, dDrop, dPar, dPar3, dAsg, dgTup, dgCons, dgNil, dgName, dAppend, dRaiseF, dRaise0, dDrwI, dDrwC, dDrwPop, dDrwSet, dKeep, dLam, dMk, dFld, dFz, dSeq, noOwn, gAdd, DL.gSub, gMul, gDiv, gMod, gPow, gNeg, gLt, gLe, gGt, gGe, gEq, gNe, gIx, gIs, gIsNot, gLen, gAbs, gInt, gStr, gMin2, gMax2, gList, gTuple, gAll, gAny, gSum, gRepr, truD, DL.isNon, List.getElem?_cons_zero, List.getElem?_cons_succ, List.set_cons_zero, List.set_cons_succ, Option.map_some, List.map_cons, List.map_nil, u__law_rates_2]
  rcases h2 with ⟨rfl, no⟩ | ⟨u, v, rfl, vn, t2⟩
  · exact ⟨by simp, k3 _ (.inr ⟨_, _, rfl, hl, top_none no q2 e⟩)⟩
  · have v1 := t2.v1
    simp only [gRepT, dEnum, dOwnIx, dZip, gMin1, dDic0, gRep, gIn, gMax1, dBreak, dContinue, dRet, dRetN, dAnd, dOr, dNot, dB, dCall, dCallK, dCons, dVar, dC, dNil, dDrw, allD, dVal, dtAnd, dtOr, dtNot, dTru, dIf, dBin, dUn, dChain, dTup, dLst, dLstN, dSl, dNo, dPart, gSl, dSeqS, dNext, dIfS, dSet, dSetOwn, dFreeze, frz, dDrop, dPar, dPar3, dAsg, dgTup, dgCons, dgNil, dgName, dAppend, dRaiseF, dRaise0, dDrwI, dDrwC, dDrwPop, dDrwSet, dKeep, dLam, dMk, dFld, dFz, dSeq, noOwn, gAdd, DL.gSub, gMul, gDiv, gMod, gPow, gNeg, gLt, gLe, gGt, gGe, gEq, gNe, gIx, gIs, gIsNot, gLen, gAbs, gInt, gStr, gMin2, gMax2, gList, gTuple, gAll, gAny, gSum, gRepr, truD, DL.isNon, List.getElem?_cons_zero, List.getElem?_cons_succ, List.set_cons_zero, List.set_cons_succ, Option.map_some, List.map_cons, List.map_nil, at2_0, at2_1]
    show DL.MulOk (t - 1) v ∧ DL.MulOk u l ∧ _
    refine ⟨mulOk_r (by omega), mulOk_r (by omega), ?_⟩
    by_cases z : u * l < (t - 1) * v
    · rw [decide_eq_true z]
      exact ⟨by simp, k3 _ (.inr ⟨_, _, rfl, hl, top_new t2 q2 e z⟩)⟩
    · rw [decide_eq_false z]
      exact k3 _ (.inr ⟨_, _, rfl, vn, top_old t2 q2 e z⟩)
theorem lr6 {lo hi : D} {x4 x5 x6 x7 : Option DV} (n1 : 1 ≤ ws.length) (n5 : ws.length ≤ 500) (h2 : OT (up ws) (In ws.length) ws.length lo) (h3 : OB (dn ws) (In ws.length) ws.length hi) (hR : ∀ d, Rt ws d → E.rt d) :
    u__law_rates_6 (orE ws (some (.d lo)) (some (.d hi)) x4 x5 x6 x7) E er := by
  have i0 : In ws.length 1 0 := ⟨Nat.le_refl _, by omega⟩
  rcases h2 with ⟨rfl, no⟩ | ⟨u, v, rfl, vn, t2⟩
  · exact absurd i0 (no 1 0)
  rcases h3 with ⟨rfl, no⟩ | ⟨r, s, rfl, sn, t3⟩
  · exact absurd i0 (no 1 0)
  have v1 := t2.v1
  have s1 := t3.v1
  simp only [gRepT, dEnum, dOwnIx, dZip, gMin1, dDic0, gRep, gIn, gMax1, dBreak, dContinue, dRet, dRetN, dAnd, dOr, dNot, dB, dCall, dCallK, dCons, dVar, dC, dNil, dDrw, allD, dVal, dtAnd, dtOr, dtNot, dTru, dIf, dBin, dUn, dChain, dTup, dLst, dLstN, dSl, dNo, dPart, gSl, dSeqS, dNext, dIfS, dSet, dSetOwn, dFreeze, frz, dDrop, dPar, dPar3, dAsg, dgTup, dgCons, dgNil, dgName, dAppend, dRaiseF, dRaise0, dDrwI, dDrwC, dDrwPop, dDrwSet, dKeep, dLam, dMk, dFld, dFz, dSeq, noOwn, gAdd, DL.gSub, gMul, gDiv, gMod, gPow, gNeg, gLt, gLe, gGt, gGe, gEq, gNe, gIx, gIs, gIsNot, gLen, gAbs, gInt, gStr, gMin2, gMax2, gList, gTuple, gAll, gAny, gSum, gRepr, truD, DL.isNon, List.getElem?_cons_zero, List.getElem?_cons_succ, List.set_cons_zero, List.set_cons_succ, Option.map_some, List.map_cons, List.map_nil, u__law_rates_6, at2_0, at2_1]
  show MulOk u s ∧ MulOk r v ∧ _
  refine ⟨mulOk_r (by omega), mulOk_r (by omega), ?_⟩
  by_cases z : u * s < r * v
  · rw [decide_eq_false (by omega)]
    simp only [gRepT, dEnum, dOwnIx, dZip, gMin1, dDic0, gRep, gIn, gMax1, dBreak, dContinue, dRet, dRetN, dAnd, dOr, dNot, dB, dCall, dCallK, dCons, dVar, dC, dNil, dDrw, allD, dVal, dtAnd, dtOr, dtNot, dTru, dIf, dBin, dUn, dChain, dTup, dLst, dLstN, dSl, dNo, dPart, gSl, dSeqS, dNext, dIfS, dSet, dSetOwn, dFreeze, frz, dDrop, dPar, dPar3, dAsg, dgTup, dgCons, dgNil, dgName, dAppend, dRaiseF, dRaise0, dDrwI, dDrwC, dDrwPop, dDrwSet, dKeep, dLam, dMk, dFld, dFz, dSeq, noOwn, gAdd, DL.gSub, gMul, gDiv, gMod, gPow, gNeg, gLt, gLe, gGt, gGe, gEq, gNe, gIx, gIs, gIsNot, gLen, gAbs, gInt, gStr, gMin2, gMax2, gList, gTuple, gAll, gAny, gSum, gRepr, truD, DL.isNon, List.getElem?_cons_zero, List.getElem?_cons_succ, List.set_cons_zero, List.set_cons_succ, Option.map_some, List.map_cons, List.map_nil, u__law_rates_5, at2_0, at2_1]
    exact ⟨u, v, rfl, v1, by omega, r, s, rfl, s1, by omega, by simp, hR _ ⟨u, v, r, s, t2, t3, .inl ⟨z, rfl⟩⟩⟩
  · rw [decide_eq_true (by omega)]
    exact hR _ ⟨u, v, r, s, t2, t3, .inr ⟨z, rfl⟩⟩
theorem lr4 {k : Nat} {lo hi : D} {x5 x6 x7 : Option DV} (n5 : ws.length ≤ 500) (hk : k < ws.length) (h2 : OT (up ws) (fun l i => In ws.length l i ∧ i < k) ws.length lo) (h3 : OB (dn ws) (fun l i => In ws.length l i ∧ i < k) ws.length hi)
    (hn : ∀ lo' hi' y5 y6 y7, OT (up ws) (fun l i => In ws.length l i ∧ i < k + 1) ws.length lo' → OB (dn ws) (fun l i => In ws.length l i ∧ i < k + 1) ws.length hi' → E.nx (orE ws (some (.d lo')) (some (.d hi')) (some (.d (.int k))) y5 y6 y7)) :
    w__law_rates_4 (orE ws (some (.d lo)) (some (.d hi)) (some (.d (.int k))) x5 x6 x7) E er := by
  have wl : (ws.map D.int).length = ws.length := List.length_map ..
  simp only [gRepT, dEnum, dOwnIx, dZip, gMin1, dDic0, gRep, gIn, gMax1, dBreak, dContinue, dRet, dRetN, dAnd, dOr, dNot, dB, dCall, dCallK, dCons, dVar, dC, dNil, dDrw, allD, dVal, dtAnd, dtOr, dtNot, dTru, dIf, dBin, dUn, dChain, dTup, dLst, dLstN, dSl, dNo, dPart, gSl, dSeqS, dNext, dIfS, dSet, dSetOwn, dFreeze, frz, dDrop, dPar, dPar3, dAsg, dgTup, dgCons, dgNil, dgName, dAppend, dRaiseF, dRaise0, dDrwI, dDrwC, dDrwPop, dDrwSet, dKeep, dLam, dMk, dFld, dFz, dSeq, noOwn, gAdd, DL.gSub, gMul, gDiv, gMod, gPow, gNeg, gLt, gLe, gGt, gGe, gEq, gNe, gIx, gIs, gIsNot, gLen, gAbs, gInt, gStr, gMin2, gMax2, gList, gTuple, gAll, gAny, gSum, gRepr, truD, DL.isNon, List.getElem?_cons_zero, List.getElem?_cons_succ, List.set_cons_zero, List.set_cons_succ, Option.map_some, List.map_cons, List.map_nil, w__law_rates_4, dFor, dRng2]
  rw [wl]
  refine ⟨⟨by omega, by omega⟩, ⟨by omega, by omega⟩, fun t ρ => ∃ lo hi y5 y6 y7, OT (up ws) (fun l i => In ws.length l i ∧ (i < k ∨ (i = k ∧ l ≤ t))) ws.length lo ∧ OB (dn ws) (fun l i => In ws.length l i ∧ (i < k ∨ (i = k ∧ l ≤ t))) ws.length hi ∧ ρ = orE ws (some (.d lo)) (some (.d hi)) (some (.d (.int k))) y5 y6 y7, ⟨lo, hi, _, _, _, ?_, ?_, rfl⟩, ?_, ?_⟩
  · have e : (fun l i => In ws.length l i ∧ (i < k ∨ (i = k ∧ l ≤ 0))) = fun l i => In ws.length l i ∧ i < k := by
      funext l i
      unfold In
      exact propext (by omega)
    rw [e]
    exact h2
  · have e : (fun l i => In ws.length l i ∧ (i < k ∨ (i = k ∧ l ≤ 0))) = fun l i => In ws.length l i ∧ i < k := by
      funext l i
      unfold In
      exact propext (by omega)
    rw [e]
    exact h3
  · rintro t dd ρ hd ⟨lo, hi, y5, y6, y7, h2, h3, rfl⟩
    have tn := (List.getElem?_eq_some_iff.mp hd).1
    have tn : t < ((ws.length : Int) + 1 - ((k : Int) + 1)).toNat := by simpa [rngD] using tn
    rw [rngD_get tn] at hd
    cases hd
    have g1 : atI ((List.range (ws.length + 1)).map fun i => D.int (pf ws i)) ((k : Int) + 1 + t) = some (.int (pf ws (k + (t + 1)))) := by
      rw [at_ints (F := fun i => pf ws i) (by omega) (by omega), show ((k : Int) + 1 + t).toNat = k + (t + 1) by omega]
    have g2 : atI ((List.range (ws.length + 1)).map fun i => D.int (pf ws i)) (k : Int) = some (.int (pf ws k)) := by
      rw [at_ints (F := fun i => pf ws i) (by omega) (by omega), show ((k : Int)).toNat = k by omega]
    simp only [gRepT, dEnum, dOwnIx, dZip, gMin1, dDic0, gRep, gIn, gMax1, dBreak, dContinue, dRet, dRetN, dAnd, dOr, dNot, dB, dCall, dCallK, dCons, dVar, dC, dNil, dDrw, allD, dVal, dtAnd, dtOr, dtNot, dTru, dIf, dBin, dUn, dChain, dTup, dLst, dLstN, dSl, dNo, dPart, gSl, dSeqS, dNext, dIfS, dSet, dSetOwn, dFreeze, frz, dDrop, dPar, dPar3, dAsg, dgTup, dgCons, dgNil, dgName, dAppend, dRaiseF, dRaise0, dDrwI, dDrwC, dDrwPop, dDrwSet, dKeep, dLam, dMk, dFld, dFz, dSeq, noOwn, gAdd, DL.gSub, gMul, gDiv, gMod, gPow, gNeg, gLt, gLe, gGt, gGe, gEq, gNe, gIx, gIs, gIsNot, gLen, gAbs, gInt, gStr, gMin2, gMax2, gList, gTuple, gAll, gAny, gSum, gRepr, truD, DL.isNon, List.getElem?_cons_zero, List.getElem?_cons_succ, List.set_cons_zero, List.set_cons_succ, Option.map_some, List.map_cons, List.map_nil, w__law_rates_3, g1, g2]
    have tl : (k : Int) + 1 + t - k = ((t + 1 : Nat) : Int) := by omega
    rw [tl]
    have e : ∀ l i, (In ws.length l i ∧ (i < k ∨ (i = k ∧ l ≤ t + 1))) ↔ (In ws.length l i ∧ (i < k ∨ (i = k ∧ l ≤ t))) ∨ (l = t + 1 ∧ i = k) := fun l i => by
      unfold In
      omega
    refine lr12 (t := pf ws (k + (t + 1)) - pf ws k) (Q := fun l i => l = t + 1 ∧ i = k) (P := fun l i => In ws.length l i ∧ (i < k ∨ (i = k ∧ l ≤ t))) (P' := fun l i => In ws.length l i ∧ (i < k ∨ (i = k ∧ l ≤ t + 1))) n5 e h2 h3 (by omega) ?_ ?_ ?_
    · refine ⟨by omega, ⟨t + 1, k, ⟨rfl, rfl⟩, rfl, rfl⟩, ?_⟩
      rintro l i ⟨rfl, rfl⟩
      exact Int.le_refl _
    · refine ⟨by omega, ⟨t + 1, k, ⟨rfl, rfl⟩, rfl, rfl⟩, ?_⟩
      rintro l i ⟨rfl, rfl⟩
      exact Int.le_refl _
    · intro lo' hi' a b
      exact ⟨lo', hi', _, _, _, a, b, rfl⟩
  · rintro ρ ⟨lo, hi, y5, y6, y7, h2, h3, rfl⟩
    have tl : (rngD ((k : Int) + 1) ((ws.length : Int) + 1 - ((k : Int) + 1)).toNat).length = ws.length - k := by
      unfold rngD
      rw [List.length_map, List.length_range]
      omega
    rw [tl] at h2 h3
    have e : (fun l i => In ws.length l i ∧ (i < k ∨ (i = k ∧ l ≤ ws.length - k))) = fun l i => In ws.length l i ∧ i < k + 1 := by
      funext l i
      unfold In
      exact propext (by omega)
    rw [e] at h2 h3
    exact hn _ _ _ _ _ h2 h3
end
theorem pu__law_rates : Pure N__law_rates.length 1 t__law_rates p__law_rates := by
  rintro ds R er ⟨ws, rfl, h, hne, hR⟩
  refine ⟨rfl, ?_⟩
  have w5 := h.l
  have n1 : 1 ≤ ws.length := by
    cases ws with
    | nil => exact absurd rfl hne
    | cons x l => rw [List.length_cons]; omega
  show t__law_rates [some (.d (wd ws)), none, none, none, none, none, none, none] _ er
  simp only [gRepT, dEnum, dOwnIx, dZip, gMin1, dDic0, gRep, gIn, gMax1, dBreak, dContinue, dRet, dRetN, dAnd, dOr, dNot, dB, dCall, dCallK, dCons, dVar, dC, dNil, dDrw, allD, dVal, dtAnd, dtOr, dtNot, dTru, dIf, dBin, dUn, dChain, dTup, dLst, dLstN, dSl, dNo, dPart, gSl, dSeqS, dNext, dIfS, dSet, dSetOwn, dFreeze, frz, dDrop, dPar, dPar3, dAsg, dgTup, dgCons, dgNil, dgName, dAppend, dRaiseF, dRaise0, dDrwI, dDrwC, dDrwPop, dDrwSet, dKeep, dLam, dMk, dFld, dFz, dSeq, noOwn, gAdd, DL.gSub, gMul, gDiv, gMod, gPow, gNeg, gLt, gLe, gGt, gGe, gEq, gNe, gIx, gIs, gIsNot, gLen, gAbs, gInt, gStr, gMin2, gMax2, gList, gTuple, gAll, gAny, gSum, gRepr, truD, DL.isNon, List.getElem?_cons_zero, List.getElem?_cons_succ, List.set_cons_zero, List.set_cons_succ, Option.map_some, List.map_cons, List.map_nil, t__law_rates]
  refine ⟨ws, rfl, h, ?_⟩
  have wl : (ws.map D.int).length = ws.length := List.length_map ..
  simp only [gRepT, dEnum, dOwnIx, dZip, gMin1, dDic0, gRep, gIn, gMax1, dBreak, dContinue, dRet, dRetN, dAnd, dOr, dNot, dB, dCall, dCallK, dCons, dVar, dC, dNil, dDrw, allD, dVal, dtAnd, dtOr, dtNot, dTru, dIf, dBin, dUn, dChain, dTup, dLst, dLstN, dSl, dNo, dPart, gSl, dSeqS, dNext, dIfS, dSet, dSetOwn, dFreeze, frz, dDrop, dPar, dPar3, dAsg, dgTup, dgCons, dgNil, dgName, dAppend, dRaiseF, dRaise0, dDrwI, dDrwC, dDrwPop, dDrwSet, dKeep, dLam, dMk, dFld, dFz, dSeq, noOwn, gAdd, DL.gSub, gMul, gDiv, gMod, gPow, gNeg, gLt, gLe, gGt, gGe, gEq, gNe, gIx, gIs, gIsNot, gLen, gAbs, gInt, gStr, gMin2, gMax2, gList, gTuple, gAll, gAny, gSum, gRepr, truD, DL.isNon, List.getElem?_cons_zero, List.getElem?_cons_succ, List.set_cons_zero, List.set_cons_succ, Option.map_some, List.map_cons, List.map_nil, u__law_rates_7, dFor, dRng1]
  rw [wl]
  refine ⟨⟨by omega, by omega⟩, fun k ρ => ∃ lo hi y4 y5 y6 y7, OT (up ws) (fun l i => In ws.length l i ∧ i < k) ws.length lo ∧ OB (dn ws) (fun l i => In ws.length l i ∧ i < k) ws.length hi ∧ ρ = orE ws (some (.d lo)) (some (.d hi)) y4 y5 y6 y7, ⟨.non, .non, _, _, _, _, .inl ⟨rfl, fun l i a => by omega⟩, .inl ⟨rfl, fun l i a => by omega⟩, rfl⟩, ?_, ?_⟩
  · rintro k dd ρ hd ⟨lo, hi, y4, y5, y6, y7, h2, h3, rfl⟩
    have tn := (List.getElem?_eq_some_iff.mp hd).1
    have tn : k < ((ws.length : Int)).toNat := by simpa [rngD] using tn
    rw [rngD_get tn] at hd
    cases hd
    rw [Int.zero_add]
    refine lr4 w5 (by omega) h2 h3 ?_
    intro lo' hi' y5 y6 y7 a b
    exact ⟨lo', hi', _, y5, y6, y7, a, b, rfl⟩
  · rintro ρ ⟨lo, hi, y4, y5, y6, y7, h2, h3, rfl⟩
    have tl : (rngD 0 ((ws.length : Int)).toNat).length = ws.length := by
      unfold rngD
      rw [List.length_map, List.length_range]
      omega
    rw [tl] at h2 h3
    have e : (fun l i => In ws.length l i ∧ i < ws.length) = In ws.length := by
      funext l i
      unfold In
      exact propext (by omega)
    rw [e] at h2 h3
    exact lr6 n1 w5 h2 h3 hR
theorem pu__law_is_between : Pure N__law_is_between.length 3 t__law_is_between p__law_is_between := by
  rintro ds R er ⟨p, w, a, b, c, d, rfl, p1, p2, w1, w2, hR⟩
  refine ⟨rfl, ?_⟩
  show t__law_is_between [some (.d (.int p)), some (.d (.int w)), some (.d (.tup [.tup [.int a, .int b], .tup [.int c, .int d]]))] _ er
  simp only [gRepT, dEnum, dOwnIx, dZip, gMin1, dDic0, gRep, gIn, gMax1, dBreak, dContinue, dRet, dRetN, dAnd, dOr, dNot, dB, dCall, dCallK, dCons, dVar, dC, dNil, dDrw, allD, dVal, dtAnd, dtOr, dtNot, dTru, dIf, dBin, dUn, dChain, dTup, dLst, dLstN, dSl, dNo, dPart, gSl, dSeqS, dNext, dIfS, dSet, dSetOwn, dFreeze, frz, dDrop, dPar, dPar3, dAsg, dgTup, dgCons, dgNil, dgName, dAppend, dRaiseF, dRaise0, dDrwI, dDrwC, dDrwPop, dDrwSet, dKeep, dLam, dMk, dFld, dFz, dSeq, noOwn, gAdd, DL.gSub, gMul, gDiv, gMod, gPow, gNeg, gLt, gLe, gGt, gGe, gEq, gNe, gIx, gIs, gIsNot, gLen, gAbs, gInt, gStr, gMin2, gMax2, gList, gTuple, gAll, gAny, gSum, gRepr, truD, DL.isNon, List.getElem?_cons_zero, List.getElem?_cons_succ, List.set_cons_zero, List.set_cons_succ, Option.map_some, List.map_cons, List.map_nil, t__law_is_between, at2_0, at2_1]
  refine ⟨mulOk_r (by omega), mulOk_l (by omega), ?_⟩
  by_cases z : a * w < p * b
  · rw [decide_eq_true z] at hR ⊢
    exact ⟨mulOk_l (by omega), mulOk_r (by omega), hR⟩
  · rw [decide_eq_false z] at hR ⊢
    exact hR
theorem wd_eqv : ∀ as bs : List Int, PyData.eqv (wd as).py (wd bs).py = decide (as = bs) := fun as bs => by
  have key : ∀ as bs : List Int, PyData.eqvAll (pyL (as.map D.int)) (pyL (bs.map D.int)) = decide (as = bs) := fun as => by
    induction as with
    | nil => intro bs; cases bs <;> rfl
    | cons a as ih =>
      intro bs
      cases bs with
      | nil => rfl
      | cons b bs =>
        show ((a == b) && PyData.eqvAll (pyL (as.map D.int)) (pyL (bs.map D.int))) = _
        rw [ih bs]
        by_cases h1 : a = b <;> by_cases h2 : as = bs <;> simp [h1, h2]
  exact key as bs
theorem pu__law_shows : Pure N__law_shows.length 3 t__law_shows p__law_shows := by
  rintro ds R er ⟨p, w, ws, rfl, p1, p2, w1, w2, hw, hR⟩
  refine ⟨rfl, ?_⟩
  have w5 := hw.l
  show t__law_shows [some (.d (.int p)), some (.d (.int w)), some (.d (wd ws)), none] _ er
  have wl : (ws.map D.int).length = ws.length := List.length_map ..
  simp only [gRepT, dEnum, dOwnIx, dZip, gMin1, dDic0, gRep, gIn, gMax1, dBreak, dContinue, dRet, dRetN, dAnd, dOr, dNot, dB, dCall, dCallK, dCons, dVar, dC, dNil, dDrw, allD, dVal, dtAnd, dtOr, dtNot, dTru, dIf, dBin, dUn, dChain, dTup, dLst, dLstN, dSl, dNo, dPart, gSl, dSeqS, dNext, dIfS, dSet, dSetOwn, dFreeze, frz, dDrop, dPar, dPar3, dAsg, dgTup, dgCons, dgNil, dgName, dAppend, dRaiseF, dRaise0, dDrwI, dDrwC, dDrwPop, dDrwSet, dKeep, dLam, dMk, dFld, dFz, dSeq, noOwn, gAdd, DL.gSub, gMul, gDiv, gMod, gPow, gNeg, gLt, gLe, gGt, gGe, gEq, gNe, gIx, gIs, gIsNot, gLen, gAbs, gInt, gStr, gMin2, gMax2, gList, gTuple, gAll, gAny, gSum, gRepr, truD, DL.isNon, List.getElem?_cons_zero, List.getElem?_cons_succ, List.set_cons_zero, List.set_cons_succ, Option.map_some, List.map_cons, List.map_nil, t__law_shows]
  refine lc_fm (fun d => match d with | .int b => decide (shW p b w 0 ws.length = ws) | _ => false) id (fun Q Q' hq h => ⟨h.1, hq _ _ h.2⟩) ?_
  simp only [gRepT, dEnum, dOwnIx, dZip, gMin1, dDic0, gRep, gIn, gMax1, dBreak, dContinue, dRet, dRetN, dAnd, dOr, dNot, dB, dCall, dCallK, dCons, dVar, dC, dNil, dDrw, allD, dVal, dtAnd, dtOr, dtNot, dTru, dIf, dBin, dUn, dChain, dTup, dLst, dLstN, dSl, dNo, dPart, gSl, dSeqS, dNext, dIfS, dSet, dSetOwn, dFreeze, frz, dDrop, dPar, dPar3, dAsg, dgTup, dgCons, dgNil, dgName, dAppend, dRaiseF, dRaise0, dDrwI, dDrwC, dDrwPop, dDrwSet, dKeep, dLam, dMk, dFld, dFz, dSeq, noOwn, gAdd, DL.gSub, gMul, gDiv, gMod, gPow, gNeg, gLt, gLe, gGt, gGe, gEq, gNe, gIx, gIs, gIsNot, gLen, gAbs, gInt, gStr, gMin2, gMax2, gList, gTuple, gAll, gAny, gSum, gRepr, truD, DL.isNon, List.getElem?_cons_zero, List.getElem?_cons_succ, List.set_cons_zero, List.set_cons_succ, Option.map_some, List.map_cons, List.map_nil, dRng1]
  refine ⟨⟨by omega, by omega⟩, by unfold rngD; rw [sizeLine_eq, List.length_map, List.length_range]; omega, fun s hm S hS => ?_, fun s hm hp S hS => ?_, ?_⟩
  · obtain ⟨t, ht, rfl⟩ := List.mem_map.mp hm
    have ht := List.mem_range.mp ht
    simp only [gRepT, dEnum, dOwnIx, dZip, gMin1, dDic0, gRep, gIn, gMax1, dBreak, dContinue, dRet, dRetN, dAnd, dOr, dNot, dB, dCall, dCallK, dCons, dVar, dC, dNil, dDrw, allD, dVal, dtAnd, dtOr, dtNot, dTru, dIf, dBin, dUn, dChain, dTup, dLst, dLstN, dSl, dNo, dPart, gSl, dSeqS, dNext, dIfS, dSet, dSetOwn, dFreeze, frz, dDrop, dPar, dPar3, dAsg, dgTup, dgCons, dgNil, dgName, dAppend, dRaiseF, dRaise0, dDrwI, dDrwC, dDrwPop, dDrwSet, dKeep, dLam, dMk, dFld, dFz, dSeq, noOwn, gAdd, DL.gSub, gMul, gDiv, gMod, gPow, gNeg, gLt, gLe, gGt, gGe, gEq, gNe, gIx, gIs, gIsNot, gLen, gAbs, gInt, gStr, gMin2, gMax2, gList, gTuple, gAll, gAny, gSum, gRepr, truD, DL.isNon, List.getElem?_cons_zero, List.getElem?_cons_succ, List.set_cons_zero, List.set_cons_succ, Option.map_some, List.map_cons, List.map_nil, inE, wipeE]
    rw [wl]
    refine ⟨by simp, p, _, w, 0, ws.length, rfl, ⟨by omega, by omega, by omega, by omega, by omega, by omega⟩, w5, ?_⟩
    refine ⟨.inr ((lay_ints (ws := shW p (0 + t) w 0 ws.length)).eq (lay_ints (ws := ws)) (by decide) (by decide)), ?_⟩
    have e : PyData.eqv (wd (shW p (0 + t) w 0 ws.length)).py (wd ws).py = decide (shW p (0 + t) w 0 ws.length = ws) := wd_eqv _ _
    rw [e]
    exact hS
  · simp only [gRepT, dEnum, dOwnIx, dZip, gMin1, dDic0, gRep, gIn, gMax1, dBreak, dContinue, dRet, dRetN, dAnd, dOr, dNot, dB, dCall, dCallK, dCons, dVar, dC, dNil, dDrw, allD, dVal, dtAnd, dtOr, dtNot, dTru, dIf, dBin, dUn, dChain, dTup, dLst, dLstN, dSl, dNo, dPart, gSl, dSeqS, dNext, dIfS, dSet, dSetOwn, dFreeze, frz, dDrop, dPar, dPar3, dAsg, dgTup, dgCons, dgNil, dgName, dAppend, dRaiseF, dRaise0, dDrwI, dDrwC, dDrwPop, dDrwSet, dKeep, dLam, dMk, dFld, dFz, dSeq, noOwn, gAdd, DL.gSub, gMul, gDiv, gMod, gPow, gNeg, gLt, gLe, gGt, gGe, gEq, gNe, gIx, gIs, gIsNot, gLen, gAbs, gInt, gStr, gMin2, gMax2, gList, gTuple, gAll, gAny, gSum, gRepr, truD, DL.isNon, List.getElem?_cons_zero, List.getElem?_cons_succ, List.set_cons_zero, List.set_cons_succ, Option.map_some, List.map_cons, List.map_nil, inE, wipeE]
    exact hS _
  · rw [List.map_id]
    have lay : EqOk (.lst ((rngD 0 w.toNat).filter fun d => match d with | .int b => decide (shW p b w 0 ws.length = ws) | _ => false)) (.lst []) := (lay_lst (n := 0) fun d hd => by
      obtain ⟨t, ht, rfl⟩ := List.mem_map.mp (List.mem_filter.mp hd).1
      exact lay_int).eq lay_nil (by decide) (by decide)
    refine ⟨by simp, .inr lay, ?_⟩
    rw [lst_nil]
    refine hR _ ?_
    have e : ∀ l : List D, (!l.isEmpty) = true ↔ ∃ x, x ∈ l := fun l => by
      cases l with
      | nil => simp
      | cons x l => simp
    rw [e]
    constructor
    · rintro ⟨x, hx⟩
      obtain ⟨hm, hp⟩ := List.mem_filter.mp hx
      obtain ⟨t, ht, rfl⟩ := List.mem_map.mp hm
      have ht := List.mem_range.mp ht
      refine ⟨t, by omega, ?_⟩
      have := of_decide_eq_true (show decide (shW p ((0 : Int) + t) w 0 ws.length = ws) = true from hp)
      rwa [Int.zero_add] at this
    · rintro ⟨t, ht, hs⟩
      refine ⟨.int ((0 : Int) + t), List.mem_filter.mpr ⟨List.mem_map.mpr ⟨t, List.mem_range.mpr (by omega), rfl⟩, ?_⟩⟩
      show decide (shW p ((0 : Int) + t) w 0 ws.length = ws) = true
      rw [Int.zero_add]
      exact decide_eq_true hs
end K40
set_option Elab.async false
set_option linter.all false
set_option maxRecDepth 100000
set_option maxHeartbeats 2000000
set_option exponentiation.threshold 2000
namespace K40
open PySem PySem.Spec PyProof.Rows L2 DL
theorem pl_lam0 : ∀ (cs : List D) (R : D → Prop) (er : Er → Prop), (∃ d, cs = [d] ∧ p_slopes [.d d] R er) → te0 (cs.map fun d => some (.d d)) (fun d _ => R d) er := by
  rintro cs R er ⟨d, rfl, q⟩
  exact q
abbrev lpt : LPt := fun cs R er => ∃ d, cs = [d] ∧ p_slopes [.d d] R er
theorem lam_in0 : (lam0, lpt) ∈ LT := List.mem_cons_self
theorem let_self : PyData.eqv (D.str "letters").py (D.str "letters").py = true := by decide +kernel
theorem pf_bd {ws : List Int} (h : W ws) : ∀ i : Nat, i ≤ ws.length → ∀ j : Nat, j ≤ i → -1000000 * ((i : Int) - j) ≤ pf ws i - pf ws j ∧ pf ws i - pf ws j ≤ 1000000 * ((i : Int) - j)
  | 0, _, j, hj => by
    have : j = 0 := by omega
    subst this
    omega
  | i + 1, hi, j, hj => by
    by_cases e : j = i + 1
    · subst e
      omega
    · obtain ⟨x, hx⟩ : ∃ x, ws[i]? = some x := ⟨_, List.getElem?_eq_getElem (show i < ws.length by omega)⟩
      have a := pf_next hx
      have b := h.b x (List.mem_of_getElem? hx)
      have c := pf_bd h i (by omega) j (by omega)
      omega
theorem gap_bd {ws : List Int} (h : W ws) {l i : Nat} (hi : In ws.length l i) : -1000000 * (ws.length : Int) ≤ gap ws l i ∧ gap ws l i ≤ 1000000 * (ws.length : Int) := by
  have a := hi.2
  have b := pf_bd h (i + l) a i (by omega)
  unfold gap
  omega
theorem low_bd {u g B : Int} (hg : 1 ≤ g) (hd : g ∣ u) (h : -B ≤ u ∧ u ≤ B) : u = u / g * g ∧ -B ≤ u / g ∧ u / g ≤ B := by
  have e : u = u / g * g := (Int.ediv_mul_cancel hd).symm
  refine ⟨e, ?_⟩
  generalize u / g = a at e ⊢
  constructor
  · by_cases c : -B ≤ a
    · exact c
    · have := Int.mul_le_mul_of_nonneg_left hg (show 0 ≤ -a by omega)
      rw [Int.neg_mul, Int.neg_mul] at this
      omega
  · by_cases c : a ≤ B
    · exact c
    · have := Int.mul_le_mul_of_nonneg_left hg (show 0 ≤ a by omega)
      omega
/-- the rates of a balanced word -/
structure Md (ws : List Int) (a b c e : Int) : Prop where
  b1 : 1 ≤ b
  b2 : b ≤ ws.length
  e1 : 1 ≤ e
  e2 : e ≤ ws.length
  lt : a * e < c * b
  a1 : -(1000000 * (ws.length : Int) + 1) ≤ a
  a2 : a ≤ 1000000 * (ws.length : Int) + 1
  c1 : -(1000000 * (ws.length : Int) + 1) ≤ c
  c2 : c ≤ 1000000 * (ws.length : Int) + 1
  sh : ∀ p w : Int, 1 ≤ w → (Shows p w ws ↔ (a * w < p * b ∧ p * e < c * w))
abbrev Bal (ws : List Int) : Prop := ∀ l i j, 1 ≤ l → ¬ Bad ws l i j
abbrev rts (a b c e : Int) : D := .tup [.tup [.int a, .int b], .tup [.int c, .int e]]
theorem rt_md {ws : List Int} {d : D} (hw : W ws) (h : Rt ws d) : (d = .non ∧ ¬ Bal ws) ∨ (Bal ws ∧ ∃ a b c e, d = rts a b c e ∧ Md ws a b c e) := by
  obtain ⟨u, v, r, s, t1, t2, h⟩ := h
  have bl := bal_lt t1 t2
  rcases h with ⟨h, rfl⟩ | ⟨h, rfl⟩
  · refine .inr ⟨bl.mpr h, _, _, _, _, rfl, ?_⟩
    have v1 := t1.v1
    have s1 := t2.v1
    have g1 := gc_pos (x := u) (y := v) (by omega)
    have g2 := gc_pos (x := r) (y := s) (by omega)
    have ub : -(1000000 * (ws.length : Int) + 1) ≤ u ∧ u ≤ 1000000 * (ws.length : Int) + 1 := by
      obtain ⟨l, i, q, rfl, _⟩ := t1.got
      have := gap_bd hw q
      show _ ≤ gap ws l i - 1 ∧ gap ws l i - 1 ≤ _
      omega
    have rb : -(1000000 * (ws.length : Int) + 1) ≤ r ∧ r ≤ 1000000 * (ws.length : Int) + 1 := by
      obtain ⟨l, i, q, e, _⟩ := t2.got
      have := gap_bd hw q
      have e : -r = -(gap ws l i + 1) := e
      omega
    have vl : v ≤ ws.length := by
      obtain ⟨l, i, q, _, rfl⟩ := t1.got
      have := q.2
      omega
    have sl : s ≤ ws.length := by
      obtain ⟨l, i, q, _, rfl⟩ := t2.got
      have := q.2
      omega
    have a1 := low_bd (show 1 ≤ gc u v by omega) (gc_div u v).1 ub
    have a2 := low_bd (B := v) (show 1 ≤ gc u v by omega) (gc_div u v).2 (by omega)
    have a3 := low_bd (show 1 ≤ gc r s by omega) (gc_div r s).1 rb
    have a4 := low_bd (B := s) (show 1 ≤ gc r s by omega) (gc_div r s).2 (by omega)
    have sh : ∀ p w : Int, 1 ≤ w → (Shows p w ws ↔ (u * w < p * v ∧ p * s < r * w)) := fun p w w1 => shows_lt w1 t1 t2
    have vp : 0 < v / gc u v := Int.ediv_pos_of_pos_of_dvd (by omega) (by omega) (gc_div u v).2
    have sp : 0 < s / gc r s := Int.ediv_pos_of_pos_of_dvd (by omega) (by omega) (gc_div r s).2
    generalize gc u v = g at *
    generalize gc r s = k at *
    generalize u / g = a at *
    generalize v / g = b at *
    generalize r / k = c at *
    generalize s / k = e at *
    have cmp : ∀ x y m : Int, 0 < m → (x * m < y * m ↔ x < y) := fun x y m hm => ⟨fun q => Int.lt_of_mul_lt_mul_right q (by omega), fun q => Int.mul_lt_mul_of_pos_right q hm⟩
    refine ⟨by omega, by omega, by omega, by omega, ?_, a1.2.1, a1.2.2, a3.2.1, a3.2.2, fun p w w1 => ?_⟩
    · rw [← cmp (a * e) (c * b) (g * k) (Int.mul_pos (by omega) (by omega))]
      have q1 : a * e * (g * k) = u * s := by grind
      have q2 : c * b * (g * k) = r * v := by grind
      rw [q1, q2]
      exact h
    · rw [sh p w w1, ← cmp (a * w) (p * b) g (by omega), ← cmp (p * e) (c * w) k (by omega)]
      have q1 : a * w * g = u * w := by grind
      have q2 : p * b * g = p * v := by grind
      have q3 : p * e * k = p * s := by grind
      have q4 : c * w * k = r * w := by grind
      rw [q1, q2, q3, q4]
  · exact .inl ⟨rfl, fun B => h (bl.mp B)⟩
/-- what is told of a word -/
def Du (ws : List Int) (d : D) : Prop := (ws = [] ∧ d = .tup [.non, .non]) ∨ (ws ≠ [] ∧ Rt ws d)
theorem sl_ok {ws : List Int} {d : D} (h : W ws) (hD : Du ws d) {R : D → Prop} {er : Er → Prop} (hR : R d) : p_slopes [.d (wd ws)] R er := by
  refine ⟨_, rfl, okB_wd (by have := h.l; omega), .inr ⟨ws, rfl, h, ?_⟩⟩
  rcases hD with ⟨rfl, rfl⟩ | ⟨hne, hD⟩
  · exact .inl ⟨rfl, hR⟩
  · exact .inr ⟨hne, fun d' h' => by rw [rt_one h' hD]; exact hR⟩
theorem rb_two {a b : D} {n k : Nat} (h : Rb a n k) (h' : Rb b n k) : Rb (.tup [a, b]) (3 + 2 * (n + 2)) (k + 1) := rb_tup fun x hx => by
  simp only [List.mem_cons, List.not_mem_nil, or_false] at hx
  rcases hx with rfl | rfl
  · exact h
  · exact h'
theorem du_rb {ws : List Int} {d : D} (hw : W ws) (hD : Du ws d) : Rb d 1625 2 := by
  have w5 := hw.l
  rcases hD with ⟨rfl, rfl⟩ | ⟨hne, hD⟩
  · exact (rb_two rb_non rb_non).mono (by decide) (by decide)
  · rcases rt_md hw hD with ⟨rfl, _⟩ | ⟨_, a, b, c, e, rfl, M⟩
    · exact rb_non.mono (by decide) (by decide)
    · have a1 := M.a1
      have a2 := M.a2
      have b1 := M.b1
      have b2 := M.b2
      have c1 := M.c1
      have c2 := M.c2
      have e1 := M.e1
      have e2 := M.e2
      exact (rb_two (rb_two (rb_int (by omega) (by omega)) (rb_int (by omega) (by omega))) (rb_two (rb_int (by omega) (by omega)) (rb_int (by omega) (by omega)))).mono (by decide) (by decide)
theorem says_ok {a : D} (h : Rb a 1625 2) : ReprOk (.lst [a, a]) := by
  have r := rb_lst (xs := [a, a]) (n := 1625) (k := 2) fun x hx => by
    simp only [List.mem_cons, List.not_mem_nil, or_false] at hx
    rcases hx with rfl | rfl <;> exact h
  exact r.ok (by simp) (by decide)
theorem fu_bal {ws : List Int} {d : D} (h : Fu ws d) : isNon d = true ↔ Bal ws := by
  rcases h with ⟨rfl, a⟩ | ⟨l, i, j, rfl, l1, B, _⟩
  · exact ⟨fun _ => a, fun _ => rfl⟩
  · exact ⟨fun h => (by cases h), fun q => absurd B (q l i j l1)⟩
theorem du_bal {ws : List Int} {d : D} (hw : W ws) (h : Du ws d) : isNon d = true ↔ ¬ Bal ws := by
  rcases h with ⟨rfl, rfl⟩ | ⟨_, h⟩
  · refine ⟨fun h => (by cases h), fun q => absurd (fun l i j l1 B => ?_) q⟩
    have := B.ij
    have j1 := B.jl
    have j1 : j + l ≤ 0 := j1
    omega
  · rcases rt_md hw h with ⟨rfl, a⟩ | ⟨B, a, b, c, e, rfl, _⟩
    · exact ⟨fun _ => a, fun _ => rfl⟩
    · exact ⟨fun h => (by cases h), fun q => absurd B q⟩
theorem ask_ok {f : D → D} {ws : List Int} {d : D} (h : W ws) (hF : Fu ws d) {R : D → Prop} {er : Er → Prop} (hR : R (f d)) : askP f [.d (wd ws)] R er := ⟨_, rfl, okB_wd (by have := h.l; omega), .inr ⟨ws, d, rfl, h, hF, hR⟩⟩
theorem div_bd {x b B : Int} (hb : 1 ≤ b) (h : -B ≤ x ∧ x ≤ B) (B0 : 0 ≤ B) : -B ≤ x / b ∧ x / b ≤ B := by
  constructor
  · refine Int.le_ediv_of_mul_le (by omega) ?_
    have := Int.mul_le_mul_of_nonneg_left hb B0
    rw [Int.neg_mul]
    omega
  · have := Int.mul_le_mul_of_nonneg_left hb (show 0 ≤ B + 1 by omega)
    have := Int.ediv_lt_of_lt_mul (show 0 < b by omega) (show x < (B + 1) * b by omega)
    omega
section
variable {E : DEnds} {er : Er → Prop} {ns ws : List Int} {x2 x3 x4 x5 x6 x7 x8 x9 : Option DV}
abbrev lE (ns : List Int) (x2 x3 x4 x5 x6 x7 x8 x9 : Option DV) : DEnv := [some (.d (.scr ns)), some .drw, x2, x3, x4, x5, x6, x7, x8, x9]
theorem law7 (hn : ∀ y9, E.nx (lE ns x2 x3 x4 x5 x6 x7 x8 y9)) : u_law_7 (lE ns x2 x3 x4 x5 x6 x7 x8 x9) E er := by
  simp only [gRepT, dEnum, dOwnIx, dZip, gMin1, dDic0, gRep, gIn, gMax1, dBreak, dContinue, dRet, dRetN, dAnd, dOr, dNot, dB, dCall, dCallK, dCons, dVar, dC, dNil, dDrw, allD, dVal, dtAnd, dtOr, dtNot, dTru, dIf, dBin, dUn, dChain, dTup, dLst, dLstN, dSl, dNo, dPart, gSl, dSeqS, dNext, dIfS, dSet, dSetOwn, dFreeze, frz, dDrop, dPar, dPar3, dAsg, dgTup, dgCons, dgNil, dgName, dAppend, dRaiseF, dRaise0, dDrwI, dDrwC, dDrwPop, dDrwSet, dKeep, dLam, dMk, dFld, dFz, dSeq, noOwn, gAdd, DL.gSub, gMul, gDiv, gMod, gPow, gNeg, gLt, gLe, gGt, gGe, gEq, gNe, gIx, gIs, gIsNot, gLen, gAbs, gInt, gStr, gMin2, gMax2, gList, gTuple, gAll, gAny, gSum, gRepr, truD, DL.isNon, List.getElem?_cons_zero, List.getElem?_cons_succ, List.set_cons_zero, List.set_cons_succ, Option.map_some, List.map_cons, List.map_nil, u_law_7]
  refine ⟨rfl, fun d h e => ?_⟩
  have px : ∀ c ∈ [d], D.plainX c = true := fun c hc => by
    rw [List.mem_singleton.mp hc]
    exact okB_px h
  simp only [gRepT, dEnum, dOwnIx, dZip, gMin1, dDic0, gRep, gIn, gMax1, dBreak, dContinue, dRet, dRetN, dAnd, dOr, dNot, dB, dCall, dCallK, dCons, dVar, dC, dNil, dDrw, allD, dVal, dtAnd, dtOr, dtNot, dTru, dIf, dBin, dUn, dChain, dTup, dLst, dLstN, dSl, dNo, dPart, gSl, dSeqS, dNext, dIfS, dSet, dSetOwn, dFreeze, frz, dDrop, dPar, dPar3, dAsg, dgTup, dgCons, dgNil, dgName, dAppend, dRaiseF, dRaise0, dDrwI, dDrwC, dDrwPop, dDrwSet, dKeep, dLam, dMk, dFld, dFz, dSeq, noOwn, gAdd, DL.gSub, gMul, gDiv, gMod, gPow, gNeg, gLt, gLe, gGt, gGe, gEq, gNe, gIx, gIs, gIsNot, gLen, gAbs, gInt, gStr, gMin2, gMax2, gList, gTuple, gAll, gAny, gSum, gRepr, truD, DL.isNon, List.getElem?_cons_zero, List.getElem?_cons_succ, List.set_cons_zero, List.set_cons_succ, Option.map_some, List.map_cons, List.map_nil, u_law_6]
  refine ⟨[d], rfl, px, lam0, [d], lpt, rfl, lam_in0, rfl, px, ?_⟩
  refine ⟨d, rfl, d, rfl, h, .inl ⟨e, ?_⟩⟩
  refine ⟨xcl, rfl, ⟨rfl, .inl rfl, ?_⟩⟩
  rw [let_self]
  exact hn _
theorem law3 {a b c e : Int} (hw : W ws) (h30 : ws.length < 31) (M : Md ws a b c e) (hn : ∀ y7 y8, E.nx (lE ns x2 (some (.d (wd ws))) (some (.d (rts a b c e))) x5 x6 y7 y8 x9)) : u_law_3 (lE ns x2 (some (.d (wd ws))) (some (.d (rts a b c e))) x5 x6 x7 x8 x9) E er := by
  have a1 := M.a1
  have a2 := M.a2
  have b1 := M.b1
  have b2 := M.b2
  simp only [gRepT, dEnum, dOwnIx, dZip, gMin1, dDic0, gRep, gIn, gMax1, dBreak, dContinue, dRet, dRetN, dAnd, dOr, dNot, dB, dCall, dCallK, dCons, dVar, dC, dNil, dDrw, allD, dVal, dtAnd, dtOr, dtNot, dTru, dIf, dBin, dUn, dChain, dTup, dLst, dLstN, dSl, dNo, dPart, gSl, dSeqS, dNext, dIfS, dSet, dSetOwn, dFreeze, frz, dDrop, dPar, dPar3, dAsg, dgTup, dgCons, dgNil, dgName, dAppend, dRaiseF, dRaise0, dDrwI, dDrwC, dDrwPop, dDrwSet, dKeep, dLam, dMk, dFld, dFz, dSeq, noOwn, gAdd, DL.gSub, gMul, gDiv, gMod, gPow, gNeg, gLt, gLe, gGt, gGe, gEq, gNe, gIx, gIs, gIsNot, gLen, gAbs, gInt, gStr, gMin2, gMax2, gList, gTuple, gAll, gAny, gSum, gRepr, truD, DL.isNon, List.getElem?_cons_zero, List.getElem?_cons_succ, List.set_cons_zero, List.set_cons_succ, Option.map_some, List.map_cons, List.map_nil, u_law_3]
  refine ⟨12, rfl, by decide, by decide, fun w w0 w1 => ?_⟩
  simp only [gRepT, dEnum, dOwnIx, dZip, gMin1, dDic0, gRep, gIn, gMax1, dBreak, dContinue, dRet, dRetN, dAnd, dOr, dNot, dB, dCall, dCallK, dCons, dVar, dC, dNil, dDrw, allD, dVal, dtAnd, dtOr, dtNot, dTru, dIf, dBin, dUn, dChain, dTup, dLst, dLstN, dSl, dNo, dPart, gSl, dSeqS, dNext, dIfS, dSet, dSetOwn, dFreeze, frz, dDrop, dPar, dPar3, dAsg, dgTup, dgCons, dgNil, dgName, dAppend, dRaiseF, dRaise0, dDrwI, dDrwC, dDrwPop, dDrwSet, dKeep, dLam, dMk, dFld, dFz, dSeq, noOwn, gAdd, DL.gSub, gMul, gDiv, gMod, gPow, gNeg, gLt, gLe, gGt, gGe, gEq, gNe, gIx, gIs, gIsNot, gLen, gAbs, gInt, gStr, gMin2, gMax2, gList, gTuple, gAll, gAny, gSum, gRepr, truD, DL.isNon, List.getElem?_cons_zero, List.getElem?_cons_succ, List.set_cons_zero, List.set_cons_succ, Option.map_some, List.map_cons, List.map_nil, u_law_2, at2_0, at2_1]
  have ab : -400000000 ≤ a * (1 + w) ∧ a * (1 + w) ≤ 400000000 := by
    have q1 := Int.mul_le_mul_of_nonneg_right (show a ≤ 31000000 by omega) (show 0 ≤ 1 + w by omega)
    have q2 := Int.mul_le_mul_of_nonneg_right (show -31000000 ≤ a by omega) (show 0 ≤ 1 + w by omega)
    omega
  have db := div_bd b1 ab (by decide)
  refine ⟨mulOk_r (by omega), divOk_of (by omega) (by omega), 4, rfl, by decide, by decide, fun q q0 q1 => ?_⟩
  generalize a * (1 + w) / b = z at db
  simp only [gRepT, dEnum, dOwnIx, dZip, gMin1, dDic0, gRep, gIn, gMax1, dBreak, dContinue, dRet, dRetN, dAnd, dOr, dNot, dB, dCall, dCallK, dCons, dVar, dC, dNil, dDrw, allD, dVal, dtAnd, dtOr, dtNot, dTru, dIf, dBin, dUn, dChain, dTup, dLst, dLstN, dSl, dNo, dPart, gSl, dSeqS, dNext, dIfS, dSet, dSetOwn, dFreeze, frz, dDrop, dPar, dPar3, dAsg, dgTup, dgCons, dgNil, dgName, dAppend, dRaiseF, dRaise0, dDrwI, dDrwC, dDrwPop, dDrwSet, dKeep, dLam, dMk, dFld, dFz, dSeq, noOwn, gAdd, DL.gSub, gMul, gDiv, gMod, gPow, gNeg, gLt, gLe, gGt, gGe, gEq, gNe, gIx, gIs, gIsNot, gLen, gAbs, gInt, gStr, gMin2, gMax2, gList, gTuple, gAll, gAny, gSum, gRepr, truD, DL.isNon, List.getElem?_cons_zero, List.getElem?_cons_succ, List.set_cons_zero, List.set_cons_succ, Option.map_some, List.map_cons, List.map_nil, u_law_1]
  refine ⟨_, _, ws, rfl, by omega, by omega, by omega, by omega, hw, fun bb hb => ?_⟩
  refine ⟨_, _, a, b, c, e, rfl, by omega, by omega, by omega, by omega, .inl rfl, ?_⟩
  have sh := M.sh (z + q - 1) (1 + w) (by omega)
  have eb : bb = (decide (a * (1 + w) < (z + q - 1) * b) && decide ((z + q - 1) * e < c * (1 + w))) := by
    rw [sh] at hb
    cases bb with
    | true =>
      obtain ⟨h1, h2⟩ := hb.mp rfl
      rw [decide_eq_true h1, decide_eq_true h2]
      rfl
    | false =>
      by_cases h1 : a * (1 + w) < (z + q - 1) * b
      · by_cases h2 : (z + q - 1) * e < c * (1 + w)
        · exact absurd (hb.mpr ⟨h1, h2⟩) (by simp)
        · rw [decide_eq_false h2, Bool.and_false]
      · rw [decide_eq_false h1, Bool.false_and]
  rw [← eb]
  have se : PyData.eqv (D.bl bb).py (D.bl bb).py = true := by cases bb <;> rfl
  rw [se]
  exact hn _ _
theorem nil_nil : PyData.eqv (D.lst []).py (D.lst []).py = true := eqv_intsNil []
theorem law5 {a b c e : Int} (hw : W ws) (M : Md ws a b c e) (hn : ∀ y5 y6 y7 y8, E.nx (lE ns x2 (some (.d (wd ws))) (some (.d (rts a b c e))) y5 y6 y7 y8 x9)) : u_law_5 (lE ns x2 (some (.d (wd ws))) (some (.d (rts a b c e))) x5 x6 x7 x8 x9) E er := by
  have a1 := M.a1
  have a2 := M.a2
  have b1 := M.b1
  have b2 := M.b2
  have c1 := M.c1
  have c2 := M.c2
  have e1 := M.e1
  have e2 := M.e2
  have w5 := hw.l
  have wl : (ws.map D.int).length = ws.length := List.length_map ..
  simp only [gRepT, dEnum, dOwnIx, dZip, gMin1, dDic0, gRep, gIn, gMax1, dBreak, dContinue, dRet, dRetN, dAnd, dOr, dNot, dB, dCall, dCallK, dCons, dVar, dC, dNil, dDrw, allD, dVal, dtAnd, dtOr, dtNot, dTru, dIf, dBin, dUn, dChain, dTup, dLst, dLstN, dSl, dNo, dPart, gSl, dSeqS, dNext, dIfS, dSet, dSetOwn, dFreeze, frz, dDrop, dPar, dPar3, dAsg, dgTup, dgCons, dgNil, dgName, dAppend, dRaiseF, dRaise0, dDrwI, dDrwC, dDrwPop, dDrwSet, dKeep, dLam, dMk, dFld, dFz, dSeq, noOwn, gAdd, DL.gSub, gMul, gDiv, gMod, gPow, gNeg, gLt, gLe, gGt, gGe, gEq, gNe, gIx, gIs, gIsNot, gLen, gAbs, gInt, gStr, gMin2, gMax2, gList, gTuple, gAll, gAny, gSum, gRepr, truD, DL.isNon, List.getElem?_cons_zero, List.getElem?_cons_succ, List.set_cons_zero, List.set_cons_succ, Option.map_some, List.map_cons, List.map_nil, u_law_5, at2_0, at2_1]
  repeat (first | refine ⟨by simp; done, ?_⟩ | refine ⟨mulOk_l (by omega), ?_⟩)
  simp only [gRepT, dEnum, dOwnIx, dZip, gMin1, dDic0, gRep, gIn, gMax1, dBreak, dContinue, dRet, dRetN, dAnd, dOr, dNot, dB, dCall, dCallK, dCons, dVar, dC, dNil, dDrw, allD, dVal, dtAnd, dtOr, dtNot, dTru, dIf, dBin, dUn, dChain, dTup, dLst, dLstN, dSl, dNo, dPart, gSl, dSeqS, dNext, dIfS, dSet, dSetOwn, dFreeze, frz, dDrop, dPar, dPar3, dAsg, dgTup, dgCons, dgNil, dgName, dAppend, dRaiseF, dRaise0, dDrwI, dDrwC, dDrwPop, dDrwSet, dKeep, dLam, dMk, dFld, dFz, dSeq, noOwn, gAdd, DL.gSub, gMul, gDiv, gMod, gPow, gNeg, gLt, gLe, gGt, gGe, gEq, gNe, gIx, gIs, gIsNot, gLen, gAbs, gInt, gStr, gMin2, gMax2, gList, gTuple, gAll, gAny, gSum, gRepr, truD, DL.isNon, List.getElem?_cons_zero, List.getElem?_cons_succ, List.set_cons_zero, List.set_cons_succ, Option.map_some, List.map_cons, List.map_nil, u_law_4]
  rw [wl]
  by_cases h30 : (ws.length : Int) < 31
  · rw [decide_eq_true h30]
    refine lc_fm2 (fun _ => false) (fun _ => .int 1) (fun Q Q' hq h => hq _ _ h) ?_
    refine ⟨[(.int (a + c), .int (b + e)), (.int (2 * a + c), .int (2 * b + e))], rfl, by rw [sizeLine_eq]; simp, fun d hd S hS => ?_, fun d hd hp => (by cases hp), ?_⟩
    · simp only [List.mem_cons, List.not_mem_nil, or_false] at hd
      have lt := M.lt
      rcases hd with rfl | rfl
      · simp only [gRepT, dEnum, dOwnIx, dZip, gMin1, dDic0, gRep, gIn, gMax1, dBreak, dContinue, dRet, dRetN, dAnd, dOr, dNot, dB, dCall, dCallK, dCons, dVar, dC, dNil, dDrw, allD, dVal, dtAnd, dtOr, dtNot, dTru, dIf, dBin, dUn, dChain, dTup, dLst, dLstN, dSl, dNo, dPart, gSl, dSeqS, dNext, dIfS, dSet, dSetOwn, dFreeze, frz, dDrop, dPar, dPar3, dAsg, dgTup, dgCons, dgNil, dgName, dAppend, dRaiseF, dRaise0, dDrwI, dDrwC, dDrwPop, dDrwSet, dKeep, dLam, dMk, dFld, dFz, dSeq, noOwn, gAdd, DL.gSub, gMul, gDiv, gMod, gPow, gNeg, gLt, gLe, gGt, gGe, gEq, gNe, gIx, gIs, gIsNot, gLen, gAbs, gInt, gStr, gMin2, gMax2, gList, gTuple, gAll, gAny, gSum, gRepr, truD, DL.isNon, List.getElem?_cons_zero, List.getElem?_cons_succ, List.set_cons_zero, List.set_cons_succ, Option.map_some, List.map_cons, List.map_nil, inE, wipeE]
        refine ⟨_, _, ws, rfl, by omega, by omega, by omega, by omega, hw, fun bb hb => ?_⟩
        have : bb = true := hb.mpr ((M.sh _ _ (by omega)).mpr ⟨by grind, by grind⟩)
        rw [this]
        exact hS
      · simp only [gRepT, dEnum, dOwnIx, dZip, gMin1, dDic0, gRep, gIn, gMax1, dBreak, dContinue, dRet, dRetN, dAnd, dOr, dNot, dB, dCall, dCallK, dCons, dVar, dC, dNil, dDrw, allD, dVal, dtAnd, dtOr, dtNot, dTru, dIf, dBin, dUn, dChain, dTup, dLst, dLstN, dSl, dNo, dPart, gSl, dSeqS, dNext, dIfS, dSet, dSetOwn, dFreeze, frz, dDrop, dPar, dPar3, dAsg, dgTup, dgCons, dgNil, dgName, dAppend, dRaiseF, dRaise0, dDrwI, dDrwC, dDrwPop, dDrwSet, dKeep, dLam, dMk, dFld, dFz, dSeq, noOwn, gAdd, DL.gSub, gMul, gDiv, gMod, gPow, gNeg, gLt, gLe, gGt, gGe, gEq, gNe, gIx, gIs, gIsNot, gLen, gAbs, gInt, gStr, gMin2, gMax2, gList, gTuple, gAll, gAny, gSum, gRepr, truD, DL.isNon, List.getElem?_cons_zero, List.getElem?_cons_succ, List.set_cons_zero, List.set_cons_succ, Option.map_some, List.map_cons, List.map_nil, inE, wipeE]
        refine ⟨_, _, ws, rfl, by omega, by omega, by omega, by omega, hw, fun bb hb => ?_⟩
        have : bb = true := hb.mpr ((M.sh _ _ (by omega)).mpr ⟨by grind, by grind⟩)
        rw [this]
        exact hS
    · refine ⟨by simp, .inr (lay_nil.eq lay_nil (by decide) (by decide)), ?_⟩
      rw [show (List.map (fun _ : D × D => D.int 1) (List.filter (fun _ => false) [(D.int (a + c), D.int (b + e)), (D.int (2 * a + c), D.int (2 * b + e))])) = [] from rfl, nil_nil]
      refine lc_fm2 (fun _ => false) (fun _ => .int 1) (fun Q Q' hq h => hq _ _ h) ?_
      refine ⟨[(.int a, .int b), (.int c, .int e)], rfl, by rw [sizeLine_eq]; simp, fun d hd S hS => ?_, fun d hd hp => (by cases hp), ?_⟩
      · simp only [List.mem_cons, List.not_mem_nil, or_false] at hd
        rcases hd with rfl | rfl
        · simp only [gRepT, dEnum, dOwnIx, dZip, gMin1, dDic0, gRep, gIn, gMax1, dBreak, dContinue, dRet, dRetN, dAnd, dOr, dNot, dB, dCall, dCallK, dCons, dVar, dC, dNil, dDrw, allD, dVal, dtAnd, dtOr, dtNot, dTru, dIf, dBin, dUn, dChain, dTup, dLst, dLstN, dSl, dNo, dPart, gSl, dSeqS, dNext, dIfS, dSet, dSetOwn, dFreeze, frz, dDrop, dPar, dPar3, dAsg, dgTup, dgCons, dgNil, dgName, dAppend, dRaiseF, dRaise0, dDrwI, dDrwC, dDrwPop, dDrwSet, dKeep, dLam, dMk, dFld, dFz, dSeq, noOwn, gAdd, DL.gSub, gMul, gDiv, gMod, gPow, gNeg, gLt, gLe, gGt, gGe, gEq, gNe, gIx, gIs, gIsNot, gLen, gAbs, gInt, gStr, gMin2, gMax2, gList, gTuple, gAll, gAny, gSum, gRepr, truD, DL.isNon, List.getElem?_cons_zero, List.getElem?_cons_succ, List.set_cons_zero, List.set_cons_succ, Option.map_some, List.map_cons, List.map_nil, inE, wipeE]
          refine ⟨_, _, ws, rfl, by omega, by omega, by omega, by omega, hw, fun bb hb => ?_⟩
          have : bb = false := by
            cases bb with
            | false => rfl
            | true =>
              have := ((M.sh _ _ (by omega)).mp (hb.mp rfl)).1
              omega
          rw [this]
          exact hS
        · simp only [gRepT, dEnum, dOwnIx, dZip, gMin1, dDic0, gRep, gIn, gMax1, dBreak, dContinue, dRet, dRetN, dAnd, dOr, dNot, dB, dCall, dCallK, dCons, dVar, dC, dNil, dDrw, allD, dVal, dtAnd, dtOr, dtNot, dTru, dIf, dBin, dUn, dChain, dTup, dLst, dLstN, dSl, dNo, dPart, gSl, dSeqS, dNext, dIfS, dSet, dSetOwn, dFreeze, frz, dDrop, dPar, dPar3, dAsg, dgTup, dgCons, dgNil, dgName, dAppend, dRaiseF, dRaise0, dDrwI, dDrwC, dDrwPop, dDrwSet, dKeep, dLam, dMk, dFld, dFz, dSeq, noOwn, gAdd, DL.gSub, gMul, gDiv, gMod, gPow, gNeg, gLt, gLe, gGt, gGe, gEq, gNe, gIx, gIs, gIsNot, gLen, gAbs, gInt, gStr, gMin2, gMax2, gList, gTuple, gAll, gAny, gSum, gRepr, truD, DL.isNon, List.getElem?_cons_zero, List.getElem?_cons_succ, List.set_cons_zero, List.set_cons_succ, Option.map_some, List.map_cons, List.map_nil, inE, wipeE]
          refine ⟨_, _, ws, rfl, by omega, by omega, by omega, by omega, hw, fun bb hb => ?_⟩
          have : bb = false := by
            cases bb with
            | false => rfl
            | true =>
              have := ((M.sh _ _ (by omega)).mp (hb.mp rfl)).2
              omega
          rw [this]
          exact hS
      · refine ⟨by simp, .inr (lay_nil.eq lay_nil (by decide) (by decide)), ?_⟩
        rw [show (List.map (fun _ : D × D => D.int 1) (List.filter (fun _ => false) [(D.int a, D.int b), (D.int c, D.int e)])) = [] from rfl, nil_nil]
        exact law3 hw (by omega) M fun y7 y8 => hn _ _ _ _
  · rw [decide_eq_false h30]
    exact hn _ _ _ _
theorem law10 (hw : W ws) (hn : ∀ y4 y5 y6 y7 y8 y9, E.nx (lE ns x2 (some (.d (wd ws))) y4 y5 y6 y7 y8 y9)) : u_law_10 (lE ns x2 (some (.d (wd ws))) x4 x5 x6 x7 x8 x9) E er := by
  have wl : (ws.map D.int).length = ws.length := List.length_map ..
  have key : ∀ d, Du ws d → u_law_9 (lE ns x2 (some (.d (wd ws))) (some (.d d)) x5 x6 x7 x8 x9) E er := fun d hD => by
    obtain ⟨f, hF⟩ := fu_ex ws
    simp only [gRepT, dEnum, dOwnIx, dZip, gMin1, dDic0, gRep, gIn, gMax1, dBreak, dContinue, dRet, dRetN, dAnd, dOr, dNot, dB, dCall, dCallK, dCons, dVar, dC, dNil, dDrw, allD, dVal, dtAnd, dtOr, dtNot, dTru, dIf, dBin, dUn, dChain, dTup, dLst, dLstN, dSl, dNo, dPart, gSl, dSeqS, dNext, dIfS, dSet, dSetOwn, dFreeze, frz, dDrop, dPar, dPar3, dAsg, dgTup, dgCons, dgNil, dgName, dAppend, dRaiseF, dRaise0, dDrwI, dDrwC, dDrwPop, dDrwSet, dKeep, dLam, dMk, dFld, dFz, dSeq, noOwn, gAdd, DL.gSub, gMul, gDiv, gMod, gPow, gNeg, gLt, gLe, gGt, gGe, gEq, gNe, gIx, gIs, gIsNot, gLen, gAbs, gInt, gStr, gMin2, gMax2, gList, gTuple, gAll, gAny, gSum, gRepr, truD, DL.isNon, List.getElem?_cons_zero, List.getElem?_cons_succ, List.set_cons_zero, List.set_cons_succ, Option.map_some, List.map_cons, List.map_nil, u_law_9]
    refine sl_ok hw hD ?_
    refine ⟨rfl, [_], rfl, sl_ok hw hD ⟨by simp, by simp, _, rfl, says_ok (du_rb hw hD), ?_⟩⟩
    refine ask_ok hw hF ⟨.inl rfl, ?_⟩
    have ne : PyData.eqv (D.bl (isNon d)).py (D.bl (isNon f)).py = false := by
      have a := fu_bal hF
      have b := du_bal hw hD
      cases h1 : isNon d with
      | true =>
        cases h2 : isNon f with
        | true => exact absurd (a.mp h2) (b.mp h1)
        | false => rfl
      | false =>
        cases h2 : isNon f with
        | true => rfl
        | false =>
          by_cases q : Bal ws
          · have := a.mpr q
            rw [h2] at this
            cases this
          · have := b.mpr q
            rw [h1] at this
            cases this
    show match PyData.eqv (D.bl (DL.isNon d)).py (D.bl (DL.isNon f)).py with | true => E.rt (D.bl false) | false => u_law_8 (lE ns x2 (some (.d (wd ws))) (some (.d d)) x5 x6 x7 x8 x9) E er
    rw [ne]
    have k7 : ∀ y5 y6 y7 y8, u_law_7 (lE ns x2 (some (.d (wd ws))) (some (.d d)) y5 y6 y7 y8 x9) E er := fun y5 y6 y7 y8 => law7 fun y9 => hn _ _ _ _ _ _
    simp only [gRepT, dEnum, dOwnIx, dZip, gMin1, dDic0, gRep, gIn, gMax1, dBreak, dContinue, dRet, dRetN, dAnd, dOr, dNot, dB, dCall, dCallK, dCons, dVar, dC, dNil, dDrw, allD, dVal, dtAnd, dtOr, dtNot, dTru, dIf, dBin, dUn, dChain, dTup, dLst, dLstN, dSl, dNo, dPart, gSl, dSeqS, dNext, dIfS, dSet, dSetOwn, dFreeze, frz, dDrop, dPar, dPar3, dAsg, dgTup, dgCons, dgNil, dgName, dAppend, dRaiseF, dRaise0, dDrwI, dDrwC, dDrwPop, dDrwSet, dKeep, dLam, dMk, dFld, dFz, dSeq, noOwn, gAdd, DL.gSub, gMul, gDiv, gMod, gPow, gNeg, gLt, gLe, gGt, gGe, gEq, gNe, gIx, gIs, gIsNot, gLen, gAbs, gInt, gStr, gMin2, gMax2, gList, gTuple, gAll, gAny, gSum, gRepr, truD, DL.isNon, List.getElem?_cons_zero, List.getElem?_cons_succ, List.set_cons_zero, List.set_cons_succ, Option.map_some, List.map_cons, List.map_nil, u_law_8]
    rcases hD with ⟨rfl, rfl⟩ | ⟨hne, hD⟩
    · refine ⟨by simp, .inr ((lay_ints (ws := [])).eq (lay_tup (n := 0) (ds := []) fun d hd => by cases hd) (by decide) (by decide)), ?_⟩
      rw [tup_nil]
      exact k7 _ _ _ _
    · rcases rt_md hw hD with ⟨rfl, _⟩ | ⟨_, a, b, c, e, rfl, M⟩
      · exact k7 _ _ _ _
      · refine ⟨by simp, .inr ((lay_ints (ws := ws)).eq (lay_tup (n := 0) (ds := []) fun d hd => by cases hd) (by decide) (by decide)), ?_⟩
        have : (ws.map D.int).isEmpty = false := by
          cases ws with
          | nil => exact absurd rfl hne
          | cons x l => rfl
        rw [tup_nil, this]
        have b2 := M.b2
        have e2 := M.e2
        simp only [gRepT, dEnum, dOwnIx, dZip, gMin1, dDic0, gRep, gIn, gMax1, dBreak, dContinue, dRet, dRetN, dAnd, dOr, dNot, dB, dCall, dCallK, dCons, dVar, dC, dNil, dDrw, allD, dVal, dtAnd, dtOr, dtNot, dTru, dIf, dBin, dUn, dChain, dTup, dLst, dLstN, dSl, dNo, dPart, gSl, dSeqS, dNext, dIfS, dSet, dSetOwn, dFreeze, frz, dDrop, dPar, dPar3, dAsg, dgTup, dgCons, dgNil, dgName, dAppend, dRaiseF, dRaise0, dDrwI, dDrwC, dDrwPop, dDrwSet, dKeep, dLam, dMk, dFld, dFz, dSeq, noOwn, gAdd, DL.gSub, gMul, gDiv, gMod, gPow, gNeg, gLt, gLe, gGt, gGe, gEq, gNe, gIx, gIs, gIsNot, gLen, gAbs, gInt, gStr, gMin2, gMax2, gList, gTuple, gAll, gAny, gSum, gRepr, truD, DL.isNon, List.getElem?_cons_zero, List.getElem?_cons_succ, List.set_cons_zero, List.set_cons_succ, Option.map_some, List.map_cons, List.map_nil, at2_0, at2_1]
        rw [wl, decide_eq_false (by split <;> omega)]
        exact law5 hw M fun y5 y6 y7 y8 => k7 _ _ _ _
  simp only [gRepT, dEnum, dOwnIx, dZip, gMin1, dDic0, gRep, gIn, gMax1, dBreak, dContinue, dRet, dRetN, dAnd, dOr, dNot, dB, dCall, dCallK, dCons, dVar, dC, dNil, dDrw, allD, dVal, dtAnd, dtOr, dtNot, dTru, dIf, dBin, dUn, dChain, dTup, dLst, dLstN, dSl, dNo, dPart, gSl, dSeqS, dNext, dIfS, dSet, dSetOwn, dFreeze, frz, dDrop, dPar, dPar3, dAsg, dgTup, dgCons, dgNil, dgName, dAppend, dRaiseF, dRaise0, dDrwI, dDrwC, dDrwPop, dDrwSet, dKeep, dLam, dMk, dFld, dFz, dSeq, noOwn, gAdd, DL.gSub, gMul, gDiv, gMod, gPow, gNeg, gLt, gLe, gGt, gGe, gEq, gNe, gIx, gIs, gIsNot, gLen, gAbs, gInt, gStr, gMin2, gMax2, gList, gTuple, gAll, gAny, gSum, gRepr, truD, DL.isNon, List.getElem?_cons_zero, List.getElem?_cons_succ, List.set_cons_zero, List.set_cons_succ, Option.map_some, List.map_cons, List.map_nil, u_law_10]
  refine ⟨by simp, .inr ((lay_ints (ws := ws)).eq (lay_tup (n := 0) (ds := []) fun d hd => by cases hd) (by decide) (by decide)), ?_⟩
  rw [tup_nil]
  cases ws with
  | nil => exact ⟨by simp, key _ (.inl ⟨rfl, rfl⟩)⟩
  | cons x l => exact ⟨_, rfl, hw, by simp, fun d hd => key d (.inr ⟨by simp, hd⟩)⟩
theorem law11 (hn : ∀ y3 y4 y5 y6 y7 y8 y9, E.nx (lE ns x2 y3 y4 y5 y6 y7 y8 y9)) : w_law_11 (lE ns x2 x3 x4 x5 x6 x7 x8 x9) E er := by
  have key : ∀ m : Int, 0 ≤ m → m ≤ 500 → p__law_word [.drw, .d (.int m)] (fun d => u_law_10 (lE ns x2 (some (.d d)) x4 x5 x6 x7 x8 x9) E er) er := fun m m0 m1 => ⟨m, rfl, m0, m1, fun ws h => law10 h fun y4 y5 y6 y7 y8 y9 => hn _ _ _ _ _ _ _⟩
  simp only [gRepT, dEnum, dOwnIx, dZip, gMin1, dDic0, gRep, gIn, gMax1, dBreak, dContinue, dRet, dRetN, dAnd, dOr, dNot, dB, dCall, dCallK, dCons, dVar, dC, dNil, dDrw, allD, dVal, dtAnd, dtOr, dtNot, dTru, dIf, dBin, dUn, dChain, dTup, dLst, dLstN, dSl, dNo, dPart, gSl, dSeqS, dNext, dIfS, dSet, dSetOwn, dFreeze, frz, dDrop, dPar, dPar3, dAsg, dgTup, dgCons, dgNil, dgName, dAppend, dRaiseF, dRaise0, dDrwI, dDrwC, dDrwPop, dDrwSet, dKeep, dLam, dMk, dFld, dFz, dSeq, noOwn, gAdd, DL.gSub, gMul, gDiv, gMod, gPow, gNeg, gLt, gLe, gGt, gGe, gEq, gNe, gIx, gIs, gIsNot, gLen, gAbs, gInt, gStr, gMin2, gMax2, gList, gTuple, gAll, gAny, gSum, gRepr, truD, DL.isNon, List.getElem?_cons_zero, List.getElem?_cons_succ, List.set_cons_zero, List.set_cons_succ, Option.map_some, List.map_cons, List.map_nil, w_law_11]
  refine ⟨12, rfl, by decide, by decide, fun q q0 q1 => ?_⟩
  simp only [gRepT, dEnum, dOwnIx, dZip, gMin1, dDic0, gRep, gIn, gMax1, dBreak, dContinue, dRet, dRetN, dAnd, dOr, dNot, dB, dCall, dCallK, dCons, dVar, dC, dNil, dDrw, allD, dVal, dtAnd, dtOr, dtNot, dTru, dIf, dBin, dUn, dChain, dTup, dLst, dLstN, dSl, dNo, dPart, gSl, dSeqS, dNext, dIfS, dSet, dSetOwn, dFreeze, frz, dDrop, dPar, dPar3, dAsg, dgTup, dgCons, dgNil, dgName, dAppend, dRaiseF, dRaise0, dDrwI, dDrwC, dDrwPop, dDrwSet, dKeep, dLam, dMk, dFld, dFz, dSeq, noOwn, gAdd, DL.gSub, gMul, gDiv, gMod, gPow, gNeg, gLt, gLe, gGt, gGe, gEq, gNe, gIx, gIs, gIsNot, gLen, gAbs, gInt, gStr, gMin2, gMax2, gList, gTuple, gAll, gAny, gSum, gRepr, truD, DL.isNon, List.getElem?_cons_zero, List.getElem?_cons_succ, List.set_cons_zero, List.set_cons_succ, Option.map_some, List.map_cons, List.map_nil]
  by_cases z : q > 0
  · rw [decide_eq_true z]
    refine ⟨by simp, _, rfl, by simp, by simp, fun x hx => ?_⟩
    have hx2 : ∃ m : Int, x = .int m ∧ 0 ≤ m ∧ m ≤ 500 := by
      simp only [List.mem_cons, List.not_mem_nil, or_false] at hx
      rcases hx with rfl | rfl | rfl | rfl <;> exact ⟨_, rfl, by decide, by decide⟩
    obtain ⟨m, rfl, m0, m1⟩ := hx2
    exact key m m0 m1
  · rw [decide_eq_false z]
    exact key 500 (by decide) (by decide)
end
theorem two_self : PyData.eqv (D.tup [.non, .non]).py (D.tup [.non, .non]).py = true := by decide +kernel
theorem lay_two : Lay (.tup [.non, .non]) 1 := lay_tup (n := 0) fun d hd => by
  simp only [List.mem_cons, List.not_mem_nil, or_false] at hd
  rcases hd with rfl | rfl <;> exact lay_non
theorem pu_law (ns : List Int) (h1 : ns.length ≤ 63) (h2 : ∀ n ∈ ns, Builtin.Int.intBits n ≤ 1048576) : t_law ((dStart N_law.length [.d (.scr ns)]).set 1 (some .drw)) { nx := fun _ => False, rt := fun d => d = .bl true } fun _ => False := by
  show t_law [some (.d (.scr ns)), some .drw, none, none, none, none, none, none, none, none] _ _
  simp only [gRepT, dEnum, dOwnIx, dZip, gMin1, dDic0, gRep, gIn, gMax1, dBreak, dContinue, dRet, dRetN, dAnd, dOr, dNot, dB, dCall, dCallK, dCons, dVar, dC, dNil, dDrw, allD, dVal, dtAnd, dtOr, dtNot, dTru, dIf, dBin, dUn, dChain, dTup, dLst, dLstN, dSl, dNo, dPart, gSl, dSeqS, dNext, dIfS, dSet, dSetOwn, dFreeze, frz, dDrop, dPar, dPar3, dAsg, dgTup, dgCons, dgNil, dgName, dAppend, dRaiseF, dRaise0, dDrwI, dDrwC, dDrwPop, dDrwSet, dKeep, dLam, dMk, dFld, dFz, dSeq, noOwn, gAdd, DL.gSub, gMul, gDiv, gMod, gPow, gNeg, gLt, gLe, gGt, gGe, gEq, gNe, gIx, gIs, gIsNot, gLen, gAbs, gInt, gStr, gMin2, gMax2, gList, gTuple, gAll, gAny, gSum, gRepr, truD, DL.isNon, List.getElem?_cons_zero, List.getElem?_cons_succ, List.set_cons_zero, List.set_cons_succ, Option.map_some, List.map_cons, List.map_nil, t_law]
  refine ⟨by simp, sl_ok (ws := []) ⟨by simp, fun x hx => by cases hx⟩ (.inl ⟨rfl, rfl⟩) ⟨by simp, .inr (lay_two.eq lay_two (by decide) (by decide)), ?_⟩⟩
  rw [two_self]
  simp only [gRepT, dEnum, dOwnIx, dZip, gMin1, dDic0, gRep, gIn, gMax1, dBreak, dContinue, dRet, dRetN, dAnd, dOr, dNot, dB, dCall, dCallK, dCons, dVar, dC, dNil, dDrw, allD, dVal, dtAnd, dtOr, dtNot, dTru, dIf, dBin, dUn, dChain, dTup, dLst, dLstN, dSl, dNo, dPart, gSl, dSeqS, dNext, dIfS, dSet, dSetOwn, dFreeze, frz, dDrop, dPar, dPar3, dAsg, dgTup, dgCons, dgNil, dgName, dAppend, dRaiseF, dRaise0, dDrwI, dDrwC, dDrwPop, dDrwSet, dKeep, dLam, dMk, dFld, dFz, dSeq, noOwn, gAdd, DL.gSub, gMul, gDiv, gMod, gPow, gNeg, gLt, gLe, gGt, gGe, gEq, gNe, gIx, gIs, gIsNot, gLen, gAbs, gInt, gStr, gMin2, gMax2, gList, gTuple, gAll, gAny, gSum, gRepr, truD, DL.isNon, List.getElem?_cons_zero, List.getElem?_cons_succ, List.set_cons_zero, List.set_cons_succ, Option.map_some, List.map_cons, List.map_nil, u_law_13, dFor]
  show RgOk1 (5 + (if 9 < (ns.length : Int) then 9 else (ns.length : Int))) ∧ _
  refine ⟨⟨by split <;> omega, by split <;> omega⟩, fun k ρ => ∃ y2 y3 y4 y5 y6 y7 y8 y9, ρ = lE ns y2 y3 y4 y5 y6 y7 y8 y9, ⟨_, _, _, _, _, _, _, _, rfl⟩, ?_, ?_⟩
  · rintro k d ρ hd ⟨y2, y3, y4, y5, y6, y7, y8, y9, rfl⟩
    exact law11 (x2 := some (.d d)) fun y3 y4 y5 y6 y7 y8 y9 => ⟨_, y3, y4, y5, y6, y7, y8, y9, rfl⟩
  · rintro ρ ⟨y2, y3, y4, y5, y6, y7, y8, y9, rfl⟩
    simp only [gRepT, dEnum, dOwnIx, dZip, gMin1, dDic0, gRep, gIn, gMax1, dBreak, dContinue, dRet, dRetN, dAnd, dOr, dNot, dB, dCall, dCallK, dCons, dVar, dC, dNil, dDrw, allD, dVal, dtAnd, dtOr, dtNot, dTru, dIf, dBin, dUn, dChain, dTup, dLst, dLstN, dSl, dNo, dPart, gSl, dSeqS, dNext, dIfS, dSet, dSetOwn, dFreeze, frz, dDrop, dPar, dPar3, dAsg, dgTup, dgCons, dgNil, dgName, dAppend, dRaiseF, dRaise0, dDrwI, dDrwC, dDrwPop, dDrwSet, dKeep, dLam, dMk, dFld, dFz, dSeq, noOwn, gAdd, DL.gSub, gMul, gDiv, gMod, gPow, gNeg, gLt, gLe, gGt, gGe, gEq, gNe, gIx, gIs, gIsNot, gLen, gAbs, gInt, gStr, gMin2, gMax2, gList, gTuple, gAll, gAny, gSum, gRepr, truD, DL.isNon, List.getElem?_cons_zero, List.getElem?_cons_succ, List.set_cons_zero, List.set_cons_succ, Option.map_some, List.map_cons, List.map_nil, u_law_12]
end K40
set_option Elab.async false
set_option linter.all false
set_option maxRecDepth 100000
set_option maxHeartbeats 0
namespace K40
open PySem PySem.Spec PyProof.Rows L2 DL He
abbrev RWL : PySem.W.OpenLaw := PySem.Challenge.rw_everyframe_k40_whole_rates_that_show_a_w
abbrev R : PySem.W.OpenRow := PySem.W.OpenLaw.row RWL
abbrev d_is_number : DefD := ⟨("is_number", none), "is_number", "is_number", defArgs s_is_number, defBody s_is_number, defScope s_is_number, [], []⟩
abbrev d_is_from_to : DefD := ⟨("is_from_to", none), "is_from_to", "is_from_to", defArgs s_is_from_to, defBody s_is_from_to, defScope s_is_from_to, [], []⟩
abbrev d_is_word_told : DefD := ⟨("is_word_told", none), "is_word_told", "is_word_told", defArgs s_is_word_told, defBody s_is_word_told, defScope s_is_word_told, [], []⟩
abbrev d_need_letters : DefD := ⟨("need_letters", none), "need_letters", "need_letters", defArgs s_need_letters, defBody s_need_letters, defScope s_need_letters, [], []⟩
abbrev d_sums_of : DefD := ⟨("sums_of", none), "sums_of", "sums_of", defArgs s_sums_of, defBody s_sums_of, defScope s_sums_of, [], []⟩
abbrev d_stretch_sums : DefD := ⟨("stretch_sums", none), "stretch_sums", "stretch_sums", defArgs s_stretch_sums, defBody s_stretch_sums, defScope s_stretch_sums, [], []⟩
abbrev d_first_unbalanced : DefD := ⟨("first_unbalanced", none), "first_unbalanced", "first_unbalanced", defArgs s_first_unbalanced, defBody s_first_unbalanced, defScope s_first_unbalanced, [], []⟩
abbrev d_is_balanced : DefD := ⟨("is_balanced", none), "is_balanced", "is_balanced", defArgs s_is_balanced, defBody s_is_balanced, defScope s_is_balanced, [], []⟩
abbrev d_lowest : DefD := ⟨("lowest", none), "lowest", "lowest", defArgs s_lowest, defBody s_lowest, defScope s_lowest, [], []⟩
abbrev d_open_rates : DefD := ⟨("open_rates", none), "open_rates", "open_rates", defArgs s_open_rates, defBody s_open_rates, defScope s_open_rates, [], []⟩
abbrev d_slopes : DefD := ⟨("slopes", none), "slopes", "slopes", defArgs s_slopes, defBody s_slopes, defScope s_slopes, [], []⟩
abbrev d__law_begun : DefD := ⟨("_law_begun", none), "_law_begun", "_law_begun", defArgs s__law_begun, defBody s__law_begun, defScope s__law_begun, [], []⟩
abbrev d__law_mixed : DefD := ⟨("_law_mixed", none), "_law_mixed", "_law_mixed", defArgs s__law_mixed, defBody s__law_mixed, defScope s__law_mixed, [], []⟩
abbrev d__law_take : DefD := ⟨("_law_take", none), "_law_take", "_law_take", defArgs s__law_take, defBody s__law_take, defScope s__law_take, [], []⟩
abbrev d__law_pick : DefD := ⟨("_law_pick", none), "_law_pick", "_law_pick", defArgs s__law_pick, defBody s__law_pick, defScope s__law_pick, [], []⟩
abbrev d__law_caught : DefD := ⟨("_law_caught", none), "_law_caught", "_law_caught", defArgs s__law_caught, defBody s__law_caught, defScope s__law_caught, [], []⟩
abbrev d__law_number : DefD := ⟨("_law_number", none), "_law_number", "_law_number", defArgs s__law_number, defBody s__law_number, defScope s__law_number, [], []⟩
abbrev d__law_at : DefD := ⟨("_law_at", none), "_law_at", "_law_at", defArgs s__law_at, defBody s__law_at, defScope s__law_at, [], []⟩
abbrev d__law_common : DefD := ⟨("_law_common", none), "_law_common", "_law_common", defArgs s__law_common, defBody s__law_common, defScope s__law_common, [], []⟩
abbrev d__law_says : DefD := ⟨("_law_says", none), "_law_says", "_law_says", defArgs s__law_says, defBody s__law_says, defScope s__law_says, [], []⟩
abbrev d__law_named : DefD := ⟨("_law_named", none), "_law_named", "_law_named", defArgs s__law_named, defBody s__law_named, defScope s__law_named, [], []⟩
abbrev d__law_shown : DefD := ⟨("_law_shown", none), "_law_shown", "_law_shown", defArgs s__law_shown, defBody s__law_shown, defScope s__law_shown, [], []⟩
abbrev d__law_small_step : DefD := ⟨("_law_small_step", none), "_law_small_step", "_law_small_step", defArgs s__law_small_step, defBody s__law_small_step, defScope s__law_small_step, [], []⟩
abbrev d__law_word : DefD := ⟨("_law_word", none), "_law_word", "_law_word", defArgs s__law_word, defBody s__law_word, defScope s__law_word, [], []⟩
abbrev d__law_no_word : DefD := ⟨("_law_no_word", none), "_law_no_word", "_law_no_word", defArgs s__law_no_word, defBody s__law_no_word, defScope s__law_no_word, [], []⟩
abbrev d__law_sums : DefD := ⟨("_law_sums", none), "_law_sums", "_law_sums", defArgs s__law_sums, defBody s__law_sums, defScope s__law_sums, [], []⟩
abbrev d__law_lowest : DefD := ⟨("_law_lowest", none), "_law_lowest", "_law_lowest", defArgs s__law_lowest, defBody s__law_lowest, defScope s__law_lowest, [], []⟩
abbrev d__law_rates : DefD := ⟨("_law_rates", none), "_law_rates", "_law_rates", defArgs s__law_rates, defBody s__law_rates, defScope s__law_rates, [], []⟩
abbrev d__law_is_between : DefD := ⟨("_law_is_between", none), "_law_is_between", "_law_is_between", defArgs s__law_is_between, defBody s__law_is_between, defScope s__law_is_between, [], []⟩
abbrev d__law_shows : DefD := ⟨("_law_shows", none), "_law_shows", "_law_shows", defArgs s__law_shows, defBody s__law_shows, defScope s__law_shows, [], []⟩
abbrev d_law : DefD := ⟨("law", none), "law", "law", defArgs s_law, defBody s_law, defScope s_law, [], []⟩
def fn : List DefD := [d_is_number, d_is_from_to, d_is_word_told, d_need_letters, d_sums_of, d_stretch_sums, d_first_unbalanced, d_is_balanced, d_lowest, d_open_rates, d_slopes, d__law_begun, d__law_mixed, d__law_take] ++ [d__law_pick, d__law_caught, d__law_number, d__law_at, d__law_common, d__law_says, d__law_named, d__law_shown, d__law_small_step, d__law_word, d__law_no_word, d__law_sums, d__law_lowest, d__law_rates] ++ [d__law_is_between, d__law_shows, d_law]
def fa0 : List Fa := [.glo "is_number", .glo "is_from_to", .glo "is_word_told", .glo "need_letters", .glo "sums_of", .glo "stretch_sums", .glo "first_unbalanced", .glo "is_balanced", .glo "lowest", .glo "open_rates", .glo "slopes", .glo "_law_begun"]
def fa1 : List Fa := [.glo "_law_mixed", .glo "_law_take", .glo "_law_pick", .glo "_law_caught", .glo "_law_number", .glo "_law_at", .glo "_law_common", .glo "_law_says", .glo "_law_named", .glo "_law_shown", .glo "_law_small_step", .glo "_law_word"]
def fa2 : List Fa := [.glo "_law_no_word", .glo "_law_sums", .glo "_law_lowest", .glo "_law_rates", .glo "_law_is_between", .glo "_law_shows", .glo "law", .free "ValueError", .free "abs", .free "all", .free "bool", .free "enumerate"]
def fa3 : List Fa := [.free "int", .free "isinstance", .free "len", .free "list", .free "max", .free "min", .free "range", .free "repr", .free "str", .free "super", .free "tuple", .free "zip"]
def fa4 : List Fa := [.int "MOST_LETTERS" 500, .int "MOST_LETTER" 1000000, .glo "FrameError", .glo "BadFrame", .glo "BadLetters", .glo "BadMany", .glo "BadMost", .glo "BadPace", .glo "BadStep", .glo "BadStride", .glo "BadTurn", .glo "TooMany"]
def fa : List Fa := fa0 ++ fa1 ++ fa2 ++ fa3 ++ fa4
def xs : List Str := ["BadFrame", "BadStep", "TooMany"]
def ini (c : Str) (i : Nat) : IniV := some ("__init__", c ++ ".__init__", defArgs (clsIni (top i)), .stmts (defBody (clsIni (top i))), defScope (clsIni (top i)), mainGlobals, builtinsNs, ["__class__"])
def vs : List IniV := [ini "BadFrame" 6, ini "BadStep" 11, ini "TooMany" 14]
def ex (K : PySem.W.Frag) : Bool :=
  ((["FrameError", "BadFrame", "BadLetters", "BadMany", "BadMost", "BadPace", "BadStep", "BadStride", "BadTurn", "TooMany"] : List Str).all fun c => xOkB K (ga K c)) && (([("BadFrame", "part"), ("BadStep", "part"), ("TooMany", "most")] : List (Str × Str)).all (fun p => txtB prog K p.1 p.2) && (((["FrameError", "BadLetters", "BadMany", "BadMost", "BadPace", "BadStride", "BadTurn"] : List Str).all fun c => PySem.W.excIn K (ga K c) veB "ValueError.__new__") &&
  (((["BadLetters"] : List Str).all fun x => ((["BadFrame", "BadLetters", "BadMany", "BadMost", "BadPace", "BadStep", "BadStride", "BadTurn", "TooMany"] : List Str).all fun y => decide (PySem.W.kitOne K (.ref (ga K x)) (.ref (ga K y)) = some (decide (x = y)))) && (decide (PySem.W.exmOne K (.ref (ga K x)) (.ref (ga K "FrameError")) = some true) && (decide (PySem.W.findIn K (.ref (ga K x)) "part" = some none) && decide (PySem.W.findIn K (.ref (ga K x)) "most" = some none)))) &&
  ((["BadFrame", "BadLetters", "BadMany", "BadMost", "BadPace", "BadStep", "BadStride", "BadTurn", "TooMany"] : List Str).all fun y => ["NoneType", "bool", "int", "str", "list", "tuple", "dict"].all fun t => decide (PySem.W.kitOne K (.type t) (.ref (ga K y)) = some false))))) && decide (PySem.W.nsIn K mainGlobals "gcd" = some (some (.builtin "math.gcd"))) && ((["BadLetters"] : List Str).all fun x => decide (PySem.W.kitOne K (.ref (ga K x)) (.type "ValueError") = some true))
def loose0 : List PySem.Str := ["__name__", "is_number", "is_from_to", "FrameError", "BadFrame", "BadLetters", "BadMany", "BadMost", "BadPace", "BadStep", "BadStride", "BadTurn", "TooMany", "MOST_LETTERS", "MOST_LETTER"]
def loose1 : List PySem.Str := ["is_word_told", "need_letters", "sums_of", "stretch_sums", "first_unbalanced", "is_balanced", "lowest", "open_rates", "slopes", "_law_begun", "_law_mixed", "_law_take", "_law_pick", "_law_caught", "_law_number"]
def loose2 : List PySem.Str := ["_law_at", "_law_common", "_law_says", "_law_named", "_law_shown", "_law_small_step", "_law_word", "_law_no_word", "_law_sums", "_law_lowest", "_law_rates", "_law_is_between", "_law_shows"]
def loose : List PySem.Str := loose0 ++ loose1 ++ loose2
def tf : List Defn := [("law", none)]
abbrev hk : PySem.W.Hook := hookH 4 fa fn tf xs vs ex
def ob (s : PySem.W.SharedT) : AlH := obsH 4 fa fn tf xs ex (HandSHeadRun.getT s)
theorem ob_eq (s : PySem.W.SharedT) : ob s = hk.obs s.abs := obsH_eq (HandSHeadRun.getT_eq s)
theorem run (w : World) : HandSHeadRun.RunEqI R (PySem.W.view R.prog [0, 47]) hk ob 20000 loose w := by
  unfold HandSHeadRun.RunEqI
  kernel_rfl
end K40
set_option Elab.async false
set_option linter.all false
set_option maxRecDepth 100000
set_option maxHeartbeats 2000000
namespace K40
open PySem PySem.Spec PyProof.Rows L2 DL He
theorem ini_at {K : PySem.W.Frag} {w : World} {h : Heap} (c : SaysH fa fn tf xs vs ex w h K) (i : Nat) {x : Str} {v : IniV} (hx : xs[i]? = some x := by rfl) (hv : vs[i]? = some v := by rfl) : iniV K x = v := by
  have e : (xs.map (iniV K))[i]? = vs[i]? := congrArg (·[i]?) c.ini
  rw [List.getElem?_map, hx, hv] at e
  exact Option.some.inj e
abbrev raised : List Str := ["BadLetters"]
theorem cls_at {K : PySem.W.Frag} {w : World} {h : Heap} {mg : Mg} (X : K.In h) (G : h.Ns mainGlobals mg) (c : SaysH fa fn tf xs vs ex w h K) : ∀ x ∈ xnames, mg x = some (.ref (ga K x)) := by
  intro x hx
  unfold xnames at hx
  simp only [List.mem_cons, List.not_mem_nil, or_false] at hx
  rcases hx with rfl | rfl | rfl | rfl | rfl | rfl | rfl | rfl | rfl
  · exact He.glo_ok X G (c.t.d.fact 51 (f := .glo "BadFrame") rfl)
  · exact He.glo_ok X G (c.t.d.fact 52 (f := .glo "BadLetters") rfl)
  · exact He.glo_ok X G (c.t.d.fact 53 (f := .glo "BadMany") rfl)
  · exact He.glo_ok X G (c.t.d.fact 54 (f := .glo "BadMost") rfl)
  · exact He.glo_ok X G (c.t.d.fact 55 (f := .glo "BadPace") rfl)
  · exact He.glo_ok X G (c.t.d.fact 56 (f := .glo "BadStep") rfl)
  · exact He.glo_ok X G (c.t.d.fact 57 (f := .glo "BadStride") rfl)
  · exact He.glo_ok X G (c.t.d.fact 58 (f := .glo "BadTurn") rfl)
  · exact He.glo_ok X G (c.t.d.fact 59 (f := .glo "TooMany") rfl)
theorem fc_of {K : PySem.W.Frag} {w : World} {h : Heap} {mg : Mg} (X : K.In h) (G : h.Ns mainGlobals mg) (c : SaysH fa fn tf xs vs ex w h K) : Fc prog K mg := by
  have cls := cls_at X G c
  have m := c.more
  unfold ex at m
  simp only [Bool.and_eq_true] at m
  obtain ⟨⟨⟨m1, m2, m3, m4, m5⟩, m6⟩, mv⟩ := m
  have m1 := List.all_eq_true.mp m1
  have m2 := List.all_eq_true.mp m2
  have m3 := List.all_eq_true.mp m3
  have m4 := List.all_eq_true.mp m4
  have m5 := List.all_eq_true.mp m5
  have rais : ∀ x : Str, x ∈ raised → x ∈ xnames := by
    intro x hx
    unfold raised at hx
    simp only [List.mem_cons, List.not_mem_nil, or_false] at hx
    rcases hx with rfl
    · exact List.mem_cons_of_mem _ List.mem_cons_self
  have xok : ∀ x ∈ xnames, XOk K (ga K x) := fun x hx => xOk_by (m1 x (List.mem_cons_of_mem _ hx))
  have kit : ∀ x ∈ raised, (∀ y ∈ xnames, PySem.W.kitOne K (.ref (ga K x)) (.ref (ga K y)) = some (decide (x = y))) ∧ PySem.W.exmOne K (.ref (ga K x)) (.ref (ga K "FrameError")) = some true ∧ PySem.W.findIn K (.ref (ga K x)) "part" = some none ∧ PySem.W.findIn K (.ref (ga K x)) "most" = some none := fun x hx => by
    have z := m4 x hx
    simp only [Bool.and_eq_true, decide_eq_true_eq] at z
    exact ⟨fun y hy => of_decide_eq_true (List.all_eq_true.mp z.1 y hy), z.2⟩
  have same : ∀ {x : Str} {C : Addr}, x ∈ xnames → mg x = some (.ref C) → C = ga K x := fun hx e => by
    rw [cls _ hx] at e
    cases e
    rfl
  constructor
  · exact He.free_ok X G (c.t.d.fact 31 (f := .free "ValueError") rfl)
  · exact He.free_ok X G (c.t.d.fact 32 (f := .free "abs") rfl)
  · exact He.free_ok X G (c.t.d.fact 33 (f := .free "all") rfl)
  · exact He.free_ok X G (c.t.d.fact 34 (f := .free "bool") rfl)
  · exact He.free_ok X G (c.t.d.fact 35 (f := .free "enumerate") rfl)
  · exact He.free_ok X G (c.t.d.fact 36 (f := .free "int") rfl)
  · exact He.free_ok X G (c.t.d.fact 37 (f := .free "isinstance") rfl)
  · exact He.free_ok X G (c.t.d.fact 38 (f := .free "len") rfl)
  · exact He.free_ok X G (c.t.d.fact 39 (f := .free "list") rfl)
  · exact He.free_ok X G (c.t.d.fact 40 (f := .free "max") rfl)
  · exact He.free_ok X G (c.t.d.fact 41 (f := .free "min") rfl)
  · exact He.free_ok X G (c.t.d.fact 42 (f := .free "range") rfl)
  · exact He.free_ok X G (c.t.d.fact 43 (f := .free "repr") rfl)
  · exact He.free_ok X G (c.t.d.fact 44 (f := .free "str") rfl)
  · exact He.free_ok X G (c.t.d.fact 46 (f := .free "tuple") rfl)
  · exact He.free_ok X G (c.t.d.fact 47 (f := .free "zip") rfl)
  · exact He.int_ok X G (c.t.d.fact 48 (f := .int "MOST_LETTERS" 500) rfl)
  · exact He.int_ok X G (c.t.d.fact 49 (f := .int "MOST_LETTER" 1000000) rfl)
  · exact PySem.W.mg_of X G (of_decide_eq_true m6)
  · exact ⟨_, He.glo_ok X G (c.t.d.fact 50 (f := .glo "FrameError") rfl)⟩
  · exact ⟨_, He.glo_ok X G (c.t.d.fact 50 (f := .glo "FrameError") rfl), m3 "FrameError" (List.mem_cons_self), xOk_by (m1 "FrameError" (List.mem_cons_self))⟩
  · exact ⟨_, He.glo_ok X G (c.t.d.fact 51 (f := .glo "BadFrame") rfl)⟩
  · exact ⟨_, _, He.glo_ok X G (c.t.d.fact 51 (f := .glo "BadFrame") rfl), txt_of (m2 ("BadFrame", "part") (List.mem_cons_self)) (ini_at c 0) rfl rfl rfl rfl (fun _ _ _ _ _ _ _ _ => rfl) rfl rfl rfl (by decide) (by decide) rfl, xOk_by (m1 "BadFrame" (List.mem_cons_of_mem _ List.mem_cons_self))⟩
  · exact ⟨_, He.glo_ok X G (c.t.d.fact 52 (f := .glo "BadLetters") rfl)⟩
  · exact ⟨_, He.glo_ok X G (c.t.d.fact 52 (f := .glo "BadLetters") rfl), m3 "BadLetters" (List.mem_cons_of_mem _ List.mem_cons_self), xOk_by (m1 "BadLetters" (List.mem_cons_of_mem _ (List.mem_cons_of_mem _ List.mem_cons_self)))⟩
  · exact ⟨_, He.glo_ok X G (c.t.d.fact 53 (f := .glo "BadMany") rfl)⟩
  · exact ⟨_, He.glo_ok X G (c.t.d.fact 53 (f := .glo "BadMany") rfl), m3 "BadMany" (List.mem_cons_of_mem _ (List.mem_cons_of_mem _ List.mem_cons_self)), xOk_by (m1 "BadMany" (List.mem_cons_of_mem _ (List.mem_cons_of_mem _ (List.mem_cons_of_mem _ List.mem_cons_self))))⟩
  · exact ⟨_, He.glo_ok X G (c.t.d.fact 54 (f := .glo "BadMost") rfl)⟩
  · exact ⟨_, He.glo_ok X G (c.t.d.fact 54 (f := .glo "BadMost") rfl), m3 "BadMost" (List.mem_cons_of_mem _ (List.mem_cons_of_mem _ (List.mem_cons_of_mem _ List.mem_cons_self))), xOk_by (m1 "BadMost" (List.mem_cons_of_mem _ (List.mem_cons_of_mem _ (List.mem_cons_of_mem _ (List.mem_cons_of_mem _ List.mem_cons_self)))))⟩
  · exact ⟨_, He.glo_ok X G (c.t.d.fact 55 (f := .glo "BadPace") rfl)⟩
  · exact ⟨_, He.glo_ok X G (c.t.d.fact 55 (f := .glo "BadPace") rfl), m3 "BadPace" (List.mem_cons_of_mem _ (List.mem_cons_of_mem _ (List.mem_cons_of_mem _ (List.mem_cons_of_mem _ List.mem_cons_self)))), xOk_by (m1 "BadPace" (List.mem_cons_of_mem _ (List.mem_cons_of_mem _ (List.mem_cons_of_mem _ (List.mem_cons_of_mem _ (List.mem_cons_of_mem _ List.mem_cons_self))))))⟩
  · exact ⟨_, He.glo_ok X G (c.t.d.fact 56 (f := .glo "BadStep") rfl)⟩
  · exact ⟨_, _, He.glo_ok X G (c.t.d.fact 56 (f := .glo "BadStep") rfl), txt_of (m2 ("BadStep", "part") (List.mem_cons_of_mem _ List.mem_cons_self)) (ini_at c 1) rfl rfl rfl rfl (fun _ _ _ _ _ _ _ _ => rfl) rfl rfl rfl (by decide) (by decide) rfl, xOk_by (m1 "BadStep" (List.mem_cons_of_mem _ (List.mem_cons_of_mem _ (List.mem_cons_of_mem _ (List.mem_cons_of_mem _ (List.mem_cons_of_mem _ (List.mem_cons_of_mem _ List.mem_cons_self)))))))⟩
  · exact ⟨_, He.glo_ok X G (c.t.d.fact 57 (f := .glo "BadStride") rfl)⟩
  · exact ⟨_, He.glo_ok X G (c.t.d.fact 57 (f := .glo "BadStride") rfl), m3 "BadStride" (List.mem_cons_of_mem _ (List.mem_cons_of_mem _ (List.mem_cons_of_mem _ (List.mem_cons_of_mem _ (List.mem_cons_of_mem _ List.mem_cons_self))))), xOk_by (m1 "BadStride" (List.mem_cons_of_mem _ (List.mem_cons_of_mem _ (List.mem_cons_of_mem _ (List.mem_cons_of_mem _ (List.mem_cons_of_mem _ (List.mem_cons_of_mem _ (List.mem_cons_of_mem _ List.mem_cons_self))))))))⟩
  · exact ⟨_, He.glo_ok X G (c.t.d.fact 58 (f := .glo "BadTurn") rfl)⟩
  · exact ⟨_, He.glo_ok X G (c.t.d.fact 58 (f := .glo "BadTurn") rfl), m3 "BadTurn" (List.mem_cons_of_mem _ (List.mem_cons_of_mem _ (List.mem_cons_of_mem _ (List.mem_cons_of_mem _ (List.mem_cons_of_mem _ (List.mem_cons_of_mem _ List.mem_cons_self)))))), xOk_by (m1 "BadTurn" (List.mem_cons_of_mem _ (List.mem_cons_of_mem _ (List.mem_cons_of_mem _ (List.mem_cons_of_mem _ (List.mem_cons_of_mem _ (List.mem_cons_of_mem _ (List.mem_cons_of_mem _ (List.mem_cons_of_mem _ List.mem_cons_self)))))))))⟩
  · exact ⟨_, He.glo_ok X G (c.t.d.fact 59 (f := .glo "TooMany") rfl)⟩
  · exact ⟨_, _, He.glo_ok X G (c.t.d.fact 59 (f := .glo "TooMany") rfl), txt_of (m2 ("TooMany", "most") (List.mem_cons_of_mem _ (List.mem_cons_of_mem _ List.mem_cons_self))) (ini_at c 2) rfl rfl rfl rfl (fun _ _ _ _ _ _ _ _ => rfl) rfl rfl rfl (by decide) (by decide) rfl, xOk_by (m1 "TooMany" (List.mem_cons_of_mem _ (List.mem_cons_of_mem _ (List.mem_cons_of_mem _ (List.mem_cons_of_mem _ (List.mem_cons_of_mem _ (List.mem_cons_of_mem _ (List.mem_cons_of_mem _ (List.mem_cons_of_mem _ (List.mem_cons_of_mem _ List.mem_cons_self))))))))))⟩
  · refine ⟨fun x y b hs => ?_, fun y hy => ⟨_, cls y hy, fun t ht => of_decide_eq_true (List.all_eq_true.mp (m5 y hy) t ht)⟩⟩
    unfold xsub at hs
    split at hs
    · rename_i hxy
      cases hs
      exact ⟨_, _, cls x (rais x hxy.1), cls y hxy.2, xok x (rais x hxy.1), (kit x hxy.1).1 y hxy.2⟩
    · cases hs
  · intro f hf x C hx hok
    obtain rfl := same (rais x hok) hx
    refine ⟨xok x (rais x hok), ?_⟩
    rcases hf with rfl | rfl
    · exact (kit x hok).2.2.1
    · exact (kit x hok).2.2.2
  · intro FE hFE x C hx hC
    obtain rfl := same (rais x hx) hC
    have e := hFE.symm.trans (He.glo_ok X G (c.t.d.fact 50 (f := .glo "FrameError") rfl))
    cases e
    exact (kit x hx).2.1
  · exact fun x hx => ⟨ga K x, cls x (rais x hx), xok x (rais x hx), of_decide_eq_true (List.all_eq_true.mp mv x hx)⟩
end K40
set_option Elab.async false
set_option linter.all false
set_option maxRecDepth 100000
set_option maxHeartbeats 2000000
namespace K40
open PySem PySem.Spec PyProof.Rows L2 DL He
abbrev lawT (K : PySem.W.Frag) : List (Addr × Str) := [((cT K ("law", none)).2, "law.<locals>.<lambda>")]
theorem law_ok {K : PySem.W.Frag} {w : World} {h base : Heap} {mg : Mg} (X : K.In h) (G : h.Ns mainGlobals mg) (c : SaysH fa fn tf xs vs ex w h K) (tb : ∀ q ∈ tf, LamX.TabB base mg (cT K q).1 (cT K q).2) : Go prog w K mg base "law" s_law ["script"] 8 (SpLaw K mg (lawT K)) := by
  have fc := fc_of X G c
  obtain ⟨fd_is_number, F_is_number⟩ := c.t.d.def_ 0 (d := d_is_number) rfl
  have m_is_number := He.glo_ok X G (c.t.d.fact 0 (f := .glo "is_number") rfl)
  have n_is_number : Binds K fd_is_number ["thing"] [] := F_is_number.bindsN fun _ _ _ _ _ _ us hl => match us, hl with | [_], _ => rfl
  have O_is_number : Fo prog w K mg base "is_number" s_is_number ["thing"] 1 (SpF K mg (lawT K) p_is_number) := def_ok m_is_number F_is_number sc_is_number n_is_number (b_is_number fc ) pu_is_number
  obtain ⟨fd_is_from_to, F_is_from_to⟩ := c.t.d.def_ 1 (d := d_is_from_to) rfl
  have m_is_from_to := He.glo_ok X G (c.t.d.fact 1 (f := .glo "is_from_to") rfl)
  have n_is_from_to : Binds K fd_is_from_to ["thing", "least", "most"] [] := F_is_from_to.bindsN fun _ _ _ _ _ _ us hl => match us, hl with | [_, _, _], _ => rfl
  have O_is_from_to : Fo prog w K mg base "is_from_to" s_is_from_to ["thing", "least", "most"] 2 (SpF K mg (lawT K) p_is_from_to) := def_ok m_is_from_to F_is_from_to sc_is_from_to n_is_from_to (b_is_from_to fc O_is_number) pu_is_from_to
  obtain ⟨fd_is_word_told, F_is_word_told⟩ := c.t.d.def_ 2 (d := d_is_word_told) rfl
  have m_is_word_told := He.glo_ok X G (c.t.d.fact 2 (f := .glo "is_word_told") rfl)
  have n_is_word_told : Binds K fd_is_word_told ["thing"] [] := F_is_word_told.bindsN fun _ _ _ _ _ _ us hl => match us, hl with | [_], _ => rfl
  have O_is_word_told : Fo prog w K mg base "is_word_told" s_is_word_told ["thing"] 3 (SpF K mg (lawT K) p_is_word_told) := def_ok m_is_word_told F_is_word_told sc_is_word_told n_is_word_told (b_is_word_told fc O_is_from_to) pu_is_word_told
  obtain ⟨fd_need_letters, F_need_letters⟩ := c.t.d.def_ 3 (d := d_need_letters) rfl
  have m_need_letters := He.glo_ok X G (c.t.d.fact 3 (f := .glo "need_letters") rfl)
  have n_need_letters : Binds K fd_need_letters ["word"] [] := F_need_letters.bindsN fun _ _ _ _ _ _ us hl => match us, hl with | [_], _ => rfl
  have O_need_letters : Fo prog w K mg base "need_letters" s_need_letters ["word"] 4 (SpF K mg (lawT K) p_need_letters) := def_ok m_need_letters F_need_letters sc_need_letters n_need_letters (b_need_letters fc O_is_word_told) pu_need_letters
  obtain ⟨fd_sums_of, F_sums_of⟩ := c.t.d.def_ 4 (d := d_sums_of) rfl
  have m_sums_of := He.glo_ok X G (c.t.d.fact 4 (f := .glo "sums_of") rfl)
  have n_sums_of : Binds K fd_sums_of ["word"] [] := F_sums_of.bindsN fun _ _ _ _ _ _ us hl => match us, hl with | [_], _ => rfl
  have O_sums_of : Fo prog w K mg base "sums_of" s_sums_of ["word"] 1 (SpF K mg (lawT K) p_sums_of) := def_ok m_sums_of F_sums_of sc_sums_of n_sums_of (b_sums_of fc ) pu_sums_of
  obtain ⟨fd_stretch_sums, F_stretch_sums⟩ := c.t.d.def_ 5 (d := d_stretch_sums) rfl
  have m_stretch_sums := He.glo_ok X G (c.t.d.fact 5 (f := .glo "stretch_sums") rfl)
  have n_stretch_sums : Binds K fd_stretch_sums ["sums", "long"] [] := F_stretch_sums.bindsN fun _ _ _ _ _ _ us hl => match us, hl with | [_, _], _ => rfl
  have O_stretch_sums : Fo prog w K mg base "stretch_sums" s_stretch_sums ["sums", "long"] 1 (SpF K mg (lawT K) p_stretch_sums) := def_ok m_stretch_sums F_stretch_sums sc_stretch_sums n_stretch_sums (b_stretch_sums fc ) pu_stretch_sums
  obtain ⟨fd_first_unbalanced, F_first_unbalanced⟩ := c.t.d.def_ 6 (d := d_first_unbalanced) rfl
  have m_first_unbalanced := He.glo_ok X G (c.t.d.fact 6 (f := .glo "first_unbalanced") rfl)
  have n_first_unbalanced : Binds K fd_first_unbalanced ["word"] [] := F_first_unbalanced.bindsN fun _ _ _ _ _ _ us hl => match us, hl with | [_], _ => rfl
  have O_first_unbalanced : Fo prog w K mg base "first_unbalanced" s_first_unbalanced ["word"] 2 (SpF K mg (lawT K) p_first_unbalanced) := def_ok m_first_unbalanced F_first_unbalanced sc_first_unbalanced n_first_unbalanced (b_first_unbalanced fc O_sums_of O_stretch_sums) pu_first_unbalanced
  obtain ⟨fd_is_balanced, F_is_balanced⟩ := c.t.d.def_ 7 (d := d_is_balanced) rfl
  have m_is_balanced := He.glo_ok X G (c.t.d.fact 7 (f := .glo "is_balanced") rfl)
  have n_is_balanced : Binds K fd_is_balanced ["word"] [] := F_is_balanced.bindsN fun _ _ _ _ _ _ us hl => match us, hl with | [_], _ => rfl
  have O_is_balanced : Fo prog w K mg base "is_balanced" s_is_balanced ["word"] 5 (SpF K mg (lawT K) p_is_balanced) := def_ok m_is_balanced F_is_balanced sc_is_balanced n_is_balanced (b_is_balanced fc O_need_letters O_first_unbalanced) pu_is_balanced
  obtain ⟨fd_lowest, F_lowest⟩ := c.t.d.def_ 8 (d := d_lowest) rfl
  have m_lowest := He.glo_ok X G (c.t.d.fact 8 (f := .glo "lowest") rfl)
  have n_lowest : Binds K fd_lowest ["above", "below"] [] := F_lowest.bindsN fun _ _ _ _ _ _ us hl => match us, hl with | [_, _], _ => rfl
  have O_lowest : Fo prog w K mg base "lowest" s_lowest ["above", "below"] 1 (SpF K mg (lawT K) p_lowest) := def_ok m_lowest F_lowest sc_lowest n_lowest (b_lowest fc ) pu_lowest
  obtain ⟨fd_open_rates, F_open_rates⟩ := c.t.d.def_ 9 (d := d_open_rates) rfl
  have m_open_rates := He.glo_ok X G (c.t.d.fact 9 (f := .glo "open_rates") rfl)
  have n_open_rates : Binds K fd_open_rates ["word"] [] := F_open_rates.bindsN fun _ _ _ _ _ _ us hl => match us, hl with | [_], _ => rfl
  have O_open_rates : Fo prog w K mg base "open_rates" s_open_rates ["word"] 2 (SpF K mg (lawT K) p_open_rates) := def_ok m_open_rates F_open_rates sc_open_rates n_open_rates (b_open_rates fc O_sums_of O_stretch_sums O_lowest) pu_open_rates
  obtain ⟨fd_slopes, F_slopes⟩ := c.t.d.def_ 10 (d := d_slopes) rfl
  have m_slopes := He.glo_ok X G (c.t.d.fact 10 (f := .glo "slopes") rfl)
  have n_slopes : Binds K fd_slopes ["word"] [] := F_slopes.bindsN fun _ _ _ _ _ _ us hl => match us, hl with | [_], _ => rfl
  have O_slopes : Fo prog w K mg base "slopes" s_slopes ["word"] 5 (SpF K mg (lawT K) p_slopes) := def_ok m_slopes F_slopes sc_slopes n_slopes (b_slopes fc O_need_letters O_open_rates) pu_slopes
  obtain ⟨fd__law_begun, F__law_begun⟩ := c.t.d.def_ 11 (d := d__law_begun) rfl
  have m__law_begun := He.glo_ok X G (c.t.d.fact 11 (f := .glo "_law_begun") rfl)
  have n__law_begun : Binds K fd__law_begun ["script"] [] := F__law_begun.bindsN fun _ _ _ _ _ _ us hl => match us, hl with | [_], _ => rfl
  have O__law_begun : Fo prog w K mg base "_law_begun" s__law_begun ["script"] 1 (SpB K mg (lawT K)) := o__law_begun fc pb__law_begun m__law_begun F__law_begun n__law_begun
  obtain ⟨fd__law_mixed, F__law_mixed⟩ := c.t.d.def_ 12 (d := d__law_mixed) rfl
  have m__law_mixed := He.glo_ok X G (c.t.d.fact 12 (f := .glo "_law_mixed") rfl)
  have n__law_mixed : Binds K fd__law_mixed ["draw"] [] := F__law_mixed.bindsN fun _ _ _ _ _ _ us hl => match us, hl with | [_], _ => rfl
  have O__law_mixed : Fo prog w K mg base "_law_mixed" s__law_mixed ["draw"] 1 (SpF K mg (lawT K) p__law_mixed) := def_ok m__law_mixed F__law_mixed sc__law_mixed n__law_mixed (b__law_mixed fc ) pu__law_mixed
  obtain ⟨fd__law_take, F__law_take⟩ := c.t.d.def_ 13 (d := d__law_take) rfl
  have m__law_take := He.glo_ok X G (c.t.d.fact 13 (f := .glo "_law_take") rfl)
  have n__law_take : Binds K fd__law_take ["draw", "amount"] [] := F__law_take.bindsN fun _ _ _ _ _ _ us hl => match us, hl with | [_, _], _ => rfl
  have O__law_take : Fo prog w K mg base "_law_take" s__law_take ["draw", "amount"] 2 (SpF K mg (lawT K) p__law_take) := def_ok m__law_take F__law_take sc__law_take n__law_take (b__law_take fc O__law_mixed) pu__law_take
  obtain ⟨fd__law_pick, F__law_pick⟩ := c.t.d.def_ 14 (d := d__law_pick) rfl
  have m__law_pick := He.glo_ok X G (c.t.d.fact 14 (f := .glo "_law_pick") rfl)
  have n__law_pick : Binds K fd__law_pick ["draw", "some"] [] := F__law_pick.bindsN fun _ _ _ _ _ _ us hl => match us, hl with | [_, _], _ => rfl
  have O__law_pick : Fo prog w K mg base "_law_pick" s__law_pick ["draw", "some"] 3 (SpF K mg (lawT K) p__law_pick) := def_ok m__law_pick F__law_pick sc__law_pick n__law_pick (b__law_pick fc O__law_take) pu__law_pick
  have LO : ∀ p ∈ LT, LamOk prog w K mg base (lawT K) 6 p.1 p.2 := by
    intro p hp
    unfold LT at hp
    simp only [List.mem_cons, List.not_mem_nil, or_false] at hp
    rcases hp with rfl
    · exact lam_ok (lamSt_by (by decide +kernel) fun _ _ _ _ => rfl) (te := te0) (fun A outer s H E f c' cl Z hr => (qe_call O_slopes hr (by decide) rfl (qa_cons (qe_var 0) qa_nil))) pl_lam0
  obtain ⟨fd__law_caught, F__law_caught⟩ := c.t.d.def_ 15 (d := d__law_caught) rfl
  have m__law_caught := He.glo_ok X G (c.t.d.fact 15 (f := .glo "_law_caught") rfl)
  have n__law_caught : Binds K fd__law_caught ["work"] [] := F__law_caught.bindsN fun _ _ _ _ _ _ us hl => match us, hl with | [_], _ => rfl
  have O__law_caught : Fo prog w K mg base "_law_caught" s__law_caught ["work"] 7 (SpF K mg (lawT K) p__law_caught) := def_ok m__law_caught F__law_caught sc__law_caught n__law_caught (b__law_caught fc  LO) pu__law_caught
  obtain ⟨fd__law_number, F__law_number⟩ := c.t.d.def_ 16 (d := d__law_number) rfl
  have m__law_number := He.glo_ok X G (c.t.d.fact 16 (f := .glo "_law_number") rfl)
  have n__law_number : Binds K fd__law_number ["draw", "most"] [] := F__law_number.bindsN fun _ _ _ _ _ _ us hl => match us, hl with | [_, _], _ => rfl
  have O__law_number : Fo prog w K mg base "_law_number" s__law_number ["draw", "most"] 4 (SpF K mg (lawT K) p__law_number) := def_ok m__law_number F__law_number sc__law_number n__law_number (b__law_number fc O__law_pick O__law_take) pu__law_number
  obtain ⟨fd__law_at, F__law_at⟩ := c.t.d.def_ 17 (d := d__law_at) rfl
  have m__law_at := He.glo_ok X G (c.t.d.fact 17 (f := .glo "_law_at") rfl)
  have n__law_at : Binds K fd__law_at ["step", "frame"] [] := F__law_at.bindsN fun _ _ _ _ _ _ us hl => match us, hl with | [_, _], _ => rfl
  have O__law_at : Fo prog w K mg base "_law_at" s__law_at ["step", "frame"] 1 (SpF K mg (lawT K) p__law_at) := def_ok m__law_at F__law_at sc__law_at n__law_at (b__law_at fc ) pu__law_at
  obtain ⟨fd__law_common, F__law_common⟩ := c.t.d.def_ 18 (d := d__law_common) rfl
  have m__law_common := He.glo_ok X G (c.t.d.fact 18 (f := .glo "_law_common") rfl)
  have n__law_common : Binds K fd__law_common ["one", "other"] [] := F__law_common.bindsN fun _ _ _ _ _ _ us hl => match us, hl with | [_, _], _ => rfl
  have O__law_common : Fo prog w K mg base "_law_common" s__law_common ["one", "other"] 1 (SpF K mg (lawT K) p__law_common) := def_ok m__law_common F__law_common sc__law_common n__law_common (b__law_common fc ) pu__law_common
  obtain ⟨fd__law_says, F__law_says⟩ := c.t.d.def_ 19 (d := d__law_says) rfl
  have m__law_says := He.glo_ok X G (c.t.d.fact 19 (f := .glo "_law_says") rfl)
  have n__law_says : Binds K fd__law_says ["told_here", "due"] [] := F__law_says.bindsN fun _ _ _ _ _ _ us hl => match us, hl with | [_, _], _ => rfl
  have O__law_says : Go prog w K mg base "_law_says" s__law_says ["told_here", "due"] 1 (SpF K mg (lawT K) p__law_says) := def_okG m__law_says F__law_says sc__law_says n__law_says (b__law_says fc ) pu__law_says
  obtain ⟨fd__law_named, F__law_named⟩ := c.t.d.def_ 20 (d := d__law_named) rfl
  have m__law_named := He.glo_ok X G (c.t.d.fact 20 (f := .glo "_law_named") rfl)
  have n__law_named : Binds K fd__law_named ["error"] [] := F__law_named.bindsN fun _ _ _ _ _ _ us hl => match us, hl with | [_], _ => rfl
  have O__law_named : Fo prog w K mg base "_law_named" s__law_named ["error"] 1 (SpF K mg (lawT K) p__law_named) := def_ok m__law_named F__law_named sc__law_named n__law_named (b__law_named fc ) pu__law_named
  obtain ⟨fd__law_shown, F__law_shown⟩ := c.t.d.def_ 21 (d := d__law_shown) rfl
  have m__law_shown := He.glo_ok X G (c.t.d.fact 21 (f := .glo "_law_shown") rfl)
  have n__law_shown : Binds K fd__law_shown ["step", "frame", "many"] [] := F__law_shown.bindsN fun _ _ _ _ _ _ us hl => match us, hl with | [_, _, _], _ => rfl
  have O__law_shown : Fo prog w K mg base "_law_shown" s__law_shown ["step", "frame", "many"] 2 (SpF K mg (lawT K) p__law_shown) := def_ok m__law_shown F__law_shown sc__law_shown n__law_shown (b__law_shown fc O__law_at) pu__law_shown
  obtain ⟨fd__law_small_step, F__law_small_step⟩ := c.t.d.def_ 22 (d := d__law_small_step) rfl
  have m__law_small_step := He.glo_ok X G (c.t.d.fact 22 (f := .glo "_law_small_step") rfl)
  have n__law_small_step : Binds K fd__law_small_step ["draw", "most"] [] := F__law_small_step.bindsN fun _ _ _ _ _ _ us hl => match us, hl with | [_, _], _ => rfl
  have O__law_small_step : Fo prog w K mg base "_law_small_step" s__law_small_step ["draw", "most"] 5 (SpF K mg (lawT K) p__law_small_step) := def_ok m__law_small_step F__law_small_step sc__law_small_step n__law_small_step (b__law_small_step fc O__law_pick O__law_take O__law_number) pu__law_small_step
  obtain ⟨fd__law_word, F__law_word⟩ := c.t.d.def_ 23 (d := d__law_word) rfl
  have m__law_word := He.glo_ok X G (c.t.d.fact 23 (f := .glo "_law_word") rfl)
  have n__law_word : Binds K fd__law_word ["draw", "most"] [] := F__law_word.bindsN fun _ _ _ _ _ _ us hl => match us, hl with | [_, _], _ => rfl
  have O__law_word : Fo prog w K mg base "_law_word" s__law_word ["draw", "most"] 6 (SpF K mg (lawT K) p__law_word) := def_ok m__law_word F__law_word sc__law_word n__law_word (b__law_word fc O__law_shown O__law_take O__law_small_step O__law_number O__law_pick) pu__law_word
  obtain ⟨fd__law_no_word, F__law_no_word⟩ := c.t.d.def_ 24 (d := d__law_no_word) rfl
  have m__law_no_word := He.glo_ok X G (c.t.d.fact 24 (f := .glo "_law_no_word") rfl)
  have n__law_no_word : Binds K fd__law_no_word ["draw"] [] := F__law_no_word.bindsN fun _ _ _ _ _ _ us hl => match us, hl with | [_], _ => rfl
  have O__law_no_word : Fo prog w K mg base "_law_no_word" s__law_no_word ["draw"] 4 (SpF K mg (lawT K) p__law_no_word) := def_ok m__law_no_word F__law_no_word sc__law_no_word n__law_no_word (b__law_no_word fc O__law_pick) pu__law_no_word
  obtain ⟨fd__law_sums, F__law_sums⟩ := c.t.d.def_ 25 (d := d__law_sums) rfl
  have m__law_sums := He.glo_ok X G (c.t.d.fact 25 (f := .glo "_law_sums") rfl)
  have n__law_sums : Binds K fd__law_sums ["word"] [] := F__law_sums.bindsN fun _ _ _ _ _ _ us hl => match us, hl with | [_], _ => rfl
  have O__law_sums : Fo prog w K mg base "_law_sums" s__law_sums ["word"] 1 (SpF K mg (lawT K) p__law_sums) := def_ok m__law_sums F__law_sums sc__law_sums n__law_sums (b__law_sums fc ) pu__law_sums
  obtain ⟨fd__law_lowest, F__law_lowest⟩ := c.t.d.def_ 26 (d := d__law_lowest) rfl
  have m__law_lowest := He.glo_ok X G (c.t.d.fact 26 (f := .glo "_law_lowest") rfl)
  have n__law_lowest : Binds K fd__law_lowest ["above", "below"] [] := F__law_lowest.bindsN fun _ _ _ _ _ _ us hl => match us, hl with | [_, _], _ => rfl
  have O__law_lowest : Fo prog w K mg base "_law_lowest" s__law_lowest ["above", "below"] 2 (SpF K mg (lawT K) p__law_lowest) := def_ok m__law_lowest F__law_lowest sc__law_lowest n__law_lowest (b__law_lowest fc O__law_common) pu__law_lowest
  obtain ⟨fd__law_rates, F__law_rates⟩ := c.t.d.def_ 27 (d := d__law_rates) rfl
  have m__law_rates := He.glo_ok X G (c.t.d.fact 27 (f := .glo "_law_rates") rfl)
  have n__law_rates : Binds K fd__law_rates ["word"] [] := F__law_rates.bindsN fun _ _ _ _ _ _ us hl => match us, hl with | [_], _ => rfl
  have O__law_rates : Fo prog w K mg base "_law_rates" s__law_rates ["word"] 3 (SpF K mg (lawT K) p__law_rates) := def_ok m__law_rates F__law_rates sc__law_rates n__law_rates (b__law_rates fc O__law_sums O__law_lowest) pu__law_rates
  obtain ⟨fd__law_is_between, F__law_is_between⟩ := c.t.d.def_ 28 (d := d__law_is_between) rfl
  have m__law_is_between := He.glo_ok X G (c.t.d.fact 28 (f := .glo "_law_is_between") rfl)
  have n__law_is_between : Binds K fd__law_is_between ["part", "whole", "rates"] [] := F__law_is_between.bindsN fun _ _ _ _ _ _ us hl => match us, hl with | [_, _, _], _ => rfl
  have O__law_is_between : Fo prog w K mg base "_law_is_between" s__law_is_between ["part", "whole", "rates"] 1 (SpF K mg (lawT K) p__law_is_between) := def_ok m__law_is_between F__law_is_between sc__law_is_between n__law_is_between (b__law_is_between fc ) pu__law_is_between
  obtain ⟨fd__law_shows, F__law_shows⟩ := c.t.d.def_ 29 (d := d__law_shows) rfl
  have m__law_shows := He.glo_ok X G (c.t.d.fact 29 (f := .glo "_law_shows") rfl)
  have n__law_shows : Binds K fd__law_shows ["part", "whole", "word"] [] := F__law_shows.bindsN fun _ _ _ _ _ _ us hl => match us, hl with | [_, _, _], _ => rfl
  have O__law_shows : Fo prog w K mg base "_law_shows" s__law_shows ["part", "whole", "word"] 3 (SpF K mg (lawT K) p__law_shows) := def_ok m__law_shows F__law_shows sc__law_shows n__law_shows (b__law_shows fc O__law_shown) pu__law_shows
  obtain ⟨fd_law, F_law⟩ := c.t.d.def_ 30 (d := d_law) rfl
  have m_law := He.glo_ok X G (c.t.d.fact 30 (f := .glo "law") rfl)
  have n_law : Binds K fd_law ["script"] [] := F_law.bindsN fun _ _ _ _ _ _ us hl => match us, hl with | [_], _ => rfl
  have hu_law : ∀ p ∈ lawT K, p.1 = (cT K ("law", none)).2 → p.2 = ("law.<locals>.<lambda>" : Str) := fun p hp e => by
      unfold lawT at hp
      simp only [List.mem_cons, List.not_mem_nil, or_false] at hp
      rcases hp with rfl
      · rfl
  exact law_okC (c := (cT K ("law", none)).1) (fun oc od fd' osl c' lk e => (codeOf_eq (p := ("law", none)) lk e).symm) m_law F_law sc_law n_law rfl rfl O__law_begun (by decide)
    (fun f cdv A outer s H E t ht => ps_set (i := 1) sc_law.nd rfl (by first | exact Or.inl rfl | exact Or.inr rfl) ht)
    (fun f cdv A outer s H E => ⟨rfl, pe_var rfl (by first | exact Or.inl rfl | exact Or.inr (Or.inl rfl) | exact Or.inr (Or.inr rfl)), rfl⟩) (by decide) (b_law fc O_slopes O__law_word O__law_no_word O__law_rates O__law_named O__law_pick O__law_says O_is_balanced O__law_caught O__law_take O__law_shows O__law_is_between (tb _ (List.mem_cons_self)) (List.mem_cons_self) hu_law) pu_law
theorem end_law_ {w : World} {t : Shared} {K : PySem.W.Frag} {mg mb : Mg} {f a : Addr} {us : List Value} {ns : List Int} (X : K.In t.heap) (c : SaysH fa fn tf xs vs ex w t.heap K) (G : t.heap.Ns mainGlobals mg) (B : t.heap.Ns builtinsNs mb) (bb : ∀ x : Str, x ≠ "__name__" → mb x = bootBuiltins x) (lim : t.heap.NoLimit) (hg : t.gens = #[])
    (bm : ∃ (bm : Addr) (ob : Obj), mg "__builtins__" = some (.ref bm) ∧ bm ≠ builtinsNs ∧ t.heap.get? bm = some ob ∧ ob.cls = .type "module" ∧ ob.dict = some builtinsNs ∧ ob.data = .plain) (hmg : mg "law" = some (.ref f)) (ho : t.heap.get? a = some { cls := .type "list", data := .seq us.toArray }) (hi : IntsAre us ns) (hl : ns.length ≤ 63) (hb : ∀ n ∈ ns, Builtin.Int.intBits n ≤ 1048576) :
    codeAny (model prog w) callerA (.call (.ref f) ⟨[.ref a], []⟩) (fun r s' => r = .ok (.ret (.bool true)) ∧ OldK t.heap s'.heap ∧ s'.os = t.os ∧ AllBare s'.gens) t := by
  obtain ⟨fd, F⟩ := c.t.d.def_ 30 (d := d_law) rfl
  have m := He.glo_ok X G (c.t.d.fact 30 (f := .glo "law") rfl)
  have e := hmg.symm.trans m
  cases e
  have b := FunD.bindsA (ps := ["script"]) F fun _ _ _ _ _ _ us hl => match us, hl with | [_], _ => rfl
  have at0 : AtHead K mg mb (tf.map (cT K)) t := by
    refine ⟨X, G, B, bb, lim, hg, fun p hp => ?_, fun p hp => ?_, fun p hp => ?_, bm⟩
    all_goals
      obtain ⟨q, hq, rfl⟩ := List.mem_map.mp hp
    · exact c.empty _ hq
    · exact c.out _ hq
    · exact PySem.W.codeHd_of_K X (c.hd _ hq)
  exact end_law at0 ho hi (by rw [sizeLine_eq]; omega) ⟨rfl, by decide, by decide⟩ rfl (fun base _ _ tb => (law_ok X G c fun q hq => tb _ (List.mem_map.mpr ⟨q, hq, rfl⟩)).at_ m F) (fun s u => b s [u] rfl) fun H few => by
    obtain ⟨F1, kk, r⟩ := few_ok (qs := ["law.<locals>.<lambda>"]) few rfl hb
    exact ⟨F1, .ref a, ns, rfl, hl, kk, r, fun _ => rfl⟩
end K40
set_option Elab.async false
set_option linter.all false
set_option maxRecDepth 100000
set_option maxHeartbeats 2000000
open PySem PySem.W PySem.Calls PyProof.Rows
theorem PySem.Challenge.cw_everyframe_k40_whole_rates_that_show_a_w_holds : PySem.Challenge.rw_everyframe_k40_whole_rates_that_show_a_w.Holds := by
  w_on; o_law
  refine HandSHeadRun.head_imp (r := OpenLaw.row PySem.Challenge.rw_everyframe_k40_whole_rates_that_show_a_w) (q := view (OpenLaw.row PySem.Challenge.rw_everyframe_k40_whole_rates_that_show_a_w).prog [0, 47]) (H := K40.hk) (ob := K40.ob) (M := 20000) (loose := K40.loose) (d := HandSHeadRun.topDef (OpenLaw.row PySem.Challenge.rw_everyframe_k40_whole_rates_that_show_a_w).prog 47) (kwd := []) K40.ob_eq
    K40.run (by kernel_rfl) (by kernel_rfl) (by kernel_rfl) (by rfl) (by first | assumption | decide +kernel) (by decide +kernel) ⟨rfl, rfl, rfl, rfl, rfl, by decide +kernel⟩ ?hw ?hc
  case hw => w_witness2
  case hc =>
    refine Att.attach_callB (l := PySem.Challenge.rw_everyframe_k40_whole_rates_that_show_a_w) (n := 63) rfl (by kernel_rfl) fun w s₀ s₁ mg mb fa o pm cd doc a vs ns G Y ho hd hcd hmg0 hobj hints hlen hbits hg => ?_
    obtain ⟨K, KX, c⟩ := Y
    have hmg : mg ("law" : PySem.Str) = some (.ref fa) := by
      have e : (HandSHeadRun.topDef (OpenLaw.row PySem.Challenge.rw_everyframe_k40_whole_rates_that_show_a_w).prog 47).name = ("law" : PySem.Str) := by kernel_rfl
      rw [← e]
      exact hmg0
    exact K40.end_law_ KX c G.T.g G.T.b G.T.builtins G.T.nolimit hg G.T.bmain hmg hobj hints hlen hbits
