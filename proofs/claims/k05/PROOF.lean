import PyProof.Rows.All
import Wide.All
import OpenK.AllK
import Wide.FinOn
import KE.KStateDown
import HandS.ForMost
import HandS.Exc
import HandS.TryOnly
import HandS.ExcOwn
import HandS.WordsExc
import HandS.Flow
import HandS.More
import HandS.Conv
import HandS.IsInst
import HandS.EndBits
import HandS.Defaults
import HandS.Head0
import HandS.Head1
import HandS.Head2
import HandS.HeadEnd
import HandS.HeadHook1
import HandS.HeadHook2
import HandS.HeadHook4
import HandS.Lambda
import HandS.Nested
import HandS.EndTab
import HandS.ExcInit
import HandS.ExcField
import HandS.TryMany
import KE.KExcIs
import HandS.Rev
import KE.KDictList
import HandS.SetKeys
import HandS.Deep
import KE.SortKeyHeap
import KE.KLam
import HandS.NoneIn
import HandS.TupLe
import HandS.List
import HandS.WideBits
import KE.KEqNest
import PyProof.DictCopy
import HandS.SetTxt0
import PyProof.WalkInts
import PyProof.Rows.StrRules
import KE.KDictCopyH
import KE.KDictWalk
import PyProof.DictWalks
import PyProof.SumWalkG
import HandS.Sort
import HandS.DictTup
import HandS.TupLen
import KE.DataCmp
import Lean
import PySem.Challenge.RW_mostwise_k05_refusals
set_option Elab.async false
set_option linter.all false
set_option maxRecDepth 100000
/-! What a head is asked. -/
namespace Vs
open PySem PySem.Spec L2
/-- the run's three looks, each by a run of its own -/
theorem run3 {S A B C : Type} {o : Option S} {f : S → A} {g : S → B} {h : S → C} {a : A} {b : B} {c : C} (x : o.map f = some a) (y : o.map g = some b) (z : o.map h = some c) : o.map (fun s => (f s, g s, h s)) = some (a, b, c) := by
  cases o with
  | none => cases x
  | some s =>
    have x := Option.some.inj x
    have y := Option.some.inj y
    have z := Option.some.inj z
    subst x y z
    rfl
open PySem.W PySem.Calls PyProof.Rows in
noncomputable abbrev endR (r : OpenRow) (M : Nat) (w : World) (os : PySem.OsState) : Option SharedT := HandSHeadRun.endF (HandSHeadRun.stepQ (HandSHeadRun.denQ HandSHeadRun.tabQ) r.prog w) M r.prog w os
open PySem.W PySem.Calls PyProof.Rows in
noncomputable abbrev lookR (r : OpenRow) (w : World) (s : SharedT) : Bool := HandSHeadRun.looksF r.prog (boot_heap w.params) s.abs
open PySem.W PySem.Calls PyProof.Rows in
noncomputable abbrev seenR (r : OpenRow) (q : Program) (loose : List Str) (s : SharedT) := HandSHeadRun.seenQ q loose (importedModules r.prog.main.body) (fun s => xlAt q [] s && recOk r.toRowW.records s) s.abs
abbrev lamD : Str × Option Str := ("sure_steps", none)
/-- the maker of a second lambda, and that lambda's name (lam2.txt tells them for the laws that have one) -/
abbrev lamD2 : Str × Option Str := ("sure_steps", none)
abbrev lamQ2 : Str := "sure_steps.<locals>.<lambda>"
def lamB (K : PySem.W.Frag) : Bool := match K.lookup (He.fAd K lamD) with
  | some ⟨_, _, .func _, _⟩ => true
  | _ => false
def lamB2 (K : PySem.W.Frag) : Bool := match K.lookup (He.fAd K lamD2) with
  | some ⟨_, _, .func _, _⟩ => true
  | _ => false
def clB (K : PySem.W.Frag) (C : Str) : Bool := (He.Fa.cls C).ok K && (decide (PySem.W.findIn K (.ref (He.ga K C)) "__class__" = some (some (.builtin "object.__class__"))) && (decide (PySem.W.mroIn K (He.ga K C) (.type "object") = some true) &&
  (decide (PySem.W.specialIn K (.builtin "object.__class__") "__get__" = some (some (.builtin "getset_descriptor.__get__"))) && decide (PySem.W.takesIn K (.builtin "object.__class__") = some true))))
def supB (K : PySem.W.Frag) (C m : Str) : Bool := PySem.W.readsIn K (He.ga K C) (.type "type") && (decide (PySem.W.specialIn K (.ref (He.ga K C)) "__getattribute__" = some (some (.builtin "type.__getattribute__"))) &&
  ((match PySem.W.findCls K (.ref (He.ga K C)) (.type "type") m with
    | some (.val v) => decide (v = .ref (He.ma K (He.ga K C) m))
    | _ => false) && PySem.W.keepIn K (.ref (He.ma K (He.ga K C) m))))
def isB (K : PySem.W.Frag) (C D : Str) (b : Bool) : Bool := decide (PySem.W.kitOne K (.ref (He.ga K C)) (.ref (He.ga K D)) = some b)
/-- an own exception class C with an __init__ of its own, that sets f -/
def xcB (K : PySem.W.Frag) (C f : Str) : Bool := (match K.lookup (He.ga K C) with
  | some ⟨.type "type", _, .cls k, z⟩ => (match k.mro, z.toList with
    | .ref D :: bm, [_, _, _, _, some (.builtin n), _] => (D == He.ga K C && n == "ValueError.__new__") && (!k.hasDel && (k.hasDict && PySem.HandSPX.refsVE bm))
    | _, _ => false)
  | _ => false) && (decide (PySem.W.findIn K (.ref (He.ga K C)) "__setattr__" = some (some (.builtin "object.__setattr__"))) && (decide (PySem.W.subIn K (.ref (He.ga K C)) (.type "BaseException") = some true) &&
  (decide (PySem.W.typeIn K (.ref (He.ga K C)) = some (.type "type")) && (PySem.W.keepIn K (.ref (He.ga K C)) && (decide (PySem.W.findIn K (.ref (He.ga K C)) "__init__" = some (some (.ref (He.ma K (He.ga K C) "__init__")))) &&
  (decide (PySem.W.typeIn K (.ref (He.ma K (He.ga K C) "__init__")) = some (.type "function")) && (decide (PySem.W.findIn K (.ref (He.ga K C)) f = some none) && (xfB K (He.ga K C) && ((PySem.W.clsIn K (He.ga K C)).isSome &&
  (decide (PySem.W.findIn K (.ref (He.ga K C)) "__class__" = some (some (.builtin "object.__class__"))) && (decide (PySem.W.specialIn K (.builtin "object.__class__") "__get__" = some (some (.builtin "getset_descriptor.__get__"))) &&
  (decide (PySem.W.takesIn K (.builtin "object.__class__") = some true) && decide (PySem.W.mroIn K (He.ga K C) (.type "object") = some true)))))))))))))
/-- ValueError.__init__ is what B.__init__ says -/
def bviB (K : PySem.W.Frag) (B : Str) : Bool := PySem.W.readsIn K (He.ga K B) (.type "type") && (decide (PySem.W.specialIn K (.ref (He.ga K B)) "__getattribute__" = some (some (.builtin "type.__getattribute__"))) &&
  (match PySem.W.findCls K (.ref (He.ga K B)) (.type "type") "__init__" with
    | some (.val v) => decide (v = .builtin "ValueError.__init__")
    | _ => false))
inductive Ya where
  | cl (C : Str)
  | sup (C m : Str)
  | isA (C D : Str) (b : Bool)
  | same (C D m : Str)
  | ali (x y : Str)
  | nolam
  | lam
  | lam2
  | xc (C f : Str)
  | bvi (B : Str)
  | isV (C : Str) (T : String) (b : Bool)
  | isT (T : String) (D : Str)
def Ya.ok (K : PySem.W.Frag) : Ya → Bool
  | .cl C => clB K C
  | .sup C m => supB K C m
  | .isA C D b => isB K C D b
  | .same C D m => decide (He.ma K (He.ga K C) m = He.ma K (He.ga K D) m)
  | .ali x y => decide (He.ga K x = He.ga K y)
  | .nolam => !lamB K && !lamB2 K
  | .lam => lamB K
  | .lam2 => lamB2 K
  | .xc C f => xcB K C f
  | .bvi B => bviB K B
  | .isV C T b => decide (PySem.W.kitOne K (.ref (He.ga K C)) (.type T) = some b)
  | .isT T D => decide (PySem.W.kitOne K (.type T) (.ref (He.ga K D)) = some false)
def obsY (n : List Addr) (fa : List He.Fa) (fn : List He.DefD) (ya : List Ya) (g : Addr → Option Obj) : He.AlD := ((He.obsD fa fn (He.frG g (n ++ [cStatics]))).1 && ya.all fun y => y.ok (He.frG g (n ++ [cStatics])), (He.obsD fa fn (He.frG g (n ++ [cStatics]))).2)
def SaysY (fa : List He.Fa) (fn : List He.DefD) (ya : List Ya) (K : PySem.W.Frag) : Prop := He.SaysD fa fn K ∧ (ya.all fun y => y.ok K) = true
theorem saysY_of {fa : List He.Fa} {fn : List He.DefD} {ya : List Ya} {K : PySem.W.Frag} (h : (((He.obsD fa fn K).1 && ya.all fun y => y.ok K, (He.obsD fa fn K).2) : He.AlD) = He.valD fn) : SaysY fa fn ya K := by
  have h1 : ((He.obsD fa fn K).1 && ya.all fun y => y.ok K) = true := (Prod.ext_iff.mp h).1
  have h2 : (He.obsD fa fn K).2 = (He.valD fn).2 := (Prod.ext_iff.mp h).2
  obtain ⟨a, b⟩ := Bool.and_eq_true_iff.mp h1
  exact ⟨Prod.ext a h2, b⟩
def hookY (n : List Addr) (fa : List He.Fa) (fn : List He.DefD) (ya : List Ya) : PySem.W.Hook where
  α := He.AlD
  obs := fun s => obsY n fa fn ya s.heap.get?
  val := fun _ => He.valD fn
  says := fun _ h => ∃ K : PySem.W.Frag, K.In h ∧ SaysY fa fn ya K
  of := fun _ _ e => ⟨_, He.frG_in, saysY_of e⟩
  keeps := fun _ _ _ ⟨K, hK, c⟩ k => ⟨K, PySem.W.Frag.In.keeps hK k, c⟩
theorem obsY_eq {n : List Addr} {fa : List He.Fa} {fn : List He.DefD} {ya : List Ya} {g : Addr → Option Obj} {s : Shared} (h : ∀ a, g a = s.heap.get? a) : obsY n fa fn ya g = (hookY n fa fn ya).obs s := by
  have e : g = s.heap.get? := funext h
  rw [e] <;> rfl
def frZ (n : List Addr) (g : Addr → Option Obj) : PySem.W.Frag := He.frT g (n ++ [cStatics])
def obsZ (n : List Addr) (fa : List He.Fa) (fn : List He.DefD) (ya : List Ya) (g : Addr → Option Obj) : He.AlD := ((He.obsD fa fn (frZ n g)).1 && ((ya.all fun y => y.ok (frZ n g)) && He.tabsB g [lamD, lamD2] (frZ n g)), (He.obsD fa fn (frZ n g)).2)
structure TabZ (h : Heap) (K : PySem.W.Frag) (p : Str × Option Str) : Prop where
  hd : PySem.W.codeHdIn K (He.cT K p).1 (He.cT K p).2 = true
  out : K.lookup (He.cT K p).2 = none
  empty : h.get? (He.cT K p).2 = some { cls := .none, data := .fields #[] }
structure SaysZ (fa : List He.Fa) (fn : List He.DefD) (ya : List Ya) (h : Heap) (K : PySem.W.Frag) : Prop where
  y : SaysY fa fn ya K
  t1 : TabZ h K lamD
  t2 : TabZ h K lamD2
theorem saysZ_of {n : List Addr} {fa : List He.Fa} {fn : List He.DefD} {ya : List Ya} {h : Heap} (e : obsZ n fa fn ya h.get? = He.valD fn) : SaysZ fa fn ya h (frZ n h.get?) := by
  have e1 : ((He.obsD fa fn (frZ n h.get?)).1 && ((ya.all fun y => y.ok (frZ n h.get?)) && He.tabsB h.get? [lamD, lamD2] (frZ n h.get?))) = true := (Prod.ext_iff.mp e).1
  have e2 : (He.obsD fa fn (frZ n h.get?)).2 = (He.valD fn).2 := (Prod.ext_iff.mp e).2
  obtain ⟨a, b⟩ := Bool.and_eq_true_iff.mp e1
  obtain ⟨b, c⟩ := Bool.and_eq_true_iff.mp b
  have one : ∀ p ∈ [lamD, lamD2], TabZ h (frZ n h.get?) p := fun p hp => by
    obtain ⟨c1, c2⟩ := Bool.and_eq_true_iff.mp (List.all_eq_true.mp c p hp)
    have c3 : ∃ o, h.get? (He.cT (frZ n h.get?) p).2 = some o ∧ He.emptyTab o = true := by
      cases q : h.get? (He.cT (frZ n h.get?) p).2 with
      | none => rw [q] at c2; cases c2
      | some o => rw [q] at c2; exact ⟨o, rfl, c2⟩
    obtain ⟨o, q, z⟩ := c3
    exact ⟨c1, He.frT_none q z, by rw [q, He.emptyTab_eq z]⟩
  exact ⟨⟨Prod.ext a e2, b⟩, one lamD (by simp), one lamD2 (by simp)⟩
def hookZ (n : List Addr) (fa : List He.Fa) (fn : List He.DefD) (ya : List Ya) : PySem.W.Hook where
  α := He.AlD
  obs := fun s => obsZ n fa fn ya s.heap.get?
  val := fun _ => He.valD fn
  says := fun _ h => ∃ K : PySem.W.Frag, K.In h ∧ SaysZ fa fn ya h K
  of := fun _ _ e => ⟨_, He.frT_in, saysZ_of e⟩
  keeps := fun _ _ _ ⟨K, hK, c⟩ k => ⟨K, PySem.W.Frag.In.keeps hK k, c.y, ⟨c.t1.hd, c.t1.out, k _ _ c.t1.empty⟩, ⟨c.t2.hd, c.t2.out, k _ _ c.t2.empty⟩⟩
end Vs

set_option maxHeartbeats 0
namespace Lw
open PySem PySem.Spec L2 Vs
def top (i : Nat) : Stmt := PySem.Challenge.pw_mostwise_k05_refusals.main.body.getD i (.Pass ⟨0, 0, 0, 0⟩)
def sub (s : Stmt) (j : Nat) : Stmt := match s with
  | .ClassDef _ _ _ body _ _ _ _ _ _ _ => body.getD j (.Pass ⟨0, 0, 0, 0⟩)
  | _ => .Pass ⟨0, 0, 0, 0⟩
abbrev s_law_cell : Stmt := top 16
abbrev s_law_mixed : Stmt := top 17
abbrev s_x_NoStatement : Stmt := sub (top 2) 0
abbrev s_x_NoRow : Stmt := sub (top 3) 0
abbrev s_x_NoThing : Stmt := sub (top 4) 0
abbrev s_x_Doubled : Stmt := sub (top 5) 0
abbrev s_x_NoLabel : Stmt := sub (top 6) 0
abbrev s_x_NoFact : Stmt := sub (top 7) 0
abbrev s_x_NoBeat : Stmt := sub (top 8) 0
abbrev s_x_StillOpen : Stmt := sub (top 11) 0
abbrev s_x_Decided : Stmt := sub (top 12) 0
abbrev s_x_NoStand : Stmt := sub (top 13) 0
abbrev s_x_TooMany : Stmt := sub (top 9) 0
abbrev s_x_Ring : Stmt := sub (top 10) 0
abbrev s_x_NoTurn : Stmt := sub (top 14) 0
abbrev s_law_errors : Stmt := top 18
abbrev s_law_kinds : Stmt := top 19
abbrev s_law : Stmt := top 20
/-! the head -/
def d_law_cell : He.DefD := ⟨("_law_cell", none), "_law_cell", "_law_cell", defArgs s_law_cell, defBody s_law_cell, defScope s_law_cell, [], []⟩
def d_law_mixed : He.DefD := ⟨("_law_mixed", none), "_law_mixed", "_law_mixed", defArgs s_law_mixed, defBody s_law_mixed, defScope s_law_mixed, [], []⟩
def d_x_NoStatement : He.DefD := ⟨("NoStatement", some "__init__"), "__init__", "NoStatement.__init__", defArgs s_x_NoStatement, defBody s_x_NoStatement, defScope s_x_NoStatement, [], []⟩
def d_x_NoRow : He.DefD := ⟨("NoRow", some "__init__"), "__init__", "NoRow.__init__", defArgs s_x_NoRow, defBody s_x_NoRow, defScope s_x_NoRow, [], []⟩
def d_x_NoThing : He.DefD := ⟨("NoThing", some "__init__"), "__init__", "NoThing.__init__", defArgs s_x_NoThing, defBody s_x_NoThing, defScope s_x_NoThing, [], []⟩
def d_x_Doubled : He.DefD := ⟨("Doubled", some "__init__"), "__init__", "Doubled.__init__", defArgs s_x_Doubled, defBody s_x_Doubled, defScope s_x_Doubled, [], []⟩
def d_x_NoLabel : He.DefD := ⟨("NoLabel", some "__init__"), "__init__", "NoLabel.__init__", defArgs s_x_NoLabel, defBody s_x_NoLabel, defScope s_x_NoLabel, [], []⟩
def d_x_NoFact : He.DefD := ⟨("NoFact", some "__init__"), "__init__", "NoFact.__init__", defArgs s_x_NoFact, defBody s_x_NoFact, defScope s_x_NoFact, [], []⟩
def d_x_NoBeat : He.DefD := ⟨("NoBeat", some "__init__"), "__init__", "NoBeat.__init__", defArgs s_x_NoBeat, defBody s_x_NoBeat, defScope s_x_NoBeat, [], []⟩
def d_x_StillOpen : He.DefD := ⟨("StillOpen", some "__init__"), "__init__", "StillOpen.__init__", defArgs s_x_StillOpen, defBody s_x_StillOpen, defScope s_x_StillOpen, [], []⟩
def d_x_Decided : He.DefD := ⟨("Decided", some "__init__"), "__init__", "Decided.__init__", defArgs s_x_Decided, defBody s_x_Decided, defScope s_x_Decided, [], []⟩
def d_x_NoStand : He.DefD := ⟨("NoStand", some "__init__"), "__init__", "NoStand.__init__", defArgs s_x_NoStand, defBody s_x_NoStand, defScope s_x_NoStand, [], []⟩
def d_x_TooMany : He.DefD := ⟨("TooMany", some "__init__"), "__init__", "TooMany.__init__", defArgs s_x_TooMany, defBody s_x_TooMany, defScope s_x_TooMany, [], []⟩
def d_x_Ring : He.DefD := ⟨("Ring", some "__init__"), "__init__", "Ring.__init__", defArgs s_x_Ring, defBody s_x_Ring, defScope s_x_Ring, [], []⟩
def d_x_NoTurn : He.DefD := ⟨("NoTurn", some "__init__"), "__init__", "NoTurn.__init__", defArgs s_x_NoTurn, defBody s_x_NoTurn, defScope s_x_NoTurn, [], []⟩
def d_law_errors : He.DefD := ⟨("_law_errors", none), "_law_errors", "_law_errors", defArgs s_law_errors, defBody s_law_errors, defScope s_law_errors, [], []⟩
def d_law_kinds : He.DefD := ⟨("_law_kinds", none), "_law_kinds", "_law_kinds", defArgs s_law_kinds, defBody s_law_kinds, defScope s_law_kinds, [], []⟩
def d_law : He.DefD := ⟨("law", none), "law", "law", defArgs s_law, defBody s_law, defScope s_law, [], []⟩
def fn : List He.DefD := [d_law_cell, d_law_mixed, d_x_NoStatement, d_x_NoRow, d_x_NoThing, d_x_Doubled, d_x_NoLabel, d_x_NoFact, d_x_NoBeat, d_x_StillOpen, d_x_Decided, d_x_NoStand, d_x_TooMany, d_x_Ring, d_x_NoTurn, d_law_errors, d_law_kinds, d_law]
def fa : List He.Fa := [.glo "_law_cell", .glo "_law_mixed", .glo "_law_errors", .glo "_law_kinds", .glo "law", .free "ValueError", .free "enumerate", .free "isinstance", .free "len", .free "range", .glo "Decided", .glo "Doubled", .glo "MostError", .glo "NoBeat", .glo "NoFact", .glo "NoLabel", .glo "NoRow", .glo "NoStand", .glo "NoStatement", .glo "NoThing", .glo "NoTurn", .glo "Ring", .glo "StillOpen", .glo "TooMany"]
def ya : List Ya := [.bvi "MostError", .isV "Decided" "ValueError" true, .isV "Doubled" "ValueError" true, .isV "NoBeat" "ValueError" true, .isV "NoFact" "ValueError" true, .isV "NoLabel" "ValueError" true, .isV "NoRow" "ValueError" true, .isV "NoStand" "ValueError" true, .isV "NoStatement" "ValueError" true, .isV "NoThing" "ValueError" true, .isV "NoTurn" "ValueError" true, .isV "Ring" "ValueError" true, .isV "StillOpen" "ValueError" true, .isV "TooMany" "ValueError" true, .isA "Decided" "Decided" true, .isA "Decided" "Doubled" false, .isA "Decided" "MostError" true, .isA "Decided" "NoBeat" false, .isA "Decided" "NoFact" false, .isA "Decided" "NoLabel" false, .isA "Decided" "NoRow" false, .isA "Decided" "NoStand" false, .isA "Decided" "NoStatement" false, .isA "Decided" "NoThing" false, .isA "Decided" "NoTurn" false, .isA "Decided" "Ring" false, .isA "Decided" "StillOpen" false, .isA "Decided" "TooMany" false, .isA "Doubled" "Decided" false, .isA "Doubled" "Doubled" true, .isA "Doubled" "MostError" true, .isA "Doubled" "NoBeat" false, .isA "Doubled" "NoFact" false, .isA "Doubled" "NoLabel" false, .isA "Doubled" "NoRow" false, .isA "Doubled" "NoStand" false, .isA "Doubled" "NoStatement" false, .isA "Doubled" "NoThing" false, .isA "Doubled" "NoTurn" false, .isA "Doubled" "Ring" false, .isA "Doubled" "StillOpen" false, .isA "Doubled" "TooMany" false, .isA "NoBeat" "Decided" false, .isA "NoBeat" "Doubled" false, .isA "NoBeat" "MostError" true, .isA "NoBeat" "NoBeat" true, .isA "NoBeat" "NoFact" false, .isA "NoBeat" "NoLabel" false, .isA "NoBeat" "NoRow" false, .isA "NoBeat" "NoStand" false, .isA "NoBeat" "NoStatement" false, .isA "NoBeat" "NoThing" false, .isA "NoBeat" "NoTurn" false, .isA "NoBeat" "Ring" false, .isA "NoBeat" "StillOpen" false, .isA "NoBeat" "TooMany" false, .isA "NoFact" "Decided" false, .isA "NoFact" "Doubled" false, .isA "NoFact" "MostError" true, .isA "NoFact" "NoBeat" false, .isA "NoFact" "NoFact" true, .isA "NoFact" "NoLabel" false, .isA "NoFact" "NoRow" false, .isA "NoFact" "NoStand" false, .isA "NoFact" "NoStatement" false, .isA "NoFact" "NoThing" false, .isA "NoFact" "NoTurn" false, .isA "NoFact" "Ring" false, .isA "NoFact" "StillOpen" false, .isA "NoFact" "TooMany" false, .isA "NoLabel" "Decided" false, .isA "NoLabel" "Doubled" false, .isA "NoLabel" "MostError" true, .isA "NoLabel" "NoBeat" false, .isA "NoLabel" "NoFact" false, .isA "NoLabel" "NoLabel" true, .isA "NoLabel" "NoRow" false, .isA "NoLabel" "NoStand" false, .isA "NoLabel" "NoStatement" false, .isA "NoLabel" "NoThing" false, .isA "NoLabel" "NoTurn" false, .isA "NoLabel" "Ring" false, .isA "NoLabel" "StillOpen" false, .isA "NoLabel" "TooMany" false, .isA "NoRow" "Decided" false, .isA "NoRow" "Doubled" false, .isA "NoRow" "MostError" true, .isA "NoRow" "NoBeat" false, .isA "NoRow" "NoFact" false, .isA "NoRow" "NoLabel" false, .isA "NoRow" "NoRow" true, .isA "NoRow" "NoStand" false, .isA "NoRow" "NoStatement" false, .isA "NoRow" "NoThing" false, .isA "NoRow" "NoTurn" false, .isA "NoRow" "Ring" false, .isA "NoRow" "StillOpen" false, .isA "NoRow" "TooMany" false, .isA "NoStand" "Decided" false, .isA "NoStand" "Doubled" false, .isA "NoStand" "MostError" true, .isA "NoStand" "NoBeat" false, .isA "NoStand" "NoFact" false, .isA "NoStand" "NoLabel" false, .isA "NoStand" "NoRow" false, .isA "NoStand" "NoStand" true, .isA "NoStand" "NoStatement" false, .isA "NoStand" "NoThing" false, .isA "NoStand" "NoTurn" false, .isA "NoStand" "Ring" false, .isA "NoStand" "StillOpen" false, .isA "NoStand" "TooMany" false, .isA "NoStatement" "Decided" false, .isA "NoStatement" "Doubled" false, .isA "NoStatement" "MostError" true, .isA "NoStatement" "NoBeat" false, .isA "NoStatement" "NoFact" false, .isA "NoStatement" "NoLabel" false, .isA "NoStatement" "NoRow" false, .isA "NoStatement" "NoStand" false, .isA "NoStatement" "NoStatement" true, .isA "NoStatement" "NoThing" false, .isA "NoStatement" "NoTurn" false, .isA "NoStatement" "Ring" false, .isA "NoStatement" "StillOpen" false, .isA "NoStatement" "TooMany" false, .isA "NoThing" "Decided" false, .isA "NoThing" "Doubled" false, .isA "NoThing" "MostError" true, .isA "NoThing" "NoBeat" false, .isA "NoThing" "NoFact" false, .isA "NoThing" "NoLabel" false, .isA "NoThing" "NoRow" false, .isA "NoThing" "NoStand" false, .isA "NoThing" "NoStatement" false, .isA "NoThing" "NoThing" true, .isA "NoThing" "NoTurn" false, .isA "NoThing" "Ring" false, .isA "NoThing" "StillOpen" false, .isA "NoThing" "TooMany" false, .isA "NoTurn" "Decided" false, .isA "NoTurn" "Doubled" false, .isA "NoTurn" "MostError" true, .isA "NoTurn" "NoBeat" false, .isA "NoTurn" "NoFact" false, .isA "NoTurn" "NoLabel" false, .isA "NoTurn" "NoRow" false, .isA "NoTurn" "NoStand" false, .isA "NoTurn" "NoStatement" false, .isA "NoTurn" "NoThing" false, .isA "NoTurn" "NoTurn" true, .isA "NoTurn" "Ring" false, .isA "NoTurn" "StillOpen" false, .isA "NoTurn" "TooMany" false, .isA "Ring" "Decided" false, .isA "Ring" "Doubled" false, .isA "Ring" "MostError" true, .isA "Ring" "NoBeat" false, .isA "Ring" "NoFact" false, .isA "Ring" "NoLabel" false, .isA "Ring" "NoRow" false, .isA "Ring" "NoStand" false, .isA "Ring" "NoStatement" false, .isA "Ring" "NoThing" false, .isA "Ring" "NoTurn" false, .isA "Ring" "Ring" true, .isA "Ring" "StillOpen" false, .isA "Ring" "TooMany" false, .isA "StillOpen" "Decided" false, .isA "StillOpen" "Doubled" false, .isA "StillOpen" "MostError" true, .isA "StillOpen" "NoBeat" false, .isA "StillOpen" "NoFact" false, .isA "StillOpen" "NoLabel" false, .isA "StillOpen" "NoRow" false, .isA "StillOpen" "NoStand" false, .isA "StillOpen" "NoStatement" false, .isA "StillOpen" "NoThing" false, .isA "StillOpen" "NoTurn" false, .isA "StillOpen" "Ring" false, .isA "StillOpen" "StillOpen" true, .isA "StillOpen" "TooMany" false, .isA "TooMany" "Decided" false, .isA "TooMany" "Doubled" false, .isA "TooMany" "MostError" true, .isA "TooMany" "NoBeat" false, .isA "TooMany" "NoFact" false, .isA "TooMany" "NoLabel" false, .isA "TooMany" "NoRow" false, .isA "TooMany" "NoStand" false, .isA "TooMany" "NoStatement" false, .isA "TooMany" "NoThing" false, .isA "TooMany" "NoTurn" false, .isA "TooMany" "Ring" false, .isA "TooMany" "StillOpen" false, .isA "TooMany" "TooMany" true, .xc "Decided" "found", .xc "Doubled" "found", .xc "NoBeat" "found", .xc "NoFact" "found", .xc "NoLabel" "found", .xc "NoRow" "found", .xc "NoStand" "found", .xc "NoStatement" "found", .xc "NoThing" "found", .xc "NoTurn" "found", .xc "Ring" "chain", .xc "StillOpen" "found", .xc "TooMany" "count", .nolam]
abbrev Rw : PySem.W.OpenRow := PySem.W.OpenLaw.row PySem.Challenge.rw_mostwise_k05_refusals
def asL : List Addr := [3, 6, 4, 24, 44, 63, 82, 101, 120, 139, 158, 177, 196, 215, 234, 253, 272, 281, 288, 295, 302, 307, 0, 23, 43, 62, 81, 100, 119, 138, 157, 176, 195, 214, 233, 252, 271, 280, 287, 294, 301, 306, 22, 25, 41, 42, 60, 61, 79, 80, 98, 99, 117, 118, 136, 137, 155, 156, 174, 175, 193, 194, 212, 213, 231, 232, 250, 251, 269, 270, 275, 276, 277, 278, 279, 282, 283, 284, 285, 286, 289, 290, 291, 292, 293, 296, 297, 298, 299, 300, 303, 304, 305, 40, 59, 78, 97, 116, 135, 154, 173, 192, 211, 230, 249, 268, 35, 36, 37, 38, 39, 54, 55, 56, 57, 58, 73, 74, 75, 76, 77, 92, 93, 94, 95, 96, 111, 112, 113, 114, 115, 130, 131, 132, 133, 134, 149, 150, 151, 152, 153, 168, 169, 170, 171, 172, 187, 188, 189, 190, 191, 206, 207, 208, 209, 210, 225, 226, 227, 228, 229, 244, 245, 246, 247, 248, 263, 264, 265, 266, 267]
abbrev hkk : PySem.W.Hook := hookY asL fa fn ya
def ob (s : PySem.W.SharedT) : He.AlD := obsY asL fa fn ya (HandSHeadRun.getT s)
theorem ob_eq (s : PySem.W.SharedT) : ob s = hkk.obs s.abs := obsY_eq (HandSHeadRun.getT_eq s)
def nm0 : List Str := ["MostError", "NoStatement", "NoRow", "NoThing", "Doubled", "NoLabel", "NoFact", "NoBeat", "TooMany", "Ring", "StillOpen", "Decided", "NoStand", "NoTurn", "_law_cell", "_law_mixed", "_law_errors", "_law_kinds"]
def nms : List Str := nm0
theorem runL (w : World) (os : PySem.OsState) : (endR Rw 20000 w os).map (lookR Rw w) = some true := by
  kernel_rfl
theorem runS (w : World) (os : PySem.OsState) : (endR Rw 20000 w os).map (seenR Rw (PySem.W.view Rw.prog [20]) nms) = some (PySem.W.openGood (PySem.W.view Rw.prog [20]) nms) := by
  kernel_rfl
theorem runO (w : World) (os : PySem.OsState) : (endR Rw 20000 w os).map ob = some (hkk.val w) := by
  kernel_rfl
theorem run (w : World) : HandSHeadRun.RunEq Rw (PySem.W.view Rw.prog [20]) hkk ob 20000 nms w := fun os => run3 (runL w os) (runS w os) (runO w os)
end Lw

/-! The value layer: what a text does, told over data trees; own work over the hand layer. -/
namespace Vs
open PySem PySem.Spec L2

/-! ### data -/
inductive Dt where
  | non | bl (b : Bool) | int (i : Int) | str (s : Str)
  | lst (xs : List Dt) | tup (xs : List Dt)
  | dic (kvs : List (Key × Dt))
  | dit (kvs : List (List Key × Dt))
  | ins (C : Str) (fs : List (Str × Dt))
  | scr (xs : List Dt)
  | xc (C : Str) (fs : List (Str × Dt))

abbrev big : Nat := 1000000
abbrev bigS : Nat := 900000
theorem big_line : big ≤ sizeLine := by rw [sizeLine_eq]; decide

/-- a text that is no longer than this layer carries, of signs that there are -/
def goodB (s : Str) : Bool := decide (s.length ≤ bigS) && s.cps.toList.all fun c => decide (c < 0x110000)
theorem good_iff {s : Str} : goodB s = true ↔ s.length ≤ bigS ∧ ∀ c ∈ s.cps.toList, c < 0x110000 := by
  unfold goodB
  rw [Bool.and_eq_true_iff, decide_eq_true_iff, List.all_eq_true]
  constructor
  · rintro ⟨h1, h2⟩
    exact ⟨h1, fun c hc => of_decide_eq_true (h2 c hc)⟩
  · rintro ⟨h1, h2⟩
    exact ⟨h1, fun c hc => decide_eq_true (h2 c hc)⟩
theorem good_len {s : Str} (h : goodB s = true) : s.length ≤ bigS := (good_iff.mp h).1
theorem bigS_big : bigS ≤ big := by decide
theorem good_line {s : Str} (h : goodB s = true) : s.length ≤ sizeLine := Nat.le_trans (good_len h) (Nat.le_trans bigS_big big_line)
theorem good_one {c : Nat} (h : c < 0x110000) : goodB ⟨#[c]⟩ = true := good_iff.mpr ⟨by show 1 ≤ bigS; decide, fun d hd => by
  have : d = c := by simpa using hd
  rw [this]; exact h⟩
theorem good_app {s t : Str} (h : goodB s = true) (h' : goodB t = true) (hl : s.length + t.length ≤ bigS) : goodB (s ++ t) = true := by
  refine good_iff.mpr ⟨?_, fun c hc => ?_⟩
  · show (s.cps ++ t.cps).size ≤ bigS
    rw [Array.size_append]; exact hl
  · have e : (s ++ t).cps.toList = s.cps.toList ++ t.cps.toList := by
      show (s.cps ++ t.cps).toList = _
      exact Array.toList_append
    rw [e, List.mem_append] at hc
    rcases hc with z | z
    · exact (good_iff.mp h).2 c z
    · exact (good_iff.mp h').2 c z
theorem good_strOk {s : Str} (h : goodB s = true) : PyData.strOk s = true := by
  unfold PyData.strOk
  rw [Array.all_eq_true']
  intro c hc
  exact decide_eq_true ((good_iff.mp h).2 c (Array.mem_def.mp hc))

/-- a good key -/
def kOk : Key → Bool
  | .inl _ => true
  | .inr s => goodB s
/-- at a: an exception that was caught, of the class at C, its dict at d -/
def exK (a C : Addr) (d : Option Addr) : HO := .ext fun h => ∃ oe vs, h.get? a = some oe ∧ Zc (.ref C) d oe ∧ oe.data = .fields vs
mutual
inductive Rep (K : PySem.W.Frag) (F : Hp) : V → Dt → Prop
  | non : Rep K F .non .non
  | bl (b : Bool) : Rep K F (.bl b) (.bl b)
  | int (i : Int) : Rep K F (.int i) (.int i)
  | str (s : Str) : goodB s = true → Rep K F (.str s) (.str s)
  | lst {a : Addr} {vs : List V} {ds : List Dt} : F a = some (.lst vs) → vs.length ≤ big → RepL K F vs ds → Rep K F (.ref a) (.lst ds)
  | tup {a : Addr} {vs : List V} {ds : List Dt} : F a = some (.tup vs) → vs.length ≤ big → RepL K F vs ds → Rep K F (.ref a) (.tup ds)
  | dic {a : Addr} {vs : List (Key × V)} {ds : List (Key × Dt)} : F a = some (.dK vs) → vs.length ≤ big → RepK K F vs ds → (vs.map (·.1)).Nodup → Rep K F (.ref a) (.dic ds)
  | dit {a : Addr} {vs : List (List Key × V)} {ds : List (List Key × Dt)} : F a = some (.dT vs) → vs.length ≤ big → RepT K F vs ds → (vs.map (·.1)).Nodup → Rep K F (.ref a) (.dit ds)
  | ins {a dx : Addr} {C : Str} {vs : List (Str × V)} {fs : List (Str × Dt)} : F a = some (.ins (He.ga K C) dx vs) → RepF K F vs fs → Rep K F (.ref a) (.ins C fs)
  | scr {a : Addr} {vs : List V} {ds : List Dt} : SqL K F a vs → vs.length ≤ big → RepL K F vs ds → Rep K F (.ref a) (.scr ds)
  | xc {a : Addr} {d : Option Addr} {C : Str} {vs : List (Str × V)} {fs : List (Str × Dt)} : F a = some (exK a (He.ga K C) d) → ((vs = [] ∧ d = none) ∨ ∃ dx, d = some dx ∧ F dx = some (.xd vs)) → RepF K F vs fs → Rep K F (.ref a) (.xc C fs)
inductive RepL (K : PySem.W.Frag) (F : Hp) : List V → List Dt → Prop
  | nil : RepL K F [] []
  | cons {v : V} {vs : List V} {d : Dt} {ds : List Dt} : Rep K F v d → RepL K F vs ds → RepL K F (v :: vs) (d :: ds)
inductive RepK (K : PySem.W.Frag) (F : Hp) : List (Key × V) → List (Key × Dt) → Prop
  | nil : RepK K F [] []
  | cons {k : Key} {v : V} {vs : List (Key × V)} {d : Dt} {ds : List (Key × Dt)} : kOk k = true → Rep K F v d → RepK K F vs ds → RepK K F ((k, v) :: vs) ((k, d) :: ds)
inductive RepT (K : PySem.W.Frag) (F : Hp) : List (List Key × V) → List (List Key × Dt) → Prop
  | nil : RepT K F [] []
  | cons {k : List Key} {v : V} {vs : List (List Key × V)} {d : Dt} {ds : List (List Key × Dt)} : k.all kOk = true → Rep K F v d → RepT K F vs ds → RepT K F ((k, v) :: vs) ((k, d) :: ds)
inductive RepF (K : PySem.W.Frag) (F : Hp) : List (Str × V) → List (Str × Dt) → Prop
  | nil : RepF K F [] []
  | cons {k : Str} {v : V} {vs : List (Str × V)} {d : Dt} {ds : List (Str × Dt)} : Rep K F v d → RepF K F vs ds → RepF K F ((k, v) :: vs) ((k, d) :: ds)
end

/-! ### heaps -/
def Ex (H H' : Hp) : Prop := ∀ a o, H a = some o → H' a = some o
theorem Ex.refl (H : Hp) : Ex H H := fun _ _ h => h
theorem Ex.trans {H H1 H2 : Hp} (a : Ex H H1) (b : Ex H1 H2) : Ex H H2 := fun x o h => b x o (a x o h)
/-- the one lambda that there is: its maker's code object and table -/
abbrev lamQ : Str := "sure_steps.<locals>.<lambda>"
/-- the name of the lambda at a place -/
def nmQ (_line col : Nat) : Str := if col = 29 then lamQ else lamQ2
/-- all but the tables of code objects -/
def nT : HO → Bool
  | .tbl _ => false
  | _ => true
/-- from heap to heap: all but O and the tables stands, the tables grow as they should -/
structure ExO (O : Addr → Prop) (H H' : Hp) : Prop where
  k : ∀ a o, ¬ O a → H a = some o → nT o = true → H' a = some o
  n : ∀ a, ¬ O a → H a ≠ none → H' a ≠ none
  t : ∀ a, NdefX.TabN H a nmQ → NdefX.TabN H' a nmQ
abbrev ExH (H H' : Hp) : Prop := ExO (fun _ => False) H H'
theorem ExO.refl {O : Addr → Prop} (H : Hp) : ExO O H H := ⟨fun _ _ _ h _ => h, fun _ _ h => h, fun _ h => h⟩
theorem ExO.imp {O O' : Addr → Prop} {H H' : Hp} (e : ExO O H H') (h : ∀ a, O a → O' a) : ExO O' H H' := ⟨fun a o n => e.k a o fun z => n (h a z), fun a n => e.n a fun z => n (h a z), e.t⟩
theorem ExO.of {H H' : Hp} (e : Ex H H') : ExH H H' := ⟨fun a o _ h _ => e a o h, fun a _ h => by
  cases q : H a with
  | none => exact absurd q h
  | some o => rw [e a o q]; simp, fun a h => h.ext e⟩
theorem ExO.h {H H' : Hp} (e : ExH H H') {a : Addr} {o : HO} (h : H a = some o) (n : nT o = true := by rfl) : H' a = some o := e.k a o (fun z => z) h n
theorem ExO.trans {H H1 H2 : Hp} (a : ExH H H1) (b : ExH H1 H2) : ExH H H2 := ⟨fun x o z h n => b.k x o z (a.k x o z h n) n, fun x z h => b.n x z (a.n x z h), fun x h => b.t x (a.t x h)⟩
/-- what is no table and no code object may change -/
def nTC : HO → Bool
  | .tbl _ => false
  | .ext _ => false
  | _ => true
theorem tab_upd {H : Hp} {a p : Addr} {q : Nat → Nat → Str} {o u : HO} (h : NdefX.TabN H a q) (hp : H p = some o) (hn : nTC o = true) : NdefX.TabN (upd H p u) a q := by
  obtain ⟨ps, h1, h2, h3⟩ := h
  refine ⟨ps, ?_, h2, fun pos cv hc => ?_⟩
  · rw [upd_ne (fun z => by rw [z, hp] at h1; cases h1; cases hn)]; exact h1
  · obtain ⟨c, e1, e2⟩ := h3 pos cv hc
    refine ⟨c, e1, ?_⟩
    rw [upd_ne (fun z => by rw [z, hp] at e2; cases e2; cases hn)]; exact e2
theorem ExO.then {O : Addr → Prop} {H H1 H2 : Hp} (a : ExO O H H1) (b : ExH H1 H2) : ExO O H H2 := ⟨fun x o z h n => b.h (a.k x o z h n) n, fun x z h => b.n x (fun y => y) (a.n x z h), fun x h => b.t x (a.t x h)⟩
/-- what changed is as it was again -/
theorem ExO.back {H H2 : Hp} {a : Addr} {o : HO} (e : ExO (fun b => b = a) H H2) (h : H a = some o) (h2 : H2 a = some o) : ExH H H2 :=
  ⟨fun x v _ z n => by
    by_cases q : x = a
    · subst q; rw [h] at z; cases z; exact h2
    · exact e.k x v q z n, fun x _ z => by
    by_cases q : x = a
    · subst q; rw [h2]; simp
    · exact e.n x q z, e.t⟩
/-- what changed was not there at first -/
theorem ExO.within {O : Addr → Prop} {H H1 H2 : Hp} (a : ExH H H1) (b : ExO O H1 H2) (h : ∀ x, O x → H x = none) : ExH H H2 :=
  ⟨fun x o _ z n => b.k x o (fun y => by rw [h x y] at z; cases z) (a.h z n) n, fun x _ z => b.n x (fun y => z (h x y)) (a.n x (fun y => y) z), fun x z => b.t x (a.t x z)⟩
theorem ExO.upd {O : Addr → Prop} {H H' : Hp} {p : Addr} {o u : HO} (e : ExO O H H') (hp : H' p = some o) (hn : nTC o = true) (ho : O p) : ExO O H (upd H' p u) := by
  refine ⟨fun x v z h n => ?_, fun x z h => ?_, fun x h => tab_upd (e.t x h) hp hn⟩
  · rw [upd_ne (fun y => z (by rw [y]; exact ho))]; exact e.k x v z h n
  · rw [upd_ne (fun y => z (by rw [y]; exact ho))]; exact e.n x z h
theorem Ex.new {H : Hp} {p : Addr} {o : HO} (h : H p = none) : Ex H (upd H p o) := fun a u e => by
  rw [upd_ne (ne_of_none e h)]
  exact e
theorem Ex.rd {H H' : Hp} {a : Addr} {u : HO} (e : Ex H H') (h : Rd H a u) : Rd H' a u := by
  rcases h with h | ⟨o, h⟩
  · exact Or.inl (e a _ h)
  · exact Or.inr ⟨o, e a _ h⟩
theorem Ex.sql {K : PySem.W.Frag} {H H' : Hp} {a : Addr} {xs : List V} (e : Ex H H') (h : SqL K H a xs) : SqL K H' a xs := by
  rcases h with h | h
  · exact Or.inl (e.rd h)
  · exact Or.inr h
theorem ExO.rd {H H' : Hp} {a : Addr} {u : HO} (e : ExH H H') (h : Rd H a u) (n : nT u = true := by rfl) : Rd H' a u := by
  rcases h with h | ⟨o, h⟩
  · exact Or.inl (e.h h n)
  · exact Or.inr ⟨o, e.h h⟩
theorem ExO.sql {K : PySem.W.Frag} {H H' : Hp} {a : Addr} {xs : List V} (e : ExH H H') (h : SqL K H a xs) : SqL K H' a xs := by
  rcases h with h | h
  · exact Or.inl (e.rd h)
  · exact Or.inr h
theorem ExO.sqt {K : PySem.W.Frag} {H H' : Hp} {a : Addr} {xs : List V} (e : ExH H H') (h : SqT K H a xs) : SqT K H' a xs := by
  rcases h with h | h
  · exact Or.inl (e.rd h)
  · exact Or.inr h
theorem ExO.free {H H' : Hp} (e : ExH H H') {l : Addr} (h : H' l = none) : H l = none := by
  cases q : H l with
  | none => rfl
  | some o => exact absurd h (e.n l (fun z => z) (by rw [q]; simp))

mutual
theorem Rep.mono {K : PySem.W.Frag} {F F' : Hp} (e : Ex F F') : ∀ {v : V} {d : Dt}, Rep K F v d → Rep K F' v d
  | _, _, .non => .non
  | _, _, .bl b => .bl b
  | _, _, .int i => .int i
  | _, _, .str s h => .str s h
  | _, _, .lst h l r => .lst (e _ _ h) l (RepL.mono e r)
  | _, _, .tup h l r => .tup (e _ _ h) l (RepL.mono e r)
  | _, _, .scr h l r => .scr (e.sql h) l (RepL.mono e r)
  | _, _, .dic h l r n => .dic (e _ _ h) l (RepK.mono e r) n
  | _, _, .dit h l r n => .dit (e _ _ h) l (RepT.mono e r) n
  | _, _, .ins h r => .ins (e _ _ h) (RepF.mono e r)
  | _, _, .xc h k r => .xc (e _ _ h) (k.imp id fun ⟨dx, e1, e2⟩ => ⟨dx, e1, e _ _ e2⟩) (RepF.mono e r)
theorem RepL.mono {K : PySem.W.Frag} {F F' : Hp} (e : Ex F F') : ∀ {v : List V} {d : List Dt}, RepL K F v d → RepL K F' v d
  | _, _, .nil => .nil
  | _, _, .cons h r => .cons (Rep.mono e h) (RepL.mono e r)
theorem RepK.mono {K : PySem.W.Frag} {F F' : Hp} (e : Ex F F') : ∀ {v : List (Key × V)} {d : List (Key × Dt)}, RepK K F v d → RepK K F' v d
  | _, _, .nil => .nil
  | _, _, .cons o h r => .cons o (Rep.mono e h) (RepK.mono e r)
theorem RepT.mono {K : PySem.W.Frag} {F F' : Hp} (e : Ex F F') : ∀ {v : List (List Key × V)} {d : List (List Key × Dt)}, RepT K F v d → RepT K F' v d
  | _, _, .nil => .nil
  | _, _, .cons o h r => .cons o (Rep.mono e h) (RepT.mono e r)
theorem RepF.mono {K : PySem.W.Frag} {F F' : Hp} (e : Ex F F') : ∀ {v : List (Str × V)} {d : List (Str × Dt)}, RepF K F v d → RepF K F' v d
  | _, _, .nil => .nil
  | _, _, .cons h r => .cons (Rep.mono e h) (RepF.mono e r)
end

/-- what is frozen stands; a dict may be locked -/
def Sees (H : Hp) (a : Addr) (o : HO) : Prop := H a = some o ∨ (((∃ kvs, o = .dK kvs) ∨ ∃ kvs, o = .dT kvs) ∧ ∃ ob, H a = some (.frz ob o))
/-- a tuple of numbers and texts -/
def Pt (o : HO) : Prop := ∃ ks : List Key, o = .tup (ks.map kV)
/-- .. and every tuple of numbers and texts that there is, is frozen -/
structure Sub (F H : Hp) : Prop where
  see : ∀ a o, F a = some o → Sees H a o
  pt : ∀ a o, H a = some o → Pt o → F a ≠ none
instance {F H : Hp} : CoeFun (Sub F H) (fun _ => ∀ a o, F a = some o → Sees H a o) := ⟨Sub.see⟩
theorem Sub.rd {F H : Hp} (s : Sub F H) {a : Addr} {o : HO} (h : F a = some o) : Rd H a o := by
  rcases s a o h with q | ⟨_, ob, q⟩
  · exact .inl q
  · exact .inr ⟨ob, q⟩
theorem Sub.at {F H : Hp} (s : Sub F H) {a : Addr} {o : HO} (h : F a = some o) (n1 : ∀ kvs, o ≠ .dK kvs) (n2 : ∀ kvs, o ≠ .dT kvs) : H a = some o := by
  rcases s a o h with q | ⟨⟨k, e⟩ | ⟨k, e⟩, _⟩
  · exact q
  · exact absurd e (n1 k)
  · exact absurd e (n2 k)
theorem Sub.sql {K : PySem.W.Frag} {F H : Hp} (s : Sub F H) {a : Addr} {xs : List V} (h : SqL K F a xs) : SqL K H a xs := by
  rcases h with (h | ⟨o, h⟩) | h
  · exact .inl (.inl (s.at h (by intro k z; cases z) (by intro k z; cases z)))
  · exact .inl (.inr ⟨o, s.at h (by intro k z; cases z) (by intro k z; cases z)⟩)
  · exact .inr h
theorem Sub.sqt {K : PySem.W.Frag} {F H : Hp} (s : Sub F H) {a : Addr} {xs : List V} (h : SqT K F a xs) : SqT K H a xs := by
  rcases h with (h | ⟨o, h⟩) | h
  · exact .inl (.inl (s.at h (by intro k z; cases z) (by intro k z; cases z)))
  · exact .inl (.inr ⟨o, s.at h (by intro k z; cases z) (by intro k z; cases z)⟩)
  · exact .inr h
theorem Sub.lst {F H : Hp} (s : Sub F H) {a : Addr} {vs : List V} (h : F a = some (.lst vs)) : H a = some (.lst vs) := s.at h (by intro k z; cases z) (by intro k z; cases z)
theorem Sub.tup {F H : Hp} (s : Sub F H) {a : Addr} {vs : List V} (h : F a = some (.tup vs)) : H a = some (.tup vs) := s.at h (by intro k z; cases z) (by intro k z; cases z)
theorem Sub.scr {F H : Hp} (s : Sub F H) {a : Addr} {o : Obj} {vs : List V} (h : F a = some (.frz o (.lst vs))) : H a = some (.frz o (.lst vs)) := s.at h (by intro k z; cases z) (by intro k z; cases z)
theorem Sub.ins {F H : Hp} (s : Sub F H) {a C dx : Addr} {fs : List (Str × V)} (h : F a = some (.ins C dx fs)) : H a = some (.ins C dx fs) :=
  s.at h (by intro k z; cases z) (by intro k z; cases z)
theorem Sub.none {F H : Hp} (s : Sub F H) {a : Addr} (h : H a = none) : F a = none := by
  cases q : F a with
  | none => rfl
  | some o =>
    rcases s a o q with z | ⟨_, ob, z⟩
    · rw [h] at z; cases z
    · rw [h] at z; cases z

/-- a pure step: all stands, new frozen things are new -/
structure Up (F H F' H' : Hp) : Prop where
  fr : Ex F F'
  hp : ExH H H'
  nw : ∀ a, F a = none → H a ≠ none → F' a = none
  sb : Sub F' H'
theorem Up.refl {F H : Hp} (s : Sub F H) : Up F H F H := ⟨Ex.refl F, ExO.refl H, fun _ h _ => h, s⟩
theorem Up.trans {F H F1 H1 F2 H2 : Hp} (a : Up F H F1 H1) (b : Up F1 H1 F2 H2) : Up F H F2 H2 :=
  ⟨a.fr.trans b.fr, a.hp.trans b.hp, fun x h h' => b.nw x (a.nw x h h') (a.hp.n x (fun z => z) h'), b.sb⟩
/-- a new frozen object -/
theorem Up.lay {F H : Hp} {p : Addr} {o : HO} (s : Sub F H) (hp : H p = none) : Up F H (upd F p o) (upd H p o) := by
  have hF := s.none hp
  refine ⟨Ex.new hF, ExO.of (Ex.new hp), fun a h h' => ?_, fun a u q => ?_, fun a u q y => ?_⟩
  · have hne : a ≠ p := fun z => by subst z; exact h' hp
    rw [upd_ne hne]; exact h
  · by_cases e : a = p
    · subst e
      rw [upd_same] at q; cases q
      exact .inl upd_same
    · rw [upd_ne e] at q
      rcases s a u q with z | ⟨k, ob, z⟩
      · exact .inl (by rw [upd_ne e]; exact z)
      · exact .inr ⟨k, ob, by rw [upd_ne e]; exact z⟩
  · by_cases e : a = p
    · rw [e, upd_same]; simp
    · rw [upd_ne e] at q ⊢; exact s.pt a u q y
/-- a new object, not frozen -/
theorem Up.layH {F H : Hp} {p : Addr} {o : HO} (s : Sub F H) (hp : H p = none) (np : ¬ Pt o := by rintro ⟨ks, h⟩; cases h) : Up F H F (upd H p o) := by
  refine ⟨Ex.refl F, ExO.of (Ex.new hp), fun a h h' => h, fun a u q => ?_, fun a u q y => ?_⟩
  · have hne : a ≠ p := fun z => by subst z; rw [s.none hp] at q; cases q
    rcases s a u q with z | ⟨k, ob, z⟩
    · exact .inl (by rw [upd_ne hne]; exact z)
    · exact .inr ⟨k, ob, by rw [upd_ne hne]; exact z⟩
  · by_cases e : a = p
    · rw [e, upd_same] at q; cases q; exact absurd y np
    · rw [upd_ne e] at q; exact s.pt a u q y
/-- one more is frozen -/
theorem Sub.frz1 {F H : Hp} {p : Addr} {o : HO} (s : Sub F H) (h : H p = some o) : Sub (upd F p o) H := by
  refine ⟨fun a u q => ?_, fun a u q y => ?_⟩
  · by_cases e : a = p
    · rw [e, upd_same] at q; cases q; exact .inl (by rw [e]; exact h)
    · rw [upd_ne e] at q; exact s a u q
  · by_cases e : a = p
    · rw [e, upd_same]; simp
    · rw [upd_ne e]; exact s.pt a u q y
/-- an object that is not frozen is put anew -/
theorem Sub.put {F H : Hp} {p : Addr} {o : HO} (s : Sub F H) (hp : F p = Option.none) (np : ¬ Pt o := by rintro ⟨ks, h⟩; cases h) : Sub F (upd H p o) := by
  refine ⟨fun a u q => ?_, fun a u q y => ?_⟩
  · have hne : a ≠ p := fun z => by rw [z, hp] at q; cases q
    rcases s a u q with z | ⟨k, ob, z⟩
    · exact .inl (by rw [upd_ne hne]; exact z)
    · exact .inr ⟨k, ob, by rw [upd_ne hne]; exact z⟩
  · by_cases e : a = p
    · rw [e, upd_same] at q; cases q; exact absurd y np
    · rw [upd_ne e] at q; exact s.pt a u q y

open Classical in
/-- with all tuples of numbers and texts that there are -/
noncomputable def ptF (F H : Hp) : Hp := fun a => if ∃ o, H a = some o ∧ Pt o then H a else F a
/-! ### cells: what a name holds: frozen data, an own list, an own dict, an own dict of cells, an own object of cells, a hole -/
inductive Cell where
  | fz (d : Dt)
  | ol (ds : List Dt)
  | od (kvs : List (Key × Dt))
  | odt (kvs : List (List Key × Dt))
  | oc (kvs : List (Key × Cell))
  | ob (C : Str) (fs : List (Str × Cell))
  | hl (v : V)
  | fl (vs : List V) (ds : List Dt)
  | lc (cs : List Cell)
  | tc (cs : List Cell)

mutual
inductive RepC (K : PySem.W.Frag) (F H : Hp) : List Addr → V → Cell → Prop
  | fz {v : V} {d : Dt} : Rep K F v d → RepC K F H [] v (.fz d)
  | ol {p : Addr} {vs : List V} {ds : List Dt} : H p = some (.lst vs) → vs.length ≤ big → RepL K F vs ds → RepC K F H [p] (.ref p) (.ol ds)
  | od {p : Addr} {vs : List (Key × V)} {kvs : List (Key × Dt)} : H p = some (.dK vs) → vs.length ≤ big → RepK K F vs kvs → (vs.map (·.1)).Nodup → RepC K F H [p] (.ref p) (.od kvs)
  | odt {p : Addr} {vs : List (List Key × V)} {kvs : List (List Key × Dt)} : H p = some (.dT vs) → vs.length ≤ big → RepT K F vs kvs → (vs.map (·.1)).Nodup → RepC K F H [p] (.ref p) (.odt kvs)
  | oc {p : Addr} {fp : List Addr} {vs : List (Key × V)} {kvs : List (Key × Cell)} : H p = some (.dK vs) → vs.length ≤ big → RepCK K F H fp vs kvs → p ∉ fp → (vs.map (·.1)).Nodup → RepC K F H (p :: fp) (.ref p) (.oc kvs)
  | ob {p dx : Addr} {fp : List Addr} {C : Str} {vs : List (Str × V)} {fs : List (Str × Cell)} : H p = some (.ins (He.ga K C) dx vs) → RepCF K F H fp vs fs → p ∉ fp → RepC K F H (p :: fp) (.ref p) (.ob C fs)
  | hl {v : V} : RepC K F H [] v (.hl v)
  | fl {a : Addr} {vs : List V} {ds : List Dt} : F a = some (.lst vs) → vs.length ≤ big → RepL K F vs ds → RepC K F H [] (.ref a) (.fl vs ds)
  | lc {p : Addr} {fp : List Addr} {vs : List V} {cs : List Cell} : H p = some (.lst vs) → vs.length ≤ big → RepCL K F H fp vs cs → p ∉ fp → RepC K F H (p :: fp) (.ref p) (.lc cs)
  | tc {p : Addr} {fp : List Addr} {vs : List V} {cs : List Cell} : H p = some (.tup vs) → vs.length ≤ big → RepCL K F H fp vs cs → p ∉ fp → RepC K F H (p :: fp) (.ref p) (.tc cs)
inductive RepCL (K : PySem.W.Frag) (F H : Hp) : List Addr → List V → List Cell → Prop
  | nil : RepCL K F H [] [] []
  | cons {v : V} {c : Cell} {fp fq : List Addr} {vs : List V} {cs : List Cell} : RepC K F H fp v c → RepCL K F H fq vs cs → (∀ a ∈ fp, a ∉ fq) → RepCL K F H (fp ++ fq) (v :: vs) (c :: cs)
inductive RepCK (K : PySem.W.Frag) (F H : Hp) : List Addr → List (Key × V) → List (Key × Cell) → Prop
  | nil : RepCK K F H [] [] []
  | cons {k : Key} {v : V} {c : Cell} {fp fq : List Addr} {vs : List (Key × V)} {kvs : List (Key × Cell)} : kOk k = true → RepC K F H fp v c → RepCK K F H fq vs kvs → (∀ a ∈ fp, a ∉ fq) → RepCK K F H (fp ++ fq) ((k, v) :: vs) ((k, c) :: kvs)
inductive RepCF (K : PySem.W.Frag) (F H : Hp) : List Addr → List (Str × V) → List (Str × Cell) → Prop
  | nil : RepCF K F H [] [] []
  | cons {k : Str} {v : V} {c : Cell} {fp fq : List Addr} {vs : List (Str × V)} {kvs : List (Str × Cell)} : RepC K F H fp v c → RepCF K F H fq vs kvs → (∀ a ∈ fp, a ∉ fq) → RepCF K F H (fp ++ fq) ((k, v) :: vs) ((k, c) :: kvs)
end
mutual
theorem RepC.mono {K : PySem.W.Frag} {F H F' H' : Hp} (e : Ex F F') : ∀ {fp : List Addr} {v : V} {c : Cell}, (∀ a ∈ fp, ∀ o, H a = some o → nT o = true → H' a = some o) → RepC K F H fp v c → RepC K F' H' fp v c
  | _, _, _, _, .fz r => .fz (r.mono e)
  | _, _, _, k, .ol h l r => .ol (k _ (by simp) _ h rfl) l (r.mono e)
  | _, _, _, k, .od h l r n => .od (k _ (by simp) _ h rfl) l (r.mono e) n
  | _, _, _, k, .odt h l r n => .odt (k _ (by simp) _ h rfl) l (r.mono e) n
  | _, _, _, k, .oc h l r n d => .oc (k _ (by simp) _ h rfl) l (RepCK.mono e (fun a ha => k a (List.mem_cons_of_mem _ ha)) r) n d
  | _, _, _, k, .ob h r n => .ob (k _ (by simp) _ h rfl) (RepCF.mono e (fun a ha => k a (List.mem_cons_of_mem _ ha)) r) n
  | _, _, _, _, .hl => .hl
  | _, _, _, _, .fl h l r => .fl (e _ _ h) l (r.mono e)
  | _, _, _, k, .lc h l r n => .lc (k _ (by simp) _ h rfl) l (RepCL.mono e (fun a ha => k a (List.mem_cons_of_mem _ ha)) r) n
  | _, _, _, k, .tc h l r n => .tc (k _ (by simp) _ h rfl) l (RepCL.mono e (fun a ha => k a (List.mem_cons_of_mem _ ha)) r) n
theorem RepCL.mono {K : PySem.W.Frag} {F H F' H' : Hp} (e : Ex F F') : ∀ {fp : List Addr} {v : List V} {c : List Cell}, (∀ a ∈ fp, ∀ o, H a = some o → nT o = true → H' a = some o) → RepCL K F H fp v c → RepCL K F' H' fp v c
  | _, _, _, _, .nil => .nil
  | _, _, _, k, .cons r rs d => .cons (RepC.mono e (fun a ha => k a (List.mem_append_left _ ha)) r) (RepCL.mono e (fun a ha => k a (List.mem_append_right _ ha)) rs) d
theorem RepCK.mono {K : PySem.W.Frag} {F H F' H' : Hp} (e : Ex F F') : ∀ {fp : List Addr} {v : List (Key × V)} {c : List (Key × Cell)}, (∀ a ∈ fp, ∀ o, H a = some o → nT o = true → H' a = some o) → RepCK K F H fp v c → RepCK K F' H' fp v c
  | _, _, _, _, .nil => .nil
  | _, _, _, k, .cons o r rs d => .cons o (RepC.mono e (fun a ha => k a (List.mem_append_left _ ha)) r) (RepCK.mono e (fun a ha => k a (List.mem_append_right _ ha)) rs) d
theorem RepCF.mono {K : PySem.W.Frag} {F H F' H' : Hp} (e : Ex F F') : ∀ {fp : List Addr} {v : List (Str × V)} {c : List (Str × Cell)}, (∀ a ∈ fp, ∀ o, H a = some o → nT o = true → H' a = some o) → RepCF K F H fp v c → RepCF K F' H' fp v c
  | _, _, _, _, .nil => .nil
  | _, _, _, k, .cons r rs d => .cons (RepC.mono e (fun a ha => k a (List.mem_append_left _ ha)) r) (RepCF.mono e (fun a ha => k a (List.mem_append_right _ ha)) rs) d
end
/-- what is owned stands -/
theorem RepC.there {K : PySem.W.Frag} {F H : Hp} {fp : List Addr} {v : V} {d : Dt} (r : RepC K F H fp v (.fz d)) : fp = [] ∧ Rep K F v d := by cases r with | fz r => exact ⟨rfl, r⟩
theorem RepC.ol_inv {K : PySem.W.Frag} {F H : Hp} {fp : List Addr} {v : V} {ds : List Dt} (r : RepC K F H fp v (.ol ds)) : ∃ p vs, v = .ref p ∧ fp = [p] ∧ H p = some (.lst vs) ∧ vs.length ≤ big ∧ RepL K F vs ds := by
  cases r with | ol h l r => exact ⟨_, _, rfl, rfl, h, l, r⟩
theorem RepC.here {K : PySem.W.Frag} {F H : Hp} {fp : List Addr} {p : Addr} {c : Cell} (r : RepC K F H fp (.ref p) c) (h : fp ≠ []) : ∃ o, H p = some o ∧ nTC o = true := by
  generalize hv : V.ref p = v at r
  cases r with
  | fz r => exact absurd rfl h
  | ol a l r => cases hv; exact ⟨_, a, rfl⟩
  | od a l r n => cases hv; exact ⟨_, a, rfl⟩
  | odt a l r n => cases hv; exact ⟨_, a, rfl⟩
  | oc a l r n d => cases hv; exact ⟨_, a, rfl⟩
  | ob a r n => cases hv; exact ⟨_, a, rfl⟩
  | hl => exact absurd rfl h
  | fl a l r => exact absurd rfl h
  | lc a l r n => cases hv; exact ⟨_, a, rfl⟩
  | tc a l r n => cases hv; exact ⟨_, a, rfl⟩
mutual
theorem RepC.all {K : PySem.W.Frag} {F H : Hp} : ∀ {fp : List Addr} {v : V} {c : Cell}, RepC K F H fp v c → ∀ a ∈ fp, ∃ o, H a = some o ∧ nTC o = true
  | _, _, _, .fz _, a, h => nomatch h
  | _, _, _, .ol h _ _, a, ha => by obtain rfl := List.mem_singleton.mp ha; exact ⟨_, h, rfl⟩
  | _, _, _, .od h _ _ _, a, ha => by obtain rfl := List.mem_singleton.mp ha; exact ⟨_, h, rfl⟩
  | _, _, _, .odt h _ _ _, a, ha => by obtain rfl := List.mem_singleton.mp ha; exact ⟨_, h, rfl⟩
  | _, _, _, .oc h _ r _ _, a, ha => by
    rcases List.mem_cons.mp ha with rfl | ha
    · exact ⟨_, h, rfl⟩
    · exact RepCK.all r a ha
  | _, _, _, .ob h r _, a, ha => by
    rcases List.mem_cons.mp ha with rfl | ha
    · exact ⟨_, h, rfl⟩
    · exact RepCF.all r a ha
  | _, _, _, .hl, a, h => nomatch h
  | _, _, _, .fl _ _ _, a, h => nomatch h
  | _, _, _, .lc h _ r _, a, ha => by
    rcases List.mem_cons.mp ha with rfl | ha
    · exact ⟨_, h, rfl⟩
    · exact RepCL.all r a ha
  | _, _, _, .tc h _ r _, a, ha => by
    rcases List.mem_cons.mp ha with rfl | ha
    · exact ⟨_, h, rfl⟩
    · exact RepCL.all r a ha
theorem RepCL.all {K : PySem.W.Frag} {F H : Hp} : ∀ {fp : List Addr} {v : List V} {c : List Cell}, RepCL K F H fp v c → ∀ a ∈ fp, ∃ o, H a = some o ∧ nTC o = true
  | _, _, _, .nil, a, h => nomatch h
  | _, _, _, .cons r rs _, a, h => (List.mem_append.mp h).elim (RepC.all r a) (RepCL.all rs a)
theorem RepCK.all {K : PySem.W.Frag} {F H : Hp} : ∀ {fp : List Addr} {v : List (Key × V)} {c : List (Key × Cell)}, RepCK K F H fp v c → ∀ a ∈ fp, ∃ o, H a = some o ∧ nTC o = true
  | _, _, _, .nil, a, h => nomatch h
  | _, _, _, .cons _ r rs _, a, h => (List.mem_append.mp h).elim (RepC.all r a) (RepCK.all rs a)
theorem RepCF.all {K : PySem.W.Frag} {F H : Hp} : ∀ {fp : List Addr} {v : List (Str × V)} {c : List (Str × Cell)}, RepCF K F H fp v c → ∀ a ∈ fp, ∃ o, H a = some o ∧ nTC o = true
  | _, _, _, .nil, a, h => nomatch h
  | _, _, _, .cons r rs _, a, h => (List.mem_append.mp h).elim (RepC.all r a) (RepCF.all rs a)
end
theorem RepC.hl_inv {K : PySem.W.Frag} {F H : Hp} {fp : List Addr} {v w : V} (r : RepC K F H fp v (.hl w)) : fp = [] ∧ v = w := by
  cases r with | hl => exact ⟨rfl, rfl⟩

abbrev Env := List (Option Cell)
def TabAt (K : PySem.W.Frag) (P : Addr) : Prop := (lamB K = true ∧ P = (He.cT K lamD).2) ∨ (lamB2 K = true ∧ P = (He.cT K lamD2).2)
def Tb (K : PySem.W.Frag) (F H : Hp) : Prop := ∀ P, TabAt K P → F P = none ∧ NdefX.TabN H P nmQ
theorem tab_there {H : Hp} {P : Addr} {q : Nat → Nat → Str} (t : NdefX.TabN H P q) : H P ≠ none := by
  obtain ⟨ps, h, _⟩ := t
  rw [h]; simp
theorem Tb.up {K : PySem.W.Frag} {F H F' H' : Hp} (t : Tb K F H) (u : Up F H F' H') : Tb K F' H' := fun P h => ⟨u.nw P (t P h).1 (tab_there (t P h).2), u.hp.t P (t P h).2⟩
/-- the names' cells; what is owned is apart -/
structure EnvOk (K : PySem.W.Frag) (F H : Hp) (σ : St) (G : Env) (fps : Nat → List Addr) : Prop where
  sub : Sub F H
  len : σ.length = G.length
  ent : ∀ (i : Nat) c, G[i]? = some (some c) → ∃ v, σ[i]? = some (some v) ∧ RepC K F H (fps i) v c
  own : ∀ i a, a ∈ fps i → F a = none ∧ H a ≠ none
  dis : ∀ i j a, a ∈ fps i → a ∈ fps j → i = j
  tab : Tb K F H
theorem EnvOk.up {K : PySem.W.Frag} {F H F' H' : Hp} {σ : St} {G : Env} {fps : Nat → List Addr} (e : EnvOk K F H σ G fps) (u : Up F H F' H') : EnvOk K F' H' σ G fps := by
  refine ⟨u.sb, e.len, fun i c h => ?_, fun i a h => ?_, e.dis, e.tab.up u⟩
  · obtain ⟨v, h1, h2⟩ := e.ent i c h
    exact ⟨v, h1, RepC.mono u.fr (fun a _ o q n => u.hp.h q n) h2⟩
  · obtain ⟨h1, h2⟩ := e.own i a h
    exact ⟨u.nw a h1 h2, u.hp.n a (fun z => z) h2⟩
def Owns (fps : Nat → List Addr) (a : Addr) : Prop := ∃ i, a ∈ fps i

/-- a step that may change what is owned -/
structure Le (O : Addr → Prop) (F H F' H' : Hp) (O' : Addr → Prop) : Prop where
  fr : Ex F F'
  hp : ExO O H H'
  nw : ∀ a, ¬ O a → F a = none → H a ≠ none → F' a = none
  ow : ∀ a, O' a → O a ∨ H a = none
theorem Le.trans {O O1 O2 : Addr → Prop} {F H F1 H1 F2 H2 : Hp} (a : Le O F H F1 H1 O1) (b : Le O1 F1 H1 F2 H2 O2) : Le O F H F2 H2 O2 := by
  have no : ∀ x, ¬ O x → H x ≠ none → ¬ O1 x := fun x h h' z => by
    rcases a.ow x z with q | q
    · exact h q
    · exact h' q
  refine ⟨a.fr.trans b.fr, ⟨fun x o h q n => b.hp.k x o (no x h (by rw [q]; simp)) (a.hp.k x o h q n) n, fun x h q => b.hp.n x (no x h q) (a.hp.n x h q), fun x h => b.hp.t x (a.hp.t x h)⟩, fun x h q q' => ?_, fun x h => ?_⟩
  · exact b.nw x (no x h q') (a.nw x h q q') (a.hp.n x h q')
  · by_cases hO : O x
    · exact .inl hO
    · rcases b.ow x h with q | q
      · exact a.ow x q
      · refine .inr ?_
        cases z : H x with
        | none => rfl
        | some o => exact absurd q (a.hp.n x hO (by rw [z]; simp))
theorem Up.le {F H F' H' : Hp} {O : Addr → Prop} (u : Up F H F' H') : Le O F H F' H' O :=
  ⟨u.fr, u.hp.imp fun _ z => z.elim, fun a _ h h' => u.nw a h h', fun _ h => .inl h⟩
theorem Le.refl {F H : Hp} {O : Addr → Prop} : Le O F H F H O := ⟨Ex.refl F, ExO.refl H, fun _ _ h _ => h, fun _ h => .inl h⟩

/-! ### the weakest readings, over a family of contexts -/
section
variable {I : Type}
def wpE (X : I → Cx) (e : Expr) : TE := fun σ H Q => ∃ t, (∀ i, PE (X i) e t) ∧ t σ H Q
def wpT (X : I → Cx) (e : Expr) : TT := fun σ H Q => ∃ t, (∀ i, PT (X i) e t) ∧ t σ H Q
def wpW (X : I → Cx) (e : Expr) : TT := fun σ H Q => ∃ t, (∀ i, PW (X i) e t) ∧ t σ H Q
def wpA (X : I → Cx) (es : List Expr) : TA := fun σ H Q => ∃ t, (∀ i, PA (X i) es t) ∧ t σ H Q
theorem pe_wp {X : I → Cx} {e : Expr} (i : I) : PE (X i) e (wpE X e) := ⟨fun pins s σ H Q J ⟨_, h, q⟩ => (h i).run pins s σ H Q J q⟩
theorem pt_wp {X : I → Cx} {e : Expr} (i : I) : PT (X i) e (wpT X e) := ⟨fun pins s σ H Q J ⟨_, h, q⟩ => (h i).run pins s σ H Q J q⟩
theorem pw_wp {X : I → Cx} {e : Expr} (i : I) : PW (X i) e (wpW X e) := ⟨fun wh pins s σ H Q J ⟨_, h, q⟩ => (h i).run wh pins s σ H Q J q⟩
theorem pa_wp {X : I → Cx} {es : List Expr} (i : I) : PA (X i) es (wpA X es) := ⟨fun pos pins s σ H Q J ⟨_, h, q⟩ => (h i).run pos pins s σ H Q J q⟩
end
def wpS (X : Cx) (st : Stmt) : TS := fun D σ H => ∃ t, PS X st t ∧ t D σ H
def wpSs (X : Cx) (ss : List Stmt) : TS := fun D σ H => ∃ t, PSs X ss t ∧ t D σ H
theorem pss_wp {X : Cx} {ss : List Stmt} : PSs X ss (wpSs X ss) := ⟨fun pins s σ H D J ⟨_, h, q⟩ => h.run pins s σ H D J q⟩

/-! ### judgements of expressions -/
section
variable {I : Type}
/-- e gives the frozen data d -/
def EX (X : I → Cx) (K : PySem.W.Frag) (G : Env) (e : Expr) (d : Dt) : Prop :=
  ∀ F H σ fps (Q : VK), EnvOk K F H σ G fps → (∀ F' H' v, Up F H F' H' → Rep K F' v d → Q v H') → wpE X e σ H Q
/-- e gives a new cell -/
def EN (X : I → Cx) (K : PySem.W.Frag) (G : Env) (e : Expr) (c : Cell) : Prop :=
  ∀ F H σ fps (Q : VK), EnvOk K F H σ G fps → (∀ F' H' v fp, Up F H F' H' → RepC K F' H' fp v c → (∀ a ∈ fp, H a = none ∧ F' a = none ∧ H' a ≠ none) → Q v H') → wpE X e σ H Q
/-- e is a test's answer -/
def EB (X : I → Cx) (K : PySem.W.Frag) (G : Env) (e : Expr) (b : Bool) : Prop :=
  ∀ F H σ fps (Q : Bool → Hp → Prop), EnvOk K F H σ G fps → (∀ F' H', Up F H F' H' → Q b H') → wpT X e σ H Q
def EBW (X : I → Cx) (K : PySem.W.Frag) (G : Env) (e : Expr) (b : Bool) : Prop :=
  ∀ F H σ fps (Q : Bool → Hp → Prop), EnvOk K F H σ G fps → (∀ F' H', Up F H F' H' → Q b H') → wpW X e σ H Q
/-- arguments, from the left -/
def EA (X : I → Cx) (K : PySem.W.Frag) (G : Env) (es : List Expr) (ds : List Dt) : Prop :=
  ∀ F H σ fps (Q : List V → Hp → Prop), EnvOk K F H σ G fps → (∀ F' H' vs, Up F H F' H' → RepL K F' vs ds → Q vs H') → wpA X es σ H Q

variable {X : I → Cx} {K : PySem.W.Frag} {G : Env}
theorem ex_var {i : Nat} {x : Str} {pos : Pos} {d : Dt} (hg : G[i]? = some (some (.fz d))) (hN : ∀ j, (X j).N[i]? = some x) (hv : ∀ j, Vis (X j).env.scope x)
    (hd : (x == ("__debug__" : Str)) = false := by decide) (hcd : (x == ("__classdict__" : Str)) = false := by decide) : EX X K G (.Name x pos) d := fun F H σ fps Q e q => by
  obtain ⟨v, h1, h2⟩ := e.ent i _ hg
  exact ⟨tVar i, fun j => pe_var (hN j) (hv j) hd hcd, v, h1, q F H v (Up.refl e.sub) h2.there.2⟩
theorem ex_int {i : Int} {j pos} : EX X K G (.Constant (.int i) j pos) (.int i) := fun F H σ fps Q e q => ⟨_, fun _ => pe_int, q F H _ (Up.refl e.sub) (.int i)⟩
theorem ex_bl {b : Bool} {j pos} : EX X K G (.Constant (.bool b) j pos) (.bl b) := fun F H σ fps Q e q => ⟨_, fun _ => pe_bl, q F H _ (Up.refl e.sub) (.bl b)⟩
theorem ex_non {j pos} : EX X K G (.Constant .none j pos) .non := fun F H σ fps Q e q => ⟨_, fun _ => pe_non, q F H _ (Up.refl e.sub) .non⟩
theorem ex_str {s : Str} {j pos} (h : goodB s = true := by decide +kernel) : EX X K G (.Constant (.str s) j pos) (.str s) := fun F H σ fps Q e q => ⟨_, fun _ => pe_str, q F H _ (Up.refl e.sub) (.str s h)⟩
theorem ea_nil : EA X K G [] [] := fun F H σ fps Q e q => ⟨_, fun _ => pa_nil, q F H [] (Up.refl e.sub) .nil⟩
end
end Vs

/-! Places within cells: taking a cell out, giving it back, freezing. -/
namespace Vs
open PySem PySem.Spec L2

/-! ### places -/
mutual
def Cell.at : Cell → List Nat → Option Cell
  | c, [] => some c
  | .ob _ fs, i :: π => atF fs i π
  | .oc kvs, i :: π => atK kvs i π
  | .lc cs, i :: π => atL cs i π
  | .tc cs, i :: π => atL cs i π
  | _, _ :: _ => none
termination_by structural c => c
def atL : List Cell → Nat → List Nat → Option Cell
  | [], _, _ => none
  | c :: _, 0, π => c.at π
  | _ :: cs, i + 1, π => atL cs i π
termination_by structural c => c
def atF : List (Str × Cell) → Nat → List Nat → Option Cell
  | [], _, _ => none
  | (_, c) :: _, 0, π => c.at π
  | _ :: fs, i + 1, π => atF fs i π
termination_by structural c => c
def atK : List (Key × Cell) → Nat → List Nat → Option Cell
  | [], _, _ => none
  | (_, c) :: _, 0, π => c.at π
  | _ :: fs, i + 1, π => atK fs i π
termination_by structural c => c
end
mutual
def Cell.upd : Cell → List Nat → Cell → Cell
  | _, [], x => x
  | .ob C fs, i :: π, x => .ob C (updF fs i π x)
  | .oc kvs, i :: π, x => .oc (updK kvs i π x)
  | .lc cs, i :: π, x => .lc (updL cs i π x)
  | .tc cs, i :: π, x => .tc (updL cs i π x)
  | c, _ :: _, _ => c
termination_by structural c => c
def updL : List Cell → Nat → List Nat → Cell → List Cell
  | [], _, _, _ => []
  | c :: cs, 0, π, x => c.upd π x :: cs
  | z :: cs, i + 1, π, x => z :: updL cs i π x
termination_by structural c => c
def updF : List (Str × Cell) → Nat → List Nat → Cell → List (Str × Cell)
  | [], _, _, _ => []
  | (k, c) :: fs, 0, π, x => (k, c.upd π x) :: fs
  | z :: fs, i + 1, π, x => z :: updF fs i π x
termination_by structural c => c
def updK : List (Key × Cell) → Nat → List Nat → Cell → List (Key × Cell)
  | [], _, _, _ => []
  | (k, c) :: fs, 0, π, x => (k, c.upd π x) :: fs
  | z :: fs, i + 1, π, x => z :: updK fs i π x
termination_by structural c => c
end
mutual
theorem Cell.at_upd (x : Cell) : ∀ (c : Cell) (π : List Nat), (c.at π).isSome = true → (c.upd π x).at π = some x
  | c, [], _ => by cases c <;> simp [Cell.at, Cell.upd]
  | .ob _ fs, i :: π, h => by
    simp only [Cell.at, Cell.upd] at h ⊢
    exact atF_upd x fs i π h
  | .oc fs, i :: π, h => by
    simp only [Cell.at, Cell.upd] at h ⊢
    exact atK_upd x fs i π h
  | .lc fs, i :: π, h => by
    simp only [Cell.at, Cell.upd] at h ⊢
    exact atL_upd x fs i π h
  | .tc fs, i :: π, h => by
    simp only [Cell.at, Cell.upd] at h ⊢
    exact atL_upd x fs i π h
  | .fz _, _ :: _, h => by simp [Cell.at] at h
  | .ol _, _ :: _, h => by simp [Cell.at] at h
  | .od _, _ :: _, h => by simp [Cell.at] at h
  | .odt _, _ :: _, h => by simp [Cell.at] at h
  | .hl _, _ :: _, h => by simp [Cell.at] at h
  | .fl _ _, _ :: _, h => by simp [Cell.at] at h
theorem atL_upd (x : Cell) : ∀ (fs : List Cell) (i : Nat) (π : List Nat), (atL fs i π).isSome = true → atL (updL fs i π x) i π = some x
  | [], _, _, h => by simp [atL] at h
  | c :: _, 0, π, h => by
    simp only [atL, updL] at h ⊢
    exact Cell.at_upd x c π h
  | _ :: fs, i + 1, π, h => by
    simp only [atL, updL] at h ⊢
    exact atL_upd x fs i π h
theorem atF_upd (x : Cell) : ∀ (fs : List (Str × Cell)) (i : Nat) (π : List Nat), (atF fs i π).isSome = true → atF (updF fs i π x) i π = some x
  | [], _, _, h => by simp [atF] at h
  | (_, c) :: _, 0, π, h => by
    simp only [atF, updF] at h ⊢
    exact Cell.at_upd x c π h
  | _ :: fs, i + 1, π, h => by
    simp only [atF, updF] at h ⊢
    exact atF_upd x fs i π h
theorem atK_upd (x : Cell) : ∀ (fs : List (Key × Cell)) (i : Nat) (π : List Nat), (atK fs i π).isSome = true → atK (updK fs i π x) i π = some x
  | [], _, _, h => by simp [atK] at h
  | (_, c) :: _, 0, π, h => by
    simp only [atK, updK] at h ⊢
    exact Cell.at_upd x c π h
  | _ :: fs, i + 1, π, h => by
    simp only [atK, updK] at h ⊢
    exact atK_upd x fs i π h
end
mutual
theorem Cell.upd_upd (x y : Cell) : ∀ (c : Cell) (π : List Nat), (c.upd π x).upd π y = c.upd π y
  | c, [] => by cases c <;> simp [Cell.upd]
  | .ob _ fs, i :: π => by simp only [Cell.upd]; rw [updF_upd x y fs i π]
  | .oc fs, i :: π => by simp only [Cell.upd]; rw [updK_upd x y fs i π]
  | .lc fs, i :: π => by simp only [Cell.upd]; rw [updL_upd x y fs i π]
  | .tc fs, i :: π => by simp only [Cell.upd]; rw [updL_upd x y fs i π]
  | .fz _, _ :: _ => by simp [Cell.upd]
  | .ol _, _ :: _ => by simp [Cell.upd]
  | .od _, _ :: _ => by simp [Cell.upd]
  | .odt _, _ :: _ => by simp [Cell.upd]
  | .hl _, _ :: _ => by simp [Cell.upd]
  | .fl _ _, _ :: _ => by simp [Cell.upd]
theorem updL_upd (x y : Cell) : ∀ (fs : List Cell) (i : Nat) (π : List Nat), updL (updL fs i π x) i π y = updL fs i π y
  | [], _, _ => by simp [updL]
  | c :: _, 0, π => by simp only [updL]; rw [Cell.upd_upd x y c π]
  | _ :: fs, i + 1, π => by simp only [updL]; rw [updL_upd x y fs i π]
theorem updF_upd (x y : Cell) : ∀ (fs : List (Str × Cell)) (i : Nat) (π : List Nat), updF (updF fs i π x) i π y = updF fs i π y
  | [], _, _ => by simp [updF]
  | (_, c) :: _, 0, π => by simp only [updF]; rw [Cell.upd_upd x y c π]
  | _ :: fs, i + 1, π => by simp only [updF]; rw [updF_upd x y fs i π]
theorem updK_upd (x y : Cell) : ∀ (fs : List (Key × Cell)) (i : Nat) (π : List Nat), updK (updK fs i π x) i π y = updK fs i π y
  | [], _, _ => by simp [updK]
  | (_, c) :: _, 0, π => by simp only [updK]; rw [Cell.upd_upd x y c π]
  | _ :: fs, i + 1, π => by simp only [updK]; rw [updK_upd x y fs i π]
end
/-- the value at a place, over the heap -/
inductive LocV (H : Hp) : V → List Nat → V → Prop
  | nil {v : V} : LocV H v [] v
  | fld {p C dx : Addr} {vs : List (Str × V)} {i : Nat} {f : Str} {w v : V} {π : List Nat} : H p = some (.ins C dx vs) → vs[i]? = some (f, w) → LocV H w π v → LocV H (.ref p) (i :: π) v
  | key {p : Addr} {vs : List (Key × V)} {i : Nat} {k : Key} {w v : V} {π : List Nat} : H p = some (.dK vs) → vs[i]? = some (k, w) → LocV H w π v → LocV H (.ref p) (i :: π) v
  | itl {p : Addr} {vs : List V} {i : Nat} {w v : V} {π : List Nat} : H p = some (.lst vs) → vs[i]? = some w → LocV H w π v → LocV H (.ref p) (i :: π) v
  | itt {p : Addr} {vs : List V} {i : Nat} {w v : V} {π : List Nat} : H p = some (.tup vs) → vs[i]? = some w → LocV H w π v → LocV H (.ref p) (i :: π) v

section
variable {K : PySem.W.Frag} {F H : Hp}
mutual
theorem RepC.take : ∀ {fp : List Addr} {v : V} {c : Cell}, RepC K F H fp v c → ∀ {π : List Nat} {c' : Cell}, c.at π = some c' →
    ∃ v' fp' fp1, LocV H v π v' ∧ RepC K F H fp' v' c' ∧ RepC K F H fp1 v (c.upd π (.hl v')) ∧ (∀ a, a ∈ fp ↔ a ∈ fp1 ∨ a ∈ fp') ∧ (∀ a ∈ fp', a ∉ fp1)
  | fp, v, c, r, [], c', h => by
    have e : c = c' := by cases c <;> simpa [Cell.at] using h
    subst e
    refine ⟨v, fp, [], .nil, r, ?_, by simp, by simp⟩
    have : c.upd [] (.hl v) = .hl v := by cases c <;> simp [Cell.upd]
    rw [this]; exact .hl
  | _, _, _, .ob (p := p) h1 r n, i :: π, c', h => by
    simp only [Cell.at] at h
    obtain ⟨f, w, v', fp', fp1, a1, a2, a3, a4, a5, a6⟩ := RepCF.take r h
    refine ⟨v', fp', p :: fp1, .fld h1 a1 a2, a3, ?_, fun a => ?_, fun a ha => ?_⟩
    · simp only [Cell.upd]
      exact .ob h1 a4 fun z => n ((a5 _).mpr (.inl z))
    · rw [List.mem_cons, List.mem_cons, a5 a, or_assoc]
    · intro z
      rcases List.mem_cons.mp z with e | z
      · subst e; exact n ((a5 _).mpr (.inr ha))
      · exact a6 a ha z
  | _, _, _, .oc (p := p) h1 l r n dd, i :: π, c', h => by
    simp only [Cell.at] at h
    obtain ⟨f, w, v', fp', fp1, a1, a2, a3, a4, a5, a6⟩ := RepCK.take r h
    refine ⟨v', fp', p :: fp1, .key h1 a1 a2, a3, ?_, fun a => ?_, fun a ha => ?_⟩
    · simp only [Cell.upd]
      exact .oc h1 l a4 (fun z => n ((a5 _).mpr (.inl z))) dd
    · rw [List.mem_cons, List.mem_cons, a5 a, or_assoc]
    · intro z
      rcases List.mem_cons.mp z with e | z
      · subst e; exact n ((a5 _).mpr (.inr ha))
      · exact a6 a ha z
  | _, _, _, .lc (p := p) h1 l r n, i :: π, c', h => by
    simp only [Cell.at] at h
    obtain ⟨w, v', fp', fp1, a1, a2, a3, a4, a5, a6⟩ := RepCL.take r h
    refine ⟨v', fp', p :: fp1, .itl h1 a1 a2, a3, ?_, fun a => ?_, fun a ha => ?_⟩
    · simp only [Cell.upd]
      exact .lc h1 l a4 (fun z => n ((a5 _).mpr (.inl z)))
    · rw [List.mem_cons, List.mem_cons, a5 a, or_assoc]
    · intro z
      rcases List.mem_cons.mp z with e | z
      · subst e; exact n ((a5 _).mpr (.inr ha))
      · exact a6 a ha z
  | _, _, _, .tc (p := p) h1 l r n, i :: π, c', h => by
    simp only [Cell.at] at h
    obtain ⟨w, v', fp', fp1, a1, a2, a3, a4, a5, a6⟩ := RepCL.take r h
    refine ⟨v', fp', p :: fp1, .itt h1 a1 a2, a3, ?_, fun a => ?_, fun a ha => ?_⟩
    · simp only [Cell.upd]
      exact .tc h1 l a4 (fun z => n ((a5 _).mpr (.inl z)))
    · rw [List.mem_cons, List.mem_cons, a5 a, or_assoc]
    · intro z
      rcases List.mem_cons.mp z with e | z
      · subst e; exact n ((a5 _).mpr (.inr ha))
      · exact a6 a ha z
  | _, _, _, .fz _, _ :: _, _, h => by simp [Cell.at] at h
  | _, _, _, .ol _ _ _, _ :: _, _, h => by simp [Cell.at] at h
  | _, _, _, .od _ _ _ _, _ :: _, _, h => by simp [Cell.at] at h
  | _, _, _, .odt _ _ _ _, _ :: _, _, h => by simp [Cell.at] at h
  | _, _, _, .hl, _ :: _, _, h => by simp [Cell.at] at h
  | _, _, _, .fl _ _ _, _ :: _, _, h => by simp [Cell.at] at h
theorem RepCL.take : ∀ {fp : List Addr} {vs : List V} {fs : List Cell}, RepCL K F H fp vs fs → ∀ {i : Nat} {π : List Nat} {c' : Cell}, atL fs i π = some c' →
    ∃ w v' fp' fp1, vs[i]? = some w ∧ LocV H w π v' ∧ RepC K F H fp' v' c' ∧ RepCL K F H fp1 vs (updL fs i π (.hl v')) ∧ (∀ a, a ∈ fp ↔ a ∈ fp1 ∨ a ∈ fp') ∧ (∀ a ∈ fp', a ∉ fp1)
  | _, _, _, .nil, _, _, _, h => by simp [atL] at h
  | _, _, _, .cons (v := vv) (fp := fpa) (fq := fqa) r rs d, 0, π, c', h => by
    simp only [atL] at h
    obtain ⟨v', fp', fp1, a1, a2, a3, a4, a5⟩ := RepC.take r h
    refine ⟨vv, v', fp', fp1 ++ fqa, rfl, a1, a2, ?_, fun a => ?_, fun a ha => ?_⟩
    · simp only [updL]
      exact .cons a3 rs fun a ha => d a ((a4 a).mpr (.inl ha))
    · rw [List.mem_append, List.mem_append, a4 a]
      constructor
      · rintro ((h | h) | h)
        · exact .inl (.inl h)
        · exact .inr h
        · exact .inl (.inr h)
      · rintro ((h | h) | h)
        · exact .inl (.inl h)
        · exact .inr h
        · exact .inl (.inr h)
    · intro z
      rcases List.mem_append.mp z with z | z
      · exact a5 a ha z
      · exact d a ((a4 a).mpr (.inr ha)) z
  | _, _, _, .cons (fp := fpa) (fq := fqa) r rs d, i + 1, π, c', h => by
    simp only [atL] at h
    obtain ⟨w, v', fp', fp1, a1, a2, a3, a4, a5, a6⟩ := RepCL.take rs h
    refine ⟨w, v', fp', fpa ++ fp1, by simpa using a1, a2, a3, ?_, fun a => ?_, fun a ha => ?_⟩
    · simp only [updL]
      exact .cons r a4 fun a ha z => d a ha ((a5 a).mpr (.inl z))
    · rw [List.mem_append, List.mem_append, a5 a, or_assoc]
    · intro z
      rcases List.mem_append.mp z with z | z
      · exact d a z ((a5 a).mpr (.inr ha))
      · exact a6 a ha z
theorem RepCF.take : ∀ {fp : List Addr} {vs : List (Str × V)} {fs : List (Str × Cell)}, RepCF K F H fp vs fs → ∀ {i : Nat} {π : List Nat} {c' : Cell}, atF fs i π = some c' →
    ∃ f w v' fp' fp1, vs[i]? = some (f, w) ∧ LocV H w π v' ∧ RepC K F H fp' v' c' ∧ RepCF K F H fp1 vs (updF fs i π (.hl v')) ∧ (∀ a, a ∈ fp ↔ a ∈ fp1 ∨ a ∈ fp') ∧ (∀ a ∈ fp', a ∉ fp1)
  | _, _, _, .nil, _, _, _, h => by simp [atF] at h
  | _, _, _, .cons (k := kk) (v := vv) (fp := fpa) (fq := fqa) r rs d, 0, π, c', h => by
    simp only [atF] at h
    obtain ⟨v', fp', fp1, a1, a2, a3, a4, a5⟩ := RepC.take r h
    refine ⟨kk, vv, v', fp', fp1 ++ fqa, rfl, a1, a2, ?_, fun a => ?_, fun a ha => ?_⟩
    · simp only [updF]
      exact .cons a3 rs fun a ha => d a ((a4 a).mpr (.inl ha))
    · rw [List.mem_append, List.mem_append, a4 a]
      constructor
      · rintro ((h | h) | h)
        · exact .inl (.inl h)
        · exact .inr h
        · exact .inl (.inr h)
      · rintro ((h | h) | h)
        · exact .inl (.inl h)
        · exact .inr h
        · exact .inl (.inr h)
    · intro z
      rcases List.mem_append.mp z with z | z
      · exact a5 a ha z
      · exact d a ((a4 a).mpr (.inr ha)) z
  | _, _, _, .cons (fp := fpa) (fq := fqa) r rs d, i + 1, π, c', h => by
    simp only [atF] at h
    obtain ⟨f, w, v', fp', fp1, a1, a2, a3, a4, a5, a6⟩ := RepCF.take rs h
    refine ⟨f, w, v', fp', fpa ++ fp1, by simpa using a1, a2, a3, ?_, fun a => ?_, fun a ha => ?_⟩
    · simp only [updF]
      exact .cons r a4 fun a ha z => d a ha ((a5 a).mpr (.inl z))
    · rw [List.mem_append, List.mem_append, a5 a, or_assoc]
    · intro z
      rcases List.mem_append.mp z with z | z
      · exact d a z ((a5 a).mpr (.inr ha))
      · exact a6 a ha z
theorem RepCK.take : ∀ {fp : List Addr} {vs : List (Key × V)} {fs : List (Key × Cell)}, RepCK K F H fp vs fs → ∀ {i : Nat} {π : List Nat} {c' : Cell}, atK fs i π = some c' →
    ∃ f w v' fp' fp1, vs[i]? = some (f, w) ∧ LocV H w π v' ∧ RepC K F H fp' v' c' ∧ RepCK K F H fp1 vs (updK fs i π (.hl v')) ∧ (∀ a, a ∈ fp ↔ a ∈ fp1 ∨ a ∈ fp') ∧ (∀ a ∈ fp', a ∉ fp1)
  | _, _, _, .nil, _, _, _, h => by simp [atK] at h
  | _, _, _, .cons (k := kk) (v := vv) (fp := fpa) (fq := fqa) o r rs d, 0, π, c', h => by
    simp only [atK] at h
    obtain ⟨v', fp', fp1, a1, a2, a3, a4, a5⟩ := RepC.take r h
    refine ⟨kk, vv, v', fp', fp1 ++ fqa, rfl, a1, a2, ?_, fun a => ?_, fun a ha => ?_⟩
    · simp only [updK]
      exact .cons o a3 rs fun a ha => d a ((a4 a).mpr (.inl ha))
    · rw [List.mem_append, List.mem_append, a4 a]
      constructor
      · rintro ((h | h) | h)
        · exact .inl (.inl h)
        · exact .inr h
        · exact .inl (.inr h)
      · rintro ((h | h) | h)
        · exact .inl (.inl h)
        · exact .inr h
        · exact .inl (.inr h)
    · intro z
      rcases List.mem_append.mp z with z | z
      · exact a5 a ha z
      · exact d a ((a4 a).mpr (.inr ha)) z
  | _, _, _, .cons (fp := fpa) (fq := fqa) o r rs d, i + 1, π, c', h => by
    simp only [atK] at h
    obtain ⟨f, w, v', fp', fp1, a1, a2, a3, a4, a5, a6⟩ := RepCK.take rs h
    refine ⟨f, w, v', fp', fpa ++ fp1, by simpa using a1, a2, a3, ?_, fun a => ?_, fun a ha => ?_⟩
    · simp only [updK]
      exact .cons o r a4 fun a ha z => d a ha ((a5 a).mpr (.inl z))
    · rw [List.mem_append, List.mem_append, a5 a, or_assoc]
    · intro z
      rcases List.mem_append.mp z with z | z
      · exact d a z ((a5 a).mpr (.inr ha))
      · exact a6 a ha z
end
mutual
theorem RepC.give {fp' : List Addr} {v' : V} {c' : Cell} (r' : RepC K F H fp' v' c') : ∀ {fp : List Addr} {v : V} {c : Cell}, RepC K F H fp v c → ∀ {π : List Nat}, c.at π = some (.hl v') → (∀ a ∈ fp', a ∉ fp) →
    ∃ fp1, RepC K F H fp1 v (c.upd π c') ∧ (∀ a, a ∈ fp1 ↔ a ∈ fp ∨ a ∈ fp')
  | fp, v, c, r, [], h, d => by
    have e : c = .hl v' := by cases c <;> simpa [Cell.at] using h
    subst e
    obtain ⟨rfl, rfl⟩ := r.hl_inv
    exact ⟨fp', by simpa [Cell.upd] using r', by simp⟩
  | _, _, _, .ob (p := p) h1 r n, i :: π, h, d => by
    simp only [Cell.at] at h
    obtain ⟨fp1, a1, a2⟩ := RepCF.give r' r h fun a ha z => d a ha (List.mem_cons_of_mem _ z)
    refine ⟨p :: fp1, ?_, fun a => by rw [List.mem_cons, List.mem_cons, a2 a, or_assoc]⟩
    simp only [Cell.upd]
    exact .ob h1 a1 fun z => ((a2 _).mp z).elim n fun z => d _ z (by simp)
  | _, _, _, .oc (p := p) h1 l r n dd, i :: π, h, d => by
    simp only [Cell.at] at h
    obtain ⟨fp1, a1, a2⟩ := RepCK.give r' r h fun a ha z => d a ha (List.mem_cons_of_mem _ z)
    refine ⟨p :: fp1, ?_, fun a => by rw [List.mem_cons, List.mem_cons, a2 a, or_assoc]⟩
    simp only [Cell.upd]
    exact .oc h1 l a1 (fun z => ((a2 _).mp z).elim n fun z => d _ z (by simp)) dd
  | _, _, _, .lc (p := p) h1 l r n, i :: π, h, d => by
    simp only [Cell.at] at h
    obtain ⟨fp1, a1, a2⟩ := RepCL.give r' r h fun a ha z => d a ha (List.mem_cons_of_mem _ z)
    refine ⟨p :: fp1, ?_, fun a => by rw [List.mem_cons, List.mem_cons, a2 a, or_assoc]⟩
    simp only [Cell.upd]
    exact .lc h1 l a1 (fun z => ((a2 _).mp z).elim n fun z => d _ z (by simp))
  | _, _, _, .tc (p := p) h1 l r n, i :: π, h, d => by
    simp only [Cell.at] at h
    obtain ⟨fp1, a1, a2⟩ := RepCL.give r' r h fun a ha z => d a ha (List.mem_cons_of_mem _ z)
    refine ⟨p :: fp1, ?_, fun a => by rw [List.mem_cons, List.mem_cons, a2 a, or_assoc]⟩
    simp only [Cell.upd]
    exact .tc h1 l a1 (fun z => ((a2 _).mp z).elim n fun z => d _ z (by simp))
  | _, _, _, .fz _, _ :: _, h, _ => by simp [Cell.at] at h
  | _, _, _, .ol _ _ _, _ :: _, h, _ => by simp [Cell.at] at h
  | _, _, _, .od _ _ _ _, _ :: _, h, _ => by simp [Cell.at] at h
  | _, _, _, .odt _ _ _ _, _ :: _, h, _ => by simp [Cell.at] at h
  | _, _, _, .hl, _ :: _, h, _ => by simp [Cell.at] at h
  | _, _, _, .fl _ _ _, _ :: _, h, _ => by simp [Cell.at] at h
theorem RepCL.give {fp' : List Addr} {v' : V} {c' : Cell} (r' : RepC K F H fp' v' c') : ∀ {fp : List Addr} {vs : List V} {fs : List Cell}, RepCL K F H fp vs fs → ∀ {i : Nat} {π : List Nat}, atL fs i π = some (.hl v') → (∀ a ∈ fp', a ∉ fp) →
    ∃ fp1, RepCL K F H fp1 vs (updL fs i π c') ∧ (∀ a, a ∈ fp1 ↔ a ∈ fp ∨ a ∈ fp')
  | _, _, _, .nil, _, _, h, _ => by simp [atL] at h
  | _, _, _, .cons (fp := fpa) (fq := fqa) r rs d, 0, π, h, dd => by
    simp only [atL] at h
    obtain ⟨fp1, a1, a2⟩ := RepC.give r' r h fun a ha z => dd a ha (List.mem_append_left _ z)
    refine ⟨fp1 ++ fqa, ?_, fun a => ?_⟩
    · simp only [updL]
      exact .cons a1 rs fun a ha => ((a2 a).mp ha).elim (d a) fun z y => dd a z (List.mem_append_right _ y)
    · rw [List.mem_append, List.mem_append, a2 a]
      constructor
      · rintro ((h | h) | h)
        · exact .inl (.inl h)
        · exact .inr h
        · exact .inl (.inr h)
      · rintro ((h | h) | h)
        · exact .inl (.inl h)
        · exact .inr h
        · exact .inl (.inr h)
  | _, _, _, .cons (fp := fpa) (fq := fqa) r rs d, i + 1, π, h, dd => by
    simp only [atL] at h
    obtain ⟨fp1, a1, a2⟩ := RepCL.give r' rs h fun a ha z => dd a ha (List.mem_append_right _ z)
    refine ⟨fpa ++ fp1, ?_, fun a => by rw [List.mem_append, List.mem_append, a2 a, or_assoc]⟩
    simp only [updL]
    exact .cons r a1 fun a ha z => ((a2 a).mp z).elim (d a ha) fun y => dd a y (List.mem_append_left _ ha)
theorem RepCF.give {fp' : List Addr} {v' : V} {c' : Cell} (r' : RepC K F H fp' v' c') : ∀ {fp : List Addr} {vs : List (Str × V)} {fs : List (Str × Cell)}, RepCF K F H fp vs fs → ∀ {i : Nat} {π : List Nat}, atF fs i π = some (.hl v') → (∀ a ∈ fp', a ∉ fp) →
    ∃ fp1, RepCF K F H fp1 vs (updF fs i π c') ∧ (∀ a, a ∈ fp1 ↔ a ∈ fp ∨ a ∈ fp')
  | _, _, _, .nil, _, _, h, _ => by simp [atF] at h
  | _, _, _, .cons (fp := fpa) (fq := fqa) r rs d, 0, π, h, dd => by
    simp only [atF] at h
    obtain ⟨fp1, a1, a2⟩ := RepC.give r' r h fun a ha z => dd a ha (List.mem_append_left _ z)
    refine ⟨fp1 ++ fqa, ?_, fun a => ?_⟩
    · simp only [updF]
      exact .cons a1 rs fun a ha => ((a2 a).mp ha).elim (d a) fun z y => dd a z (List.mem_append_right _ y)
    · rw [List.mem_append, List.mem_append, a2 a]
      constructor
      · rintro ((h | h) | h)
        · exact .inl (.inl h)
        · exact .inr h
        · exact .inl (.inr h)
      · rintro ((h | h) | h)
        · exact .inl (.inl h)
        · exact .inr h
        · exact .inl (.inr h)
  | _, _, _, .cons (fp := fpa) (fq := fqa) r rs d, i + 1, π, h, dd => by
    simp only [atF] at h
    obtain ⟨fp1, a1, a2⟩ := RepCF.give r' rs h fun a ha z => dd a ha (List.mem_append_right _ z)
    refine ⟨fpa ++ fp1, ?_, fun a => by rw [List.mem_append, List.mem_append, a2 a, or_assoc]⟩
    simp only [updF]
    exact .cons r a1 fun a ha z => ((a2 a).mp z).elim (d a ha) fun y => dd a y (List.mem_append_left _ ha)
theorem RepCK.give {fp' : List Addr} {v' : V} {c' : Cell} (r' : RepC K F H fp' v' c') : ∀ {fp : List Addr} {vs : List (Key × V)} {fs : List (Key × Cell)}, RepCK K F H fp vs fs → ∀ {i : Nat} {π : List Nat}, atK fs i π = some (.hl v') → (∀ a ∈ fp', a ∉ fp) →
    ∃ fp1, RepCK K F H fp1 vs (updK fs i π c') ∧ (∀ a, a ∈ fp1 ↔ a ∈ fp ∨ a ∈ fp')
  | _, _, _, .nil, _, _, h, _ => by simp [atK] at h
  | _, _, _, .cons (fp := fpa) (fq := fqa) o r rs d, 0, π, h, dd => by
    simp only [atK] at h
    obtain ⟨fp1, a1, a2⟩ := RepC.give r' r h fun a ha z => dd a ha (List.mem_append_left _ z)
    refine ⟨fp1 ++ fqa, ?_, fun a => ?_⟩
    · simp only [updK]
      exact .cons o a1 rs fun a ha => ((a2 a).mp ha).elim (d a) fun z y => dd a z (List.mem_append_right _ y)
    · rw [List.mem_append, List.mem_append, a2 a]
      constructor
      · rintro ((h | h) | h)
        · exact .inl (.inl h)
        · exact .inr h
        · exact .inl (.inr h)
      · rintro ((h | h) | h)
        · exact .inl (.inl h)
        · exact .inr h
        · exact .inl (.inr h)
  | _, _, _, .cons (fp := fpa) (fq := fqa) o r rs d, i + 1, π, h, dd => by
    simp only [atK] at h
    obtain ⟨fp1, a1, a2⟩ := RepCK.give r' rs h fun a ha z => dd a ha (List.mem_append_right _ z)
    refine ⟨fpa ++ fp1, ?_, fun a => by rw [List.mem_append, List.mem_append, a2 a, or_assoc]⟩
    simp only [updK]
    exact .cons o r a1 fun a ha z => ((a2 a).mp z).elim (d a ha) fun y => dd a y (List.mem_append_left _ ha)
end
end

/-! ### places of the names -/
def atG (G : Env) (i : Nat) (π : List Nat) : Option Cell := match G[i]? with
  | some (some c) => c.at π
  | _ => none
def updG (G : Env) (i : Nat) (π : List Nat) (x : Cell) : Env := match G[i]? with
  | some (some c) => G.set i (some (c.upd π x))
  | _ => G
theorem atG_some {G : Env} {i : Nat} {π : List Nat} {c : Cell} (h : atG G i π = some c) : ∃ c0, G[i]? = some (some c0) ∧ c0.at π = some c := by
  unfold atG at h
  split at h
  · rename_i c0 e; exact ⟨c0, e, h⟩
  · cases h
theorem atG_ne {G : Env} {i j : Nat} {π ρ : List Nat} {x : Cell} (h : i ≠ j) : atG (updG G i π x) j ρ = atG G j ρ := by
  unfold atG updG
  cases e : G[i]? with
  | none => rfl
  | some o =>
    cases o with
    | none => rfl
    | some c => simp only [List.getElem?_set_ne h]
/-- the value at a place of the names -/
def LocG (H : Hp) (σ : L2.St) (i : Nat) (π : List Nat) (v : V) : Prop := ∃ u, σ[i]? = some (some u) ∧ LocV H u π v
theorem LocV.fun {H : Hp} : ∀ {π : List Nat} {u v w : V}, LocV H u π v → LocV H u π w → v = w
  | _, _, _, _, .nil, .nil => rfl
  | _, _, _, _, .fld a b c, .fld a' b' c' => by
    rw [a] at a'; cases a'
    rw [b] at b'; cases b'
    exact c.fun c'
  | _, _, _, _, .key a b c, .key a' b' c' => by
    rw [a] at a'; cases a'
    rw [b] at b'; cases b'
    exact c.fun c'
  | _, _, _, _, .itl a b c, .itl a' b' c' => by
    rw [a] at a'; cases a'
    rw [b] at b'; cases b'
    exact c.fun c'
  | _, _, _, _, .itt a b c, .itt a' b' c' => by
    rw [a] at a'; cases a'
    rw [b] at b'; cases b'
    exact c.fun c'
  | _, _, _, _, .fld a _ _, .key a' _ _ => by rw [a] at a'; cases a'
  | _, _, _, _, .fld a _ _, .itl a' _ _ => by rw [a] at a'; cases a'
  | _, _, _, _, .fld a _ _, .itt a' _ _ => by rw [a] at a'; cases a'
  | _, _, _, _, .key a _ _, .fld a' _ _ => by rw [a] at a'; cases a'
  | _, _, _, _, .key a _ _, .itl a' _ _ => by rw [a] at a'; cases a'
  | _, _, _, _, .key a _ _, .itt a' _ _ => by rw [a] at a'; cases a'
  | _, _, _, _, .itl a _ _, .fld a' _ _ => by rw [a] at a'; cases a'
  | _, _, _, _, .itl a _ _, .key a' _ _ => by rw [a] at a'; cases a'
  | _, _, _, _, .itl a _ _, .itt a' _ _ => by rw [a] at a'; cases a'
  | _, _, _, _, .itt a _ _, .fld a' _ _ => by rw [a] at a'; cases a'
  | _, _, _, _, .itt a _ _, .key a' _ _ => by rw [a] at a'; cases a'
  | _, _, _, _, .itt a _ _, .itl a' _ _ => by rw [a] at a'; cases a'
theorem LocG.fun {H : Hp} {σ : L2.St} {i : Nat} {π : List Nat} {v w : V} (h : LocG H σ i π v) (h' : LocG H σ i π w) : v = w := by
  obtain ⟨u, a, b⟩ := h
  obtain ⟨u', a', b'⟩ := h'
  rw [a] at a'; cases a'
  exact b.fun b'
theorem LocV.mono {H H' : Hp} (e : ExH H H') : ∀ {π : List Nat} {u v : V}, LocV H u π v → LocV H' u π v
  | _, _, _, .nil => .nil
  | _, _, _, .fld a b c => .fld (e.h a) b (c.mono e)
  | _, _, _, .key a b c => .key (e.h a) b (c.mono e)
  | _, _, _, .itl a b c => .itl (e.h a) b (c.mono e)
  | _, _, _, .itt a b c => .itt (e.h a) b (c.mono e)
theorem LocG.mono {H H' : Hp} (e : ExH H H') {σ : L2.St} {i : Nat} {π : List Nat} {v : V} (h : LocG H σ i π v) : LocG H' σ i π v := ⟨h.choose, h.choose_spec.1, h.choose_spec.2.mono e⟩

section
variable {K : PySem.W.Frag} {F H : Hp} {σ : L2.St} {G : Env} {fps : Nat → List Addr}
def put (fps : Nat → List Addr) (i : Nat) (fp : List Addr) : Nat → List Addr := fun j => if j = i then fp else fps j
theorem put_same {fps : Nat → List Addr} {i : Nat} {fp : List Addr} : put fps i fp i = fp := if_pos rfl
theorem put_ne {fps : Nat → List Addr} {i j : Nat} {fp : List Addr} (h : j ≠ i) : put fps i fp j = fps j := if_neg h
/-- another cell for the value of a name -/
theorem EnvOk.recell {i : Nat} {c0 c1 : Cell} {fp : List Addr} {v : V} (E : EnvOk K F H σ G fps) (hg : G[i]? = some (some c0)) (hv : σ[i]? = some (some v)) (r : RepC K F H fp v c1) (own : ∀ a ∈ fp, F a = none ∧ H a ≠ none) (dis : ∀ a ∈ fp, ∀ j, j ≠ i → a ∉ fps j) :
    EnvOk K F H σ (G.set i (some c1)) (put fps i fp) := by
  have hl : i < G.length := (List.getElem?_eq_some_iff.mp hg).1
  refine ⟨E.sub, by rw [List.length_set]; exact E.len, fun j c h => ?_, fun j a h => ?_, fun j k a h h' => ?_, E.tab⟩
  · by_cases hj : j = i
    · subst hj
      rw [List.getElem?_set_self hl] at h; cases h
      exact ⟨v, hv, by rw [put_same]; exact r⟩
    · rw [List.getElem?_set_ne (fun z => hj z.symm)] at h
      rw [put_ne hj]
      exact E.ent j c h
  · by_cases hj : j = i
    · subst hj; rw [put_same] at h; exact own a h
    · rw [put_ne hj] at h; exact E.own j a h
  · by_cases hj : j = i
    · subst hj
      by_cases hk : k = j
      · exact hk.symm
      · rw [put_same] at h; rw [put_ne hk] at h'
        exact absurd h' (dis a h k hk)
    · rw [put_ne hj] at h
      by_cases hk : k = i
      · subst hk; rw [put_same] at h'
        exact absurd h (dis a h' j hj)
      · rw [put_ne hk] at h'
        exact E.dis j k a h h'
/-- a cell is taken out of its place -/
theorem EnvOk.take (E : EnvOk K F H σ G fps) {i : Nat} {π : List Nat} {c : Cell} (h : atG G i π = some c) :
    ∃ v fpc fps1, LocG H σ i π v ∧ RepC K F H fpc v c ∧ EnvOk K F H σ (updG G i π (.hl v)) fps1 ∧ (∀ a, Owns fps a ↔ Owns fps1 a ∨ a ∈ fpc) ∧ (∀ a ∈ fpc, ¬ Owns fps1 a) := by
  obtain ⟨c0, e, h0⟩ := atG_some h
  obtain ⟨u, hu, r⟩ := E.ent i c0 e
  obtain ⟨v, fpc, fp1, a1, a2, a3, a4, a5⟩ := r.take h0
  have E1 := E.recell e hu a3 (fun a ha => E.own i a ((a4 a).mpr (.inl ha))) (fun a ha j hj z => hj (E.dis j i a z ((a4 a).mpr (.inl ha))))
  refine ⟨v, fpc, put fps i fp1, ⟨u, hu, a1⟩, a2, by unfold updG; rw [e]; exact E1, fun a => ⟨fun ⟨j, z⟩ => ?_, fun z => ?_⟩, fun a ha ⟨j, z⟩ => ?_⟩
  · by_cases hj : j = i
    · subst hj
      rcases (a4 a).mp z with z | z
      · exact .inl ⟨j, by rw [put_same]; exact z⟩
      · exact .inr z
    · exact .inl ⟨j, by rw [put_ne hj]; exact z⟩
  · rcases z with ⟨j, z⟩ | z
    · by_cases hj : j = i
      · subst hj; rw [put_same] at z; exact ⟨j, (a4 a).mpr (.inl z)⟩
      · rw [put_ne hj] at z; exact ⟨j, z⟩
    · exact ⟨i, (a4 a).mpr (.inr z)⟩
  · by_cases hj : j = i
    · subst hj; rw [put_same] at z; exact a5 a ha z
    · rw [put_ne hj] at z
      exact hj (E.dis j i a z ((a4 a).mpr (.inr ha)))
/-- a cell is given into a hole -/
theorem EnvOk.give (E : EnvOk K F H σ G fps) {i : Nat} {π : List Nat} {v : V} {c : Cell} {fpc : List Addr} (h : atG G i π = some (.hl v)) (r : RepC K F H fpc v c) (n : ∀ a ∈ fpc, F a = none ∧ H a ≠ none) (d : ∀ a ∈ fpc, ¬ Owns fps a) :
    ∃ fps1, EnvOk K F H σ (updG G i π c) fps1 ∧ ∀ a, Owns fps1 a ↔ Owns fps a ∨ a ∈ fpc := by
  obtain ⟨c0, e, h0⟩ := atG_some h
  obtain ⟨u, hu, r0⟩ := E.ent i c0 e
  obtain ⟨fp1, a1, a2⟩ := r.give r0 h0 fun a ha z => d a ha ⟨i, z⟩
  have E1 := E.recell e hu a1 (fun a ha => ((a2 a).mp ha).elim (E.own i a) (n a)) (fun a ha j hj z => ((a2 a).mp ha).elim (fun y => hj (E.dis j i a z y)) fun y => d a y ⟨j, z⟩)
  refine ⟨put fps i fp1, by unfold updG; rw [e]; exact E1, fun a => ⟨fun ⟨j, z⟩ => ?_, fun z => ?_⟩⟩
  · by_cases hj : j = i
    · subst hj
      rw [put_same] at z
      exact ((a2 a).mp z).imp (fun y => ⟨j, y⟩) id
    · rw [put_ne hj] at z; exact .inl ⟨j, z⟩
  · rcases z with ⟨j, z⟩ | z
    · by_cases hj : j = i
      · subst hj; exact ⟨j, by rw [put_same]; exact (a2 a).mpr (.inl z)⟩
      · exact ⟨j, by rw [put_ne hj]; exact z⟩
    · exact ⟨i, by rw [put_same]; exact (a2 a).mpr (.inr z)⟩
/-- what is owned stands while the rest changes -/
theorem EnvOk.keep {O : Addr → Prop} {F' H' : Hp} (E : EnvOk K F H σ G fps) (ex : Ex F F') (s : Sub F' H') (e : ExO O H H') (k : ∀ a, Owns fps a → ¬ O a) (n : ∀ a, Owns fps a → F' a = none) (tn : ∀ P, TabAt K P → F' P = none) : EnvOk K F' H' σ G fps := by
  refine ⟨s, E.len, fun i c h => ?_, fun i a h => ⟨n a ⟨i, h⟩, e.n a (k a ⟨i, h⟩) (E.own i a h).2⟩, E.dis, fun P h => ⟨tn P h, e.t P (E.tab P h).2⟩⟩
  obtain ⟨v, h1, h2⟩ := E.ent i c h
  exact ⟨v, h1, RepC.mono ex (fun a ha o z m => e.k a o (k a ⟨i, ha⟩) z m) h2⟩
theorem EnvOk.ownF (E : EnvOk K F H σ G fps) {a : Addr} (h : Owns fps a) : F a = none ∧ H a ≠ none := E.own h.choose a h.choose_spec

/-! ### freezing -/
mutual
def Cell.data : Cell → Option Dt
  | .fz d => some d
  | .ol ds => some (.lst ds)
  | .od kvs => some (.dic kvs)
  | .odt kvs => some (.dit kvs)
  | .oc kvs => (dataK kvs).map .dic
  | .ob C fs => (dataF fs).map (.ins C)
  | .hl _ => none
  | .fl _ ds => some (.lst ds)
  | .lc cs => (dataL cs).map .lst
  | .tc cs => (dataL cs).map .tup
termination_by structural c => c
def dataL : List Cell → Option (List Dt)
  | [] => some []
  | c :: cs => match c.data, dataL cs with
    | some d, some ds => some (d :: ds)
    | _, _ => none
termination_by structural c => c
def dataF : List (Str × Cell) → Option (List (Str × Dt))
  | [] => some []
  | (k, c) :: fs => match c.data, dataF fs with
    | some d, some ds => some ((k, d) :: ds)
    | _, _ => none
termination_by structural c => c
def dataK : List (Key × Cell) → Option (List (Key × Dt))
  | [] => some []
  | (k, c) :: fs => match c.data, dataK fs with
    | some d, some ds => some ((k, d) :: ds)
    | _, _ => none
termination_by structural c => c
end
theorem RepCL.len : ∀ {fp : List Addr} {vs : List V} {cs : List Cell}, RepCL K F H fp vs cs → vs.length = cs.length
  | _, _, _, .nil => rfl
  | _, _, _, .cons _ rs _ => congrArg (· + 1) rs.len
mutual
/-- in a heap that has all that is owned, frozen -/
theorem RepC.frozen {F' : Hp} (ex : Ex F F') : ∀ {fp : List Addr} {v : V} {c : Cell}, RepC K F H fp v c → (∀ a ∈ fp, F' a = H a) → ∀ {d : Dt}, c.data = some d → Rep K F' v d
  | _, _, _, .fz r, k, d, h => by simp only [Cell.data] at h; cases h; exact r.mono ex
  | _, _, _, .ol h1 l r, k, d, h => by simp only [Cell.data] at h; cases h; exact .lst (by rw [k _ (by simp)]; exact h1) l (r.mono ex)
  | _, _, _, .od h1 l r n, k, d, h => by simp only [Cell.data] at h; cases h; exact .dic (by rw [k _ (by simp)]; exact h1) l (r.mono ex) n
  | _, _, _, .odt h1 l r n, k, d, h => by simp only [Cell.data] at h; cases h; exact .dit (by rw [k _ (by simp)]; exact h1) l (r.mono ex) n
  | _, _, _, .oc h1 l r n nd, k, d, h => by
    simp only [Cell.data] at h
    rename_i kvs
    cases e : dataK kvs with
    | none => rw [e] at h; cases h
    | some ds =>
      rw [e] at h; cases h
      exact .dic (by rw [k _ (by simp)]; exact h1) l (RepCK.frozen ex r (fun a ha => k a (List.mem_cons_of_mem _ ha)) e) nd
  | _, _, _, .ob h1 r n, k, d, h => by
    simp only [Cell.data] at h
    rename_i fs
    cases e : dataF fs with
    | none => rw [e] at h; cases h
    | some ds =>
      rw [e] at h; cases h
      exact .ins (by rw [k _ (by simp)]; exact h1) (RepCF.frozen ex r (fun a ha => k a (List.mem_cons_of_mem _ ha)) e)
  | _, _, _, .hl, k, d, h => by simp [Cell.data] at h
  | _, _, _, .fl h1 l r, k, d, h => by simp only [Cell.data] at h; cases h; exact .lst (ex _ _ h1) l (r.mono ex)
  | _, _, _, .lc h1 l r n, k, d, h => by
    simp only [Cell.data] at h
    rename_i cs
    cases e : dataL cs with
    | none => rw [e] at h; cases h
    | some ds =>
      rw [e] at h; cases h
      exact .lst (by rw [k _ (by simp)]; exact h1) l (RepCL.frozen ex r (fun a ha => k a (List.mem_cons_of_mem _ ha)) e)
  | _, _, _, .tc h1 l r n, k, d, h => by
    simp only [Cell.data] at h
    rename_i cs
    cases e : dataL cs with
    | none => rw [e] at h; cases h
    | some ds =>
      rw [e] at h; cases h
      exact .tup (by rw [k _ (by simp)]; exact h1) l (RepCL.frozen ex r (fun a ha => k a (List.mem_cons_of_mem _ ha)) e)
theorem RepCL.frozen {F' : Hp} (ex : Ex F F') : ∀ {fp : List Addr} {vs : List V} {fs : List Cell}, RepCL K F H fp vs fs → (∀ a ∈ fp, F' a = H a) → ∀ {ds : List Dt}, dataL fs = some ds → RepL K F' vs ds
  | _, _, _, .nil, k, d, h => by simp only [dataL] at h; cases h; exact .nil
  | _, _, _, .cons (c := c) (cs := kvs) r rs _, k, d, h => by
    simp only [dataL] at h
    cases e : c.data with
    | none => rw [e] at h; cases h
    | some x =>
      cases e' : dataL kvs with
      | none => rw [e, e'] at h; cases h
      | some y =>
        rw [e, e'] at h; cases h
        exact .cons (RepC.frozen ex r (fun a ha => k a (List.mem_append_left _ ha)) e) (RepCL.frozen ex rs (fun a ha => k a (List.mem_append_right _ ha)) e')
theorem RepCF.frozen {F' : Hp} (ex : Ex F F') : ∀ {fp : List Addr} {vs : List (Str × V)} {fs : List (Str × Cell)}, RepCF K F H fp vs fs → (∀ a ∈ fp, F' a = H a) → ∀ {ds : List (Str × Dt)}, dataF fs = some ds → RepF K F' vs ds
  | _, _, _, .nil, k, d, h => by simp only [dataF] at h; cases h; exact .nil
  | _, _, _, .cons (c := c) (kvs := kvs) r rs _, k, d, h => by
    simp only [dataF] at h
    cases e : c.data with
    | none => rw [e] at h; cases h
    | some x =>
      cases e' : dataF kvs with
      | none => rw [e, e'] at h; cases h
      | some y =>
        rw [e, e'] at h; cases h
        exact .cons (RepC.frozen ex r (fun a ha => k a (List.mem_append_left _ ha)) e) (RepCF.frozen ex rs (fun a ha => k a (List.mem_append_right _ ha)) e')
theorem RepCK.frozen {F' : Hp} (ex : Ex F F') : ∀ {fp : List Addr} {vs : List (Key × V)} {fs : List (Key × Cell)}, RepCK K F H fp vs fs → (∀ a ∈ fp, F' a = H a) → ∀ {ds : List (Key × Dt)}, dataK fs = some ds → RepK K F' vs ds
  | _, _, _, .nil, k, d, h => by simp only [dataK] at h; cases h; exact .nil
  | _, _, _, .cons (c := c) (kvs := kvs) o r rs _, k, d, h => by
    simp only [dataK] at h
    cases e : c.data with
    | none => rw [e] at h; cases h
    | some x =>
      cases e' : dataK kvs with
      | none => rw [e, e'] at h; cases h
      | some y =>
        rw [e, e'] at h; cases h
        exact .cons o (RepC.frozen ex r (fun a ha => k a (List.mem_append_left _ ha)) e) (RepCK.frozen ex rs (fun a ha => k a (List.mem_append_right _ ha)) e')
end
open Classical in
/-- what is frozen, with some addresses more -/
noncomputable def frz (F H : Hp) (fp : List Addr) : Hp := fun a => if a ∈ fp then H a else F a
theorem frz_in {fp : List Addr} {a : Addr} (h : a ∈ fp) : frz F H fp a = H a := if_pos h
theorem frz_out {fp : List Addr} {a : Addr} (h : a ∉ fp) : frz F H fp a = F a := if_neg h
theorem frz_ex {fp : List Addr} (n : ∀ a ∈ fp, F a = none) : Ex F (frz F H fp) := fun a o h => by
  by_cases q : a ∈ fp
  · rw [n a q] at h; cases h
  · rw [frz_out q]; exact h
theorem frz_sub {fp : List Addr} (s : Sub F H) : Sub (frz F H fp) H := ⟨fun a o h => by
  by_cases q : a ∈ fp
  · rw [frz_in q] at h; exact .inl h
  · rw [frz_out q] at h; exact s a o h, fun a o h y => by
  by_cases q : a ∈ fp
  · rw [frz_in q, h]; simp
  · rw [frz_out q]; exact s.pt a o h y⟩
end
end Vs

/-! Expressions over data. -/
namespace Vs
open PySem PySem.Spec L2
theorem len_app (s t : Str) : (s ++ t).length = s.length + t.length := by
  show (s.cps ++ t.cps).size = s.cps.size + t.cps.size
  exact Array.size_append
section
variable {I : Type} {X : I → Cx} {K : PySem.W.Frag} {G : Env}

theorem ea_cons {e : Expr} {es : List Expr} {d : Dt} {ds : List Dt} (h : EX X K G e d) (hr : EA X K G es ds)
    (hs : ∀ j, starEach (e :: es) (X j).env = (false, eval e (X j).env) :: starEach es (X j).env := by intro _; rfl) : EA X K G (e :: es) (d :: ds) := fun F H σ fps Q k q =>
  ⟨tCons (wpE X e) (wpA X es), fun j => pa_cons (pe_wp j) (pa_wp j) (hs j), h F H σ fps _ k fun F1 H1 v u1 r1 => hr F1 H1 σ fps _ (k.up u1) fun F2 H2 vs u2 r2 => q F2 H2 (v :: vs) (u1.trans u2) (.cons (r1.mono u2.fr) r2)⟩

/-- two parts, then an operator by values -/
theorem ex_op2 {op : Operator} {r : R2} {a b : Expr} {pos : Pos} {x y z : Dt} (ho : ∀ j, OpR (X j) (binaryOp op) r) (ha : EX X K G a x) (hb : EX X K G b y)
    (hr : ∀ F H v w (Q : VK), Sub F H → Rep K F v x → Rep K F w y → (∀ F' H' u, Up F H F' H' → Rep K F' u z → Q u H') → r v w H Q) : EX X K G (.BinOp a op b pos) z := fun F H σ fps Q k q =>
  ⟨tOp r (wpE X a) (wpE X b), fun j => pe_op (ho j) (pe_wp j) (pe_wp j), ha F H σ fps _ k fun F1 H1 v u1 r1 => hb F1 H1 σ fps _ (k.up u1) fun F2 H2 w u2 r2 =>
    hr F2 H2 v w Q u2.sb (r1.mono u2.fr) r2 fun F3 H3 u u3 r3 => q F3 H3 u ((u1.trans u2).trans u3) r3⟩
/-- an operator on ints -/
theorem ex_opI {op : Operator} {C : Int → Int → Prop} {g : Int → Int → Int} {a b : Expr} {pos : Pos} {i j : Int} (ho : ∀ k, OpR (X k) (binaryOp op) (rI C fun i j => .int (g i j))) (ha : EX X K G a (.int i)) (hb : EX X K G b (.int j)) (hc : C i j) :
    EX X K G (.BinOp a op b pos) (.int (g i j)) := ex_op2 ho ha hb fun F H v w Q s r1 r2 q => by
  cases r1; cases r2
  exact ⟨i, j, rfl, rfl, hc, q F H _ (Up.refl s) (.int _)⟩
theorem ex_opI0 {op : Operator} {g : Int → Int → Int} {a b : Expr} {pos : Pos} {i j : Int} (ho : ∀ k, OpR (X k) (binaryOp op) (rI0 fun i j => .int (g i j))) (ha : EX X K G a (.int i)) (hb : EX X K G b (.int j)) :
    EX X K G (.BinOp a op b pos) (.int (g i j)) := ex_op2 ho ha hb fun F H v w Q s r1 r2 q => by
  cases r1; cases r2
  exact ⟨i, j, rfl, rfl, q F H _ (Up.refl s) (.int _)⟩
theorem ex_add {a b : Expr} {pos : Pos} {i j : Int} (ha : EX X K G a (.int i)) (hb : EX X K G b (.int j)) : EX X K G (.BinOp a .Add b pos) (.int (i + j)) := ex_opI0 (g := fun i j => i + j) (fun _ => op_add) ha hb
theorem ex_mul {a b : Expr} {pos : Pos} {i j : Int} (ha : EX X K G a (.int i)) (hb : EX X K G b (.int j)) (h : (-(2 ^ 64) < i ∧ i < 2 ^ 64) ∨ (-(2 ^ 64) < j ∧ j < 2 ^ 64)) : EX X K G (.BinOp a .Mult b pos) (.int (i * j)) := ex_opI (g := fun i j => i * j) (fun _ => op_mul) ha hb h
theorem ex_mod {a b : Expr} {pos : Pos} {i j : Int} (ha : EX X K G a (.int i)) (hb : EX X K G b (.int j)) (h : 0 < j) : EX X K G (.BinOp a .Mod b pos) (.int (i % j)) := ex_opI (g := fun i j => i % j) (fun _ => op_mod) ha hb h
theorem ex_pow {a b : Expr} {pos : Pos} {i j : Int} (ha : EX X K G a (.int i)) (hb : EX X K G b (.int j)) (h : 0 ≤ j ∧ j ≤ 1000000 ∧ i.natAbs < 2 ^ 64) : EX X K G (.BinOp a .Pow b pos) (.int (i ^ j.toNat)) := ex_opI (g := fun i j => i ^ j.toNat) (fun _ => op_pow) ha hb h
theorem ex_cat {a b : Expr} {pos : Pos} {s t : Str} (ha : EX X K G a (.str s)) (hb : EX X K G b (.str t)) (h : s.length + t.length ≤ bigS) : EX X K G (.BinOp a .Add b pos) (.str (s ++ t)) := ex_op2 (fun _ => op_add_str) ha hb fun F H v w Q u r1 r2 q => by
  cases r1 with
  | str _ g1 => cases r2 with
    | str _ g2 => exact ⟨s, t, rfl, rfl, Nat.le_trans h (Nat.le_trans bigS_big big_line), q F H _ (Up.refl u) (.str _ (good_app g1 g2 h))⟩
/-! ### comparisons -/
/-- a comparison by values, as a value and as a test -/
theorem ex_cmp2 {op : CmpOp} {r : R2} {a b : Expr} {pos : Pos} {x y : Dt} {c : Bool} (ho : ∀ j, OpR (X j) (compareOp op) r) (ha : EX X K G a x) (hb : EX X K G b y) (hm : behindInMarks op b = false)
    (hr : ∀ F H v w (Q : VK), Sub F H → Rep K F v x → Rep K F w y → Q (.bl c) H → r v w H Q) : EX X K G (.Compare a [op] [b] pos) (.bl c) := fun F H σ fps Q k q =>
  ⟨tOp r (wpE X a) (wpE X b), fun j => pe_cmpR (ho j) (pe_wp j) (pe_wp j) hm, ha F H σ fps _ k fun F1 H1 v u1 r1 => hb F1 H1 σ fps _ (k.up u1) fun F2 H2 w u2 r2 =>
    hr F2 H2 v w Q u2.sb (r1.mono u2.fr) r2 (q F2 H2 _ (u1.trans u2) (.bl c))⟩
theorem eb_cmp2 {op : CmpOp} {r : R2} {a b : Expr} {pos : Pos} {x y : Dt} {c : Bool} (ho : ∀ j, OpR (X j) (compareOp op) r) (ha : EX X K G a x) (hb : EX X K G b y) (hm : behindInMarks op b = false)
    (hr : ∀ F H v w (Q : VK), Sub F H → Rep K F v x → Rep K F w y → Q (.bl c) H → r v w H Q) : EB X K G (.Compare a [op] [b] pos) c := fun F H σ fps Q k q =>
  ⟨tTest (tOp r (wpE X a) (wpE X b)), fun j => pt_cmpR (ho j) (pe_wp j) (pe_wp j) hm, ha F H σ fps _ k fun F1 H1 v u1 r1 => hb F1 H1 σ fps _ (k.up u1) fun F2 H2 w u2 r2 =>
    hr F2 H2 v w _ u2.sb (r1.mono u2.fr) r2 ⟨c, rfl, q F2 H2 (u1.trans u2)⟩⟩
/-- what a comparison says of two data -/
def Says (X : I → Cx) (K : PySem.W.Frag) (op : CmpOp) (x y : Dt) (c : Bool) : Prop :=
  ∃ r : R2, (∀ j, OpR (X j) (compareOp op) r) ∧ ∀ F H v w (Q : VK), Sub F H → Rep K F v x → Rep K F w y → Q (.bl c) H → r v w H Q
theorem ex_cmp {op : CmpOp} {a b : Expr} {pos : Pos} {x y : Dt} {c : Bool} (s : Says X K op x y c) (ha : EX X K G a x) (hb : EX X K G b y) (hm : behindInMarks op b = false := by rfl) : EX X K G (.Compare a [op] [b] pos) (.bl c) := by
  obtain ⟨r, ho, hr⟩ := s
  exact ex_cmp2 ho ha hb hm hr
theorem eb_cmp {op : CmpOp} {a b : Expr} {pos : Pos} {x y : Dt} {c : Bool} (s : Says X K op x y c) (ha : EX X K G a x) (hb : EX X K G b y) (hm : behindInMarks op b = false := by rfl) : EB X K G (.Compare a [op] [b] pos) c := by
  obtain ⟨r, ho, hr⟩ := s
  exact eb_cmp2 ho ha hb hm hr
theorem says_I {op : CmpOp} {g : Int → Int → Bool} {i j : Int} (ho : ∀ k, OpR (X k) (compareOp op) (rI0 fun i j => .bl (g i j))) : Says X K op (.int i) (.int j) (g i j) := ⟨_, ho, fun F H v w Q s r1 r2 q => by
  cases r1; cases r2
  exact ⟨i, j, rfl, rfl, q⟩⟩
theorem says_lt {i j : Int} : Says X K .Lt (.int i) (.int j) (decide (i < j)) := says_I (g := fun i j => decide (i < j)) fun _ => op_lt
theorem says_eqI {i j : Int} : Says X K .Eq (.int i) (.int j) (i == j) := ⟨_, fun _ => op_eq, fun F H v w Q s r1 r2 q => by
  cases r1; cases r2
  exact ⟨rfl, by rw [dec_int]; exact q⟩⟩
theorem says_neI {i j : Int} : Says X K .NotEq (.int i) (.int j) (!(i == j)) := ⟨_, fun _ => op_ne, fun F H v w Q s r1 r2 q => by
  cases r1; cases r2
  exact ⟨rfl, by rw [dec_int]; exact q⟩⟩
def Dt.isNon : Dt → Bool
  | .non => true
  | _ => false
/-- a text in a text -/
def inS (i j : Str) : Bool := !(Builtin.Str.occurrences j i 0 j.length 1).isEmpty
/-! ### data compared -/
mutual
def Dt.py : Dt → PyData
  | .non => .none
  | .bl b => .bool b
  | .int i => .int i
  | .str s => .str s
  | .lst xs => .list (Dt.pyL xs)
  | .tup xs => .tuple (Dt.pyL xs)
  | _ => .none
def Dt.pyL : List Dt → List PyData
  | [] => []
  | d :: ds => d.py :: Dt.pyL ds
end
mutual
/-- no dicts, no objects within -/
def Dt.flat : Dt → Bool
  | .non => true
  | .bl _ => true
  | .int _ => true
  | .str _ => true
  | .lst xs => Dt.flatL xs
  | .tup xs => Dt.flatL xs
  | _ => false
def Dt.flatL : List Dt → Bool
  | [] => true
  | d :: ds => d.flat && Dt.flatL ds
end
mutual
theorem Rep.dp {F H : Hp} (s : Sub F H) : ∀ {v : V} {d : Dt}, Rep K F v d → d.flat = true → Dp K H v d.py
  | _, _, .non, _ => .non
  | _, _, .bl b, _ => .bl b
  | _, _, .int i, _ => .int i
  | _, _, .str x _, _ => .str x
  | _, _, .lst h _ r, f => .lst (SqL.of (s.lst h)) (RepL.dp s r f)
  | _, _, .tup h _ r, f => .tup (SqT.of (s.tup h)) (RepL.dp s r f)
  | _, _, .scr _ _ _, f => nomatch f
  | _, _, .dic _ _ _ _, f => nomatch f
  | _, _, .dit _ _ _ _, f => nomatch f
  | _, _, .ins _ _, f => nomatch f
  | _, _, .xc _ _ _, f => nomatch f
theorem RepL.dp {F H : Hp} (s : Sub F H) : ∀ {vs : List V} {ds : List Dt}, RepL K F vs ds → Dt.flatL ds = true → DpAll K H vs (Dt.pyL ds)
  | _, _, .nil, _ => .nil
  | _, _, .cons h r, f => .cons (Rep.dp s h (Bool.and_eq_true_iff.mp f).1) (RepL.dp s r (Bool.and_eq_true_iff.mp f).2)
end
mutual
theorem Rep.lay {F : Hp} : ∀ {v : V} {d : Dt}, Rep K F v d → d.flat = true → d.py.canLay0 = true
  | _, _, .non, _ => by simp [Dt.py, PyData.canLay0]
  | _, _, .bl b, _ => by simp [Dt.py, PyData.canLay0]
  | _, _, .int i, _ => by simp [Dt.py, PyData.canLay0]
  | _, _, .str x g, _ => by simp only [Dt.py, PyData.canLay0]; exact good_strOk g
  | _, _, .lst h _ r, f => by simp only [Dt.py, PyData.canLay0]; exact RepL.lay r f
  | _, _, .tup h _ r, f => by simp only [Dt.py, PyData.canLay0]; exact RepL.lay r f
  | _, _, .scr _ _ _, f => nomatch f
  | _, _, .dic _ _ _ _, f => nomatch f
  | _, _, .dit _ _ _ _, f => nomatch f
  | _, _, .ins _ _, f => nomatch f
  | _, _, .xc _ _ _, f => nomatch f
theorem RepL.lay {F : Hp} : ∀ {vs : List V} {ds : List Dt}, RepL K F vs ds → Dt.flatL ds = true → PyData.canLayAll0 (Dt.pyL ds) = true
  | _, _, .nil, _ => by simp [Dt.pyL, PyData.canLayAll0]
  | _, _, .cons h r, f => by
    simp only [Dt.pyL, PyData.canLayAll0]
    exact Bool.and_eq_true_iff.mpr ⟨Rep.lay h (Bool.and_eq_true_iff.mp f).1, RepL.lay r (Bool.and_eq_true_iff.mp f).2⟩
end
/-- two data are compared: equal by c -/
structure EqD (x y : Dt) (c : Bool) : Prop where
  fx : x.flat = true
  fy : y.flat = true
  dx : x.py.depth ≤ 64
  dy : y.py.depth ≤ 64
  eq : PyData.eqv x.py y.py = c
theorem EqD.shx {F : Hp} {x y : Dt} {c : Bool} (e : EqD x y c) {v : V} (r : Rep K F v x) : SeqAt.shaped x.py = true := Bool.and_eq_true_iff.mpr ⟨r.lay e.fx, decide_eq_true e.dx⟩
theorem EqD.shy {F : Hp} {x y : Dt} {c : Bool} (e : EqD x y c) {v : V} (r : Rep K F v y) : SeqAt.shaped y.py = true := Bool.and_eq_true_iff.mpr ⟨r.lay e.fy, decide_eq_true e.dy⟩
theorem says_neD {x y : Dt} {c : Bool} (hu : ∀ j, (X j).A.units + 64 < cLine) (hK : ∀ j, (X j).K = K) (e : EqD x y c) : Says X K .NotEq x y (!c) := ⟨rNeD K, fun j => hK j ▸ op_neD (hu j), fun F H v w Q u r1 r2 q =>
  ⟨x.py, y.py, r1.dp u e.fx, r2.dp u e.fy, e.shx r1, e.shy r2, by rw [e.eq]; exact q⟩⟩

/-! ### tests -/
theorem eb_val {e : Expr} {b : Bool} (h : EX X K G e (.bl b)) (he : ∀ j whole, isTrue e (X j).env whole = (do let v ← whole; standAt e.pos; holding [v] (truthy v)) := by intro _ _; rfl) : EB X K G e b := fun F H σ fps Q k q =>
  ⟨tB (wpE X e), fun j => pt_val (pe_wp j) (he j), h F H σ fps _ k fun F1 H1 v u r => by cases r; exact ⟨b, rfl, q F1 H1 u⟩⟩
theorem eb_not {e : Expr} {b : Bool} {pos : Pos} (h : EB X K G e b) : EB X K G (.UnaryOp .Not e pos) (!b) := fun F H σ fps Q k q =>
  ⟨tNot (wpT X e), fun j => pt_not (pt_wp j), h F H σ fps _ k fun F1 H1 u => q F1 H1 u⟩
theorem ebw_or1 {a : Expr} {b : Bool} {pos : Pos} (h : EB X K G a b) : EBW X K G (.BoolOp .Or [a] pos) b := fun F H σ fps Q k q =>
  ⟨wpT X a, fun j => pw_or1 (pt_wp j), h F H σ fps _ k q⟩
theorem ebw_or {a e : Expr} {rest : List Expr} {x y : Bool} {pos : Pos} (h : EB X K G a x) (hr : x = false → EBW X K G (.BoolOp .Or (e :: rest) pos) y) : EBW X K G (.BoolOp .Or (a :: e :: rest) pos) (x || y) := fun F H σ fps Q k q =>
  ⟨tOr (wpT X a) (wpW X (.BoolOp .Or (e :: rest) pos)), fun j => pw_or (pt_wp j) (pw_wp j), h F H σ fps _ k fun F1 H1 u => by
    cases x with
    | true =>
      show Q true H1
      exact q F1 H1 u
    | false =>
      show wpW X _ σ H1 Q
      exact hr rfl F1 H1 σ fps Q (k.up u) fun F2 H2 u2 => q F2 H2 (u.trans u2)⟩
theorem eb_w {e : Expr} {b : Bool} (h : EBW X K G e b) : EB X K G e b := fun F H σ fps Q k q =>
  ⟨wpW X e, fun j => (pw_wp j).pt, h F H σ fps Q k q⟩
theorem EX.is {e : Expr} {d d' : Dt} (h : EX X K G e d) (q : d = d') : EX X K G e d' := q ▸ h
theorem EB.is {e : Expr} {d d' : Bool} (h : EB X K G e d) (q : d = d') : EB X K G e d' := q ▸ h

/-! ### new lists, tuples -/
theorem RepL.len {F : Hp} : ∀ {vs : List V} {ds : List Dt}, RepL K F vs ds → vs.length = ds.length
  | _, _, .nil => rfl
  | _, _, .cons _ r => congrArg (· + 1) (RepL.len r)
theorem RepL.get {F : Hp} : ∀ {vs : List V} {ds : List Dt}, RepL K F vs ds → ∀ {i : Nat} {d : Dt}, ds[i]? = some d → ∃ v, vs[i]? = some v ∧ Rep K F v d
  | _, _, .nil, i, d, h => by simp at h
  | _, _, .cons (v := v) h r, 0, d, e => by
    simp at e; subst e
    exact ⟨v, rfl, h⟩
  | _, _, .cons h r, i + 1, d, e => by
    obtain ⟨v, h1, h2⟩ := RepL.get r (i := i) (d := d) (by simpa using e)
    exact ⟨v, by simpa using h1, h2⟩
theorem RepL.append {F : Hp} : ∀ {vs ws : List V} {ds es : List Dt}, RepL K F vs ds → RepL K F ws es → RepL K F (vs ++ ws) (ds ++ es)
  | _, _, _, _, .nil, s => s
  | _, _, _, _, .cons h r, s => .cons h (RepL.append r s)
theorem RepL.take {F : Hp} : ∀ {vs : List V} {ds : List Dt} (n : Nat), RepL K F vs ds → RepL K F (vs.take n) (ds.take n)
  | _, _, 0, _ => .nil
  | _, _, _ + 1, .nil => .nil
  | _, _, n + 1, .cons h r => .cons h (RepL.take n r)
theorem RepL.drop {F : Hp} : ∀ {vs : List V} {ds : List Dt} (n : Nat), RepL K F vs ds → RepL K F (vs.drop n) (ds.drop n)
  | _, _, 0, r => r
  | _, _, _ + 1, .nil => .nil
  | _, _, n + 1, .cons _ r => RepL.drop n r
theorem en_lst {es : List Expr} {pos : Pos} {ds : List Dt} (h : EA X K G es ds) (hl : ds.length ≤ big := by decide) : EN X K G (.List es pos) (.ol ds) := fun F H σ fps Q k q =>
  ⟨tLst (wpA X es), fun j => pe_lst (pa_wp j), h F H σ fps _ k fun F1 H1 vs u r => ⟨by rw [r.len]; exact Nat.le_trans hl big_line, fun p hp => by
    have n0 : H p = none := u.hp.free hp
    refine q F1 (upd H1 p (.lst vs)) (.ref p) [p] (u.trans (Up.layH u.sb hp)) (.ol upd_same (by rw [r.len]; exact hl) r) fun a ha => ?_
    obtain rfl : a = p := by simpa using ha
    exact ⟨n0, u.sb.none hp, by rw [upd_same]; simp⟩⟩⟩
theorem ex_tup {es : List Expr} {x1} {pos : Pos} {ds : List Dt} (h : EA X K G es ds) (hl : ds.length ≤ big := by decide) : EX X K G (.Tuple es x1 pos) (.tup ds) := fun F H σ fps Q k q =>
  ⟨tTup (wpA X es), fun j => pe_tup (pa_wp j), h F H σ fps _ k fun F1 H1 vs u r => ⟨by rw [r.len]; exact Nat.le_trans hl big_line, fun p hp =>
    q (upd F1 p (.tup vs)) (upd H1 p (.tup vs)) (.ref p) (u.trans (Up.lay u.sb hp)) (.tup upd_same (by rw [r.len]; exact hl) (r.mono (Ex.new (u.sb.none hp))))⟩⟩
/-- a new list is frozen -/
theorem EN.fz {e : Expr} {ds : List Dt} (h : EN X K G e (.ol ds)) : EX X K G e (.lst ds) := fun F H σ fps Q k q =>
  h F H σ fps Q k fun F1 H1 v fp u r n => by
    obtain ⟨p, vs, rfl, rfl, h1, l, r⟩ := r.ol_inv
    obtain ⟨n1, n2, n3⟩ := n p (by simp)
    refine q (upd F1 p (.lst vs)) H1 (.ref p) ⟨u.fr.trans (Ex.new n2), u.hp, fun a z z' => ?_, u.sb.frz1 h1⟩ (.lst upd_same l (r.mono (Ex.new n2)))
    have hne : a ≠ p := fun e => by subst e; exact z' n1
    rw [upd_ne hne]
    exact u.nw a z z'
theorem EX.en {e : Expr} {d : Dt} (h : EX X K G e d) : EN X K G e (.fz d) := fun F H σ fps Q k q =>
  h F H σ fps Q k fun F1 H1 v u r => q F1 H1 v [] u (.fz r) fun a ha => by simp at ha

/-! ### what is seen: a list or tuple, frozen or own -/
/-- e gives a list (a tuple) of these, own or frozen -/
def ES (X : I → Cx) (K : PySem.W.Frag) (G : Env) (e : Expr) (tu : Bool) (ds : List Dt) : Prop :=
  ∀ F H σ fps (Q : VK), EnvOk K F H σ G fps → (∀ F' H' p vs, Up F H F' H' → (if tu then SqT K H' p vs else SqL K H' p vs) → vs.length ≤ big → RepL K F' vs ds → Q (.ref p) H') → wpE X e σ H Q
theorem EX.esL {e : Expr} {ds : List Dt} (h : EX X K G e (.lst ds)) : ES X K G e false ds := fun F H σ fps Q k q =>
  h F H σ fps Q k fun F1 H1 v u r => by
    cases r with
    | lst h1 l r => exact q F1 H1 _ _ u (SqL.of (u.sb.lst h1)) l r
theorem EX.esS {e : Expr} {ds : List Dt} (h : EX X K G e (.scr ds)) : ES X K G e false ds := fun F H σ fps Q k q =>
  h F H σ fps Q k fun F1 H1 v u r => by
    cases r with
    | scr h1 l r => exact q F1 H1 _ _ u (u.sb.sql h1) l r
theorem EN.es {e : Expr} {ds : List Dt} (h : EN X K G e (.ol ds)) : ES X K G e false ds := fun F H σ fps Q k q =>
  h F H σ fps Q k fun F1 H1 v fp u r n => by
    obtain ⟨p, vs, rfl, rfl, h1, l, r⟩ := r.ol_inv
    exact q F1 H1 p vs u (SqL.of h1) l r
/-- an own list by its name -/
theorem es_var {i : Nat} {x : Str} {pos : Pos} {ds : List Dt} (hg : G[i]? = some (some (.ol ds))) (hN : ∀ j, (X j).N[i]? = some x) (hv : ∀ j, Vis (X j).env.scope x)
    (hd : (x == ("__debug__" : Str)) = false := by decide) (hcd : (x == ("__classdict__" : Str)) = false := by decide) : ES X K G (.Name x pos) false ds := fun F H σ fps Q e q => by
  obtain ⟨v, h1, r0⟩ := e.ent i _ hg
  obtain ⟨p, vs, rfl, _, h2, l, r⟩ := r0.ol_inv
  exact ⟨tVar i, fun j => pe_var (hN j) (hv j) hd hcd, _, h1, q F H p vs (Up.refl e.sub) (SqL.of h2) l r⟩

/-! ### len, items -/
end
section
variable {I : Type} {X : I → Cx} {K : PySem.W.Frag} {G : Env}
theorem ex_len {e : Expr} {p pos : Pos} {tu : Bool} {ds : List Dt} (hK : ∀ j, (X j).K = K) (h : ES X K G e tu ds) (hg : ∀ j, Gl (X j) "len") (hm : ∀ j, (X j).mg "len" = none)
    (he : ∀ j, starEach [e] (X j).env = [(false, eval e (X j).env)] := by intro _; rfl) : EX X K G (.Call (.Name "len" p) [e] [] pos) (.int ds.length) := fun F H σ fps Q k q =>
  ⟨tCB (fun xs H Q => ∃ x n, xs = [x] ∧ LenV K x H n ∧ Q (.int n) H) (tCons (wpE X e) tNil), fun j => hK j ▸ pe_callB call_len (hg j) (hm j) PySem.boot_len (pa_cons (pe_wp j) pa_nil (he j)) (by decide) (by decide) (he j) rfl, h F H σ fps _ k fun F1 H1 p vs u r l rl => by
    refine ⟨_, ds.length, rfl, ?_, q F1 H1 _ u (.int _)⟩
    cases tu with
    | true => exact .inr ⟨vs, r, rl.len.symm⟩
    | false => exact .inl ⟨vs, r, rl.len.symm⟩⟩
theorem ex_ix {a b : Expr} {pos : Pos} {tu : Bool} {ds : List Dt} {i : Int} {d : Dt} (hK : ∀ j, (X j).K = K) (ha : ES X K G a tu ds) (hb : EX X K G b (.int i)) (hi : atI ds i = some d) (hs : PlainIx b := by exact fun _ _ => rfl) : EX X K G (.Subscript a b pos) d := fun F H σ fps Q k q =>
  ⟨tOp (fun x y H Q => rIxL K x y H Q ∨ rIxT K x y H Q) (wpE X a) (wpE X b), fun j => by
    have h1 : IxR (X j) (rIxL K) := hK j ▸ ix_list
    have h2 : IxR (X j) (rIxT K) := hK j ▸ ix_tup
    exact pe_ix (fun v s pins st σ H x y vv uu Q I r1 r2 h w => h.elim (fun h => h1 v s pins st σ H x y vv uu Q I r1 r2 h w) fun h => h2 v s pins st σ H x y vv uu Q I r1 r2 h w) (pe_wp j) (pe_wp j) hs,
   ha F H σ fps _ k fun F1 H1 p vs u r l rl => hb F1 H1 σ fps _ (k.up u) fun F2 H2 w u2 r2 => by
    cases r2
    have hv : ∃ v, atI vs i = some v ∧ Rep K F1 v d := by
      unfold atI at hi ⊢
      rw [rl.len]
      cases e : ixN ds.length i with
      | none => rw [e] at hi; cases hi
      | some j =>
        rw [e] at hi
        exact rl.get (show ds[j]? = some d from hi)
    obtain ⟨v, h1, h2⟩ := hv
    cases tu with
    | true => exact .inr ⟨p, vs, i, v, rfl, rfl, u2.hp.sqt r, h1, q F2 H2 v (u.trans u2) (h2.mono u2.fr)⟩
    | false => exact .inl ⟨p, vs, i, v, rfl, rfl, u2.hp.sql r, h1, q F2 H2 v (u.trans u2) (h2.mono u2.fr)⟩⟩
/-- the sign at a place -/
theorem ex_ixS {a b : Expr} {pos : Pos} {s : Str} {i : Int} {c : Nat} (ha : EX X K G a (.str s)) (hb : EX X K G b (.int i)) (hi : atI s.cps.toList i = some c) (hs : PlainIx b := by exact fun _ _ => rfl) : EX X K G (.Subscript a b pos) (.str ⟨#[c]⟩) := fun F H σ fps Q k q =>
  ⟨tOp rIxS (wpE X a) (wpE X b), fun j => pe_ix ix_str (pe_wp j) (pe_wp j) hs, ha F H σ fps _ k fun F1 H1 v u r => hb F1 H1 σ fps _ (k.up u) fun F2 H2 w u2 r2 => by
    cases r2
    cases r with
    | str _ l =>
      have hm : c ∈ s.cps.toList := by
        unfold atI at hi
        cases e : ixN s.cps.toList.length i with
        | none => rw [e] at hi; cases hi
        | some j => rw [e] at hi; exact List.mem_of_getElem? (show s.cps.toList[j]? = some c from hi)
      exact ⟨s, i, c, rfl, rfl, good_line l, hi, q F2 H2 _ (u.trans u2) (.str _ (good_one ((good_iff.mp l).2 c hm)))⟩⟩
end
end Vs

/-! Statements over data: outcomes, loops, calls, a def's promise. -/
namespace Vs
open PySem PySem.Spec L2

structure Xc where
  cls : Str
  fs : List (Str × Dt)
inductive Out where
  | nx (G : Env) | bk (G : Env) | ct (G : Env)
  | rt (c : Cell) (s : Option Env)
  | xc (x : Xc) (G : Env)

/-- the names that keep their values to the end -/
structure Sv where
  ks : List Nat
  vl : Nat → V
def memN : List Nat → Nat → Bool
  | [], _ => false
  | a :: l, i => Nat.beq a i || memN l i
def memN_iff {l : List Nat} {i : Nat} : memN l i = true ↔ i ∈ l := by
  induction l with
  | nil => simp [memN]
  | cons a l ih =>
    unfold memN
    rw [Bool.or_eq_true, ih, List.mem_cons]
    constructor
    · rintro (h | h)
      · exact .inl (Nat.eq_of_beq_eq_true h).symm
      · exact .inr h
    · rintro (h | h)
      · exact .inl (by rw [h]; exact Nat.beq_refl _)
      · exact .inr h
def noneIn (l : List Nat) : List Nat → Bool
  | [] => true
  | i :: js => !memN l i && noneIn l js
theorem noneIn_ok {l : List Nat} : ∀ {js : List Nat}, noneIn l js = true → ∀ i, i ∈ l → i ∉ js
  | [], _, i, _, z => nomatch z
  | j :: js, h, i, hi, z => by
    unfold noneIn at h
    rw [Bool.and_eq_true] at h
    rcases List.mem_cons.mp z with e | z
    · subst e
      rw [memN_iff.mpr hi] at h
      exact absurd h.1 (by decide)
    · exact noneIn_ok h.2 i hi z
abbrev sv0 : Sv := ⟨[], fun _ => .non⟩
def Slf (sv : Sv) (σ : L2.St) : Prop := ∀ i, i ∈ sv.ks → σ[i]? = some (some (sv.vl i))
def XRep (K : PySem.W.Frag) (F : Hp) (d : Option Addr) (fs : List (Str × Dt)) : Prop := (fs = [] ∧ d = none) ∨ ∃ dx vs, d = some dx ∧ F dx = some (.xd vs) ∧ RepF K F vs fs

def Fin (K : PySem.W.Frag) (W : WX) (sv : Sv) (D : Ends) (F H : Hp) (fps : Nat → List Addr) : Out → Prop
  | .nx G => ∀ F' H' σ' fps', EnvOk K F' H' σ' G fps' → Slf sv σ' → Le (Owns fps) F H F' H' (Owns fps') → D.nx σ' H'
  | .bk G => ∀ F' H' σ' fps', EnvOk K F' H' σ' G fps' → Slf sv σ' → Le (Owns fps) F H F' H' (Owns fps') → D.bk σ' H'
  | .ct G => ∀ F' H' σ' fps', EnvOk K F' H' σ' G fps' → Slf sv σ' → Le (Owns fps) F H F' H' (Owns fps') → D.ct σ' H'
  | .rt c none => ∀ F' H' v fp, Sub F' H' → Le (Owns fps) F H F' H' (fun a => a ∈ fp) → RepC K F' H' fp v c → (∀ a ∈ fp, F' a = none ∧ H' a ≠ none) → D.rt v H'
  | .rt c (some G) => ∀ F' H' σ' fps' v fp, EnvOk K F' H' σ' G fps' → Slf sv σ' → Le (Owns fps) F H F' H' (fun a => a ∈ fp ∨ Owns fps' a) → RepC K F' H' fp v c → (∀ a ∈ fp, F' a = none ∧ H' a ≠ none ∧ ¬ Owns fps' a) → D.rt v H'
  | .xc x G => ∀ F' H' σ' fps' d, EnvOk K F' H' σ' G fps' → Slf sv σ' → Le (Owns fps) F H F' H' (Owns fps') → XRep K F' d x.fs → W (.ref (He.ga K x.cls)) d σ' H'
theorem Fin.le {K : PySem.W.Frag} {W : WX} {sv : Sv} {D : Ends} {F H F1 H1 : Hp} {fps fps1 : Nat → List Addr} : ∀ {o : Out}, Fin K W sv D F H fps o → Le (Owns fps) F H F1 H1 (Owns fps1) → Fin K W sv D F1 H1 fps1 o
  | .nx _, h, l => fun F' H' σ' fps' e s l' => h F' H' σ' fps' e s (l.trans l')
  | .bk _, h, l => fun F' H' σ' fps' e s l' => h F' H' σ' fps' e s (l.trans l')
  | .ct _, h, l => fun F' H' σ' fps' e s l' => h F' H' σ' fps' e s (l.trans l')
  | .rt _ none, h, l => fun F' H' v fp s l' r n => h F' H' v fp s (l.trans l') r n
  | .rt _ (some _), h, l => fun F' H' σ' fps' v fp e s l' r n => h F' H' σ' fps' v fp e s (l.trans l') r n
  | .xc _ _, h, l => fun F' H' σ' fps' d e s l' r => h F' H' σ' fps' d e s (l.trans l') r

/-- ss from G ends as o -/
def Run (X : Cx) (K : PySem.W.Frag) (W : WX) (sv : Sv) (ss : List Stmt) (G : Env) (o : Out) : Prop :=
  ∀ F H σ fps (D : Ends), EnvOk K F H σ G fps → Slf sv σ → Fin K W sv D F H fps o → wpSs X ss D σ H

abbrev one (X : Cx) : Unit → Cx := fun _ => X
theorem pe_w1 {X : Cx} {e : Expr} : PE X e (wpE (one X) e) := pe_wp (X := one X) ()
theorem pt_w1 {X : Cx} {e : Expr} : PT X e (wpT (one X) e) := pt_wp (X := one X) ()
/-! ### a name gets a cell -/
theorem EnvOk.set {K : PySem.W.Frag} {F H : Hp} {σ : L2.St} {G : Env} {fps : Nat → List Addr} {i : Nat} {v : V} {fp : List Addr} {c : Cell} (e : EnvOk K F H σ G fps) (hi : i < G.length) (r : RepC K F H fp v c) (n : ∀ a ∈ fp, F a = none ∧ H a ≠ none) (d : ∀ a ∈ fp, ∀ j, j ≠ i → a ∉ fps j) :
    EnvOk K F H (σ.set i (some v)) (G.set i (some c)) (put fps i fp) := by
  refine ⟨e.sub, by rw [List.length_set, List.length_set, e.len], fun j c' h => ?_, fun j a h => ?_, fun j k a h h' => ?_, e.tab⟩
  · by_cases hj : j = i
    · subst hj
      rw [List.getElem?_set_self hi] at h
      cases h
      refine ⟨v, ?_, ?_⟩
      · rw [List.getElem?_set_self (by rw [e.len]; exact hi)]
      · rw [put_same]; exact r
    · rw [List.getElem?_set_ne (fun z => hj z.symm)] at h
      obtain ⟨w, h1, h2⟩ := e.ent j c' h
      exact ⟨w, by rw [List.getElem?_set_ne (fun z => hj z.symm)]; exact h1, by rw [put_ne hj]; exact h2⟩
  · by_cases hj : j = i
    · subst hj
      rw [put_same] at h
      exact n a h
    · rw [put_ne hj] at h
      exact e.own j a h
  · by_cases hj : j = i
    · subst hj
      rw [put_same] at h
      by_cases hk : k = j
      · exact hk.symm
      · rw [put_ne hk] at h'
        exact absurd h' (d a h k hk)
    · rw [put_ne hj] at h
      by_cases hk : k = i
      · subst hk
        rw [put_same] at h'
        exact absurd h (d a h' j hj)
      · rw [put_ne hk] at h'
        exact e.dis j k a h h'
theorem owns_put {fps : Nat → List Addr} {i : Nat} {fp : List Addr} {a : Addr} (h : Owns (put fps i fp) a) : a ∈ fp ∨ Owns fps a := by
  obtain ⟨j, h⟩ := h
  by_cases hj : j = i
  · subst hj; rw [put_same] at h; exact .inl h
  · rw [put_ne hj] at h; exact .inr ⟨j, h⟩
theorem Slf.set {sv : Sv} {σ : L2.St} {i : Nat} {o : Option V} (s : Slf sv σ) (h : memN sv.ks i = false) : Slf sv (σ.set i o) := fun j e => by
  have hne : i ≠ j := fun z => by subst z; rw [memN_iff.mpr e] at h; cases h
  rw [List.getElem?_set_ne hne]; exact s j e
/-- what follows an up-step and a name's new cell -/
theorem Up.leSet {F H F1 H1 : Hp} {fps : Nat → List Addr} {i : Nat} {fp : List Addr} (u : Up F H F1 H1) (n : ∀ a ∈ fp, H a = none) : Le (Owns fps) F H F1 H1 (Owns (put fps i fp)) :=
  ⟨u.fr, u.hp.imp fun _ z => z.elim, fun a _ h h' => u.nw a h h', fun a h => (owns_put h).elim (fun z => .inr (n a z)) .inl⟩

section
variable {X : Cx} {K : PySem.W.Frag} {W : WX} {sv : Sv} {G : Env} {rest : List Stmt} {o : Out} {pos : Pos}
theorem run_retN {e : Expr} {c : Cell} (h : EN (one X) K G e c) : Run X K W sv (.Return (some e) pos :: rest) G (.rt c none) := fun F H σ fps D E s q =>
  ⟨tSeq (tRet (wpE (one X) e)) tNever, pss_cons (ps_ret pe_w1) pss_never, h F H σ fps _ E fun F1 H1 v fp u r n =>
    q F1 H1 v fp u.sb ⟨u.fr, u.hp.imp fun _ z => z.elim, fun a _ z z' => u.nw a z z', fun a z => .inr (n a z).1⟩ r fun a ha => ⟨(n a ha).2.1, (n a ha).2.2⟩⟩
theorem run_ret {e : Expr} {d : Dt} (h : EX (one X) K G e d) : Run X K W sv (.Return (some e) pos :: rest) G (.rt (.fz d) none) := run_retN h.en
/-! ### what a block's end forgets -/
inductive Weak : Env → Env → Prop
  | nil : Weak [] []
  | keep {c : Option Cell} {G G' : Env} : Weak G G' → Weak (c :: G) (c :: G')
  | drop {c : Option Cell} {G G' : Env} : Weak G G' → Weak (c :: G) (none :: G')
theorem Weak.len : ∀ {G G' : Env}, Weak G G' → G.length = G'.length
  | _, _, .nil => rfl
  | _, _, .keep h => congrArg (· + 1) h.len
  | _, _, .drop h => congrArg (· + 1) h.len
theorem Weak.get : ∀ {G G' : Env}, Weak G G' → ∀ {i : Nat} {c : Cell}, G'[i]? = some (some c) → G[i]? = some (some c)
  | _, _, .nil, i, c, h => h
  | _, _, .keep w, 0, c, h => by simpa using h
  | _, _, .drop w, 0, c, h => by simp at h
  | _, _, .keep w, i + 1, c, h => by
    have := w.get (i := i) (c := c) (by simpa using h)
    simpa using this
  | _, _, .drop w, i + 1, c, h => by
    have := w.get (i := i) (c := c) (by simpa using h)
    simpa using this
theorem Weak.refl : ∀ G : Env, Weak G G
  | [] => .nil
  | _ :: G => .keep (Weak.refl G)
theorem Weak.ok {F H : Hp} {σ : L2.St} {G G' : Env} {fps : Nat → List Addr} (w : Weak G G') (e : EnvOk K F H σ G fps) : EnvOk K F H σ G' fps :=
  ⟨e.sub, by rw [e.len, w.len], fun i c h => e.ent i c (w.get h), e.own, e.dis, e.tab⟩
theorem run_end {G' : Env} (w : Weak G G') : Run X K W sv [] G (.nx G') := fun F H σ fps D E s q =>
  ⟨tNext, pss_nil, q F H σ fps (w.ok E) s Le.refl⟩
/-! ### if -/
def NoNx (o : Out) : Prop := ∀ G, o ≠ .nx G
theorem Fin.ends {D D' : Ends} {F H : Hp} {fps : Nat → List Addr} (hb : D'.bk = D.bk) (hc : D'.ct = D.ct) (hr : D'.rt = D.rt) : ∀ {o : Out}, NoNx o → Fin K W sv D F H fps o → Fin K W sv D' F H fps o
  | .nx G, n, _ => absurd rfl (n G)
  | .bk _, _, h => fun F' H' σ' fps' e s l => by rw [hb]; exact h F' H' σ' fps' e s l
  | .ct _, _, h => fun F' H' σ' fps' e s l => by rw [hc]; exact h F' H' σ' fps' e s l
  | .rt _ none, _, h => fun F' H' v fp s l r n => by rw [hr]; exact h F' H' v fp s l r n
  | .rt _ (some _), _, h => fun F' H' σ' fps' v fp e s l r n => by rw [hr]; exact h F' H' σ' fps' v fp e s l r n
  | .xc _ _, _, h => h
/-- a branch that doesn't fall through -/
theorem run_guard {T : Type} {c : Expr} {b : Bool} {thn : List Stmt} (E : T → Out) {x y : T} (hE : NoNx (E x)) (hc : EB (one X) K G c b) (h1 : b = true → Run X K W sv thn G (E x)) (h2 : b = false → Run X K W sv rest G (E y)) :
    Run X K W sv (.If c thn [] pos :: rest) G (E (cond b x y)) := fun F H σ fps D Eo s q =>
  ⟨tSeq (tIfS (wpT (one X) c) (wpSs X thn) tNext) (wpSs X rest), pss_cons (ps_if pt_w1 pss_wp pss_nil) pss_wp, hc F H σ fps _ Eo fun F1 H1 u => by
    cases b with
    | true => exact h1 rfl F1 H1 σ fps _ (Eo.up u) s (Fin.ends (D := D) (D' := { D with nx := wpSs X rest D }) (o := E x) rfl rfl rfl hE (q.le u.le))
    | false => exact h2 rfl F1 H1 σ fps D (Eo.up u) s (q.le u.le)⟩
/-! ### loops -/
inductive Step (S T : Type) where
  | nx (s : S) | ct (s : S) | bk (s : S) | fin (x : T)
def Step.out {S T : Type} (Gs : S → Env) (E : T → Out) : Step S T → Out
  | .nx s => .nx (Gs s)
  | .ct s => .ct (Gs s)
  | .bk s => .bk (Gs s)
  | .fin x => E x
def loop {A S T R : Type} (step : S → A → Step S R) (io : R → T) (k : S → T) : List A → S → T
  | [], s => k s
  | x :: xs, s => match step s x with
    | .nx s' => loop step io k xs s'
    | .ct s' => loop step io k xs s'
    | .bk s' => k s'
    | .fin y => io y
def LoopAll {A S T : Type} (P : S → A → Prop) (Q : S → Prop) (step : S → A → Step S T) : List A → S → Prop
  | [], s => Q s
  | x :: xs, s => P s x ∧ match step s x with
    | .nx s' => LoopAll P Q step xs s'
    | .ct s' => LoopAll P Q step xs s'
    | .bk s' => Q s'
    | .fin _ => True
theorem LoopAll.all {A S T : Type} {P : S → A → Prop} {Q : S → Prop} {step : S → A → Step S T} (h : ∀ s x, P s x) (hq : ∀ s, Q s) : ∀ (xs : List A) (s : S), LoopAll P Q step xs s
  | [], s => hq s
  | x :: xs, s => ⟨h s x, by
    cases step s x with
    | nx s' => exact LoopAll.all h hq xs s'
    | ct s' => exact LoopAll.all h hq xs s'
    | bk s' => exact hq s'
    | fin _ => trivial⟩
/-- it is returned or raised -/
def Term : Out → Prop
  | .rt _ _ => True
  | .xc _ _ => True
  | _ => False
theorem Fin.term {D D' : Ends} {F H : Hp} {fps : Nat → List Addr} (hr : D'.rt = D.rt) : ∀ {o : Out}, Term o → Fin K W sv D F H fps o → Fin K W sv D' F H fps o
  | .nx G, n, _ => n.elim
  | .bk _, n, _ => n.elim
  | .ct _, n, _ => n.elim
  | .rt _ none, _, h => fun F' H' v fp s l r n => by rw [hr]; exact h F' H' v fp s l r n
  | .rt _ (some _), _, h => fun F' H' σ' fps' v fp e s l r n => by rw [hr]; exact h F' H' σ' fps' v fp e s l r n
  | .xc _ _, _, h => h

/-- a loop's word at turn i -/
structure LoopW {A S T R : Type} (K : PySem.W.Frag) (W : WX) (sv : Sv) (D : Ends) (F0 H0 : Hp) (fps0 : Nat → List Addr) (Gs : S → Env) (E : T → Out) (P : S → A → Prop) (Q : S → Prop) (step : S → A → Step S R) (io : R → T) (k : S → T) (xs : List A) (y : T) (i : Nat) (σ : L2.St) (H : Hp) : Prop where
  ex : ∃ F fps s, EnvOk K F H σ (Gs s) fps ∧ Slf sv σ ∧ Le (Owns fps0) F0 H0 F H (Owns fps) ∧ loop step io k (xs.drop i) s = y ∧ LoopAll P Q step (xs.drop i) s
end
section
variable {X : Cx} {K : PySem.W.Frag} {W : WX} {sv : Sv} {G : Env} {rest : List Stmt} {o : Out} {pos : Pos} {A S T R : Type}
/-- one turn, whatever gives the items -/
theorem loop_turn {D : Ends} {F0 H0 : Hp} {fps0 : Nat → List Addr} {Gs : S → Env} {Gb : S → A → Env} {E : T → Out} {P : S → A → Prop} {Q : S → Prop} {step : S → A → Step S R} {io : R → T} {k : S → T} {xs : List A} {s0 : S} {body : List Stmt} {i : Nat} {x : A} {σ : L2.St} {H : Hp}
    (hE : ∀ y, Term (E (io y))) (hb : ∀ s x, x ∈ xs → P s x → Run X K W sv body (Gb s x) ((step s x).out Gs fun y => E (io y))) (hk : ∀ s, Q s → Run X K W sv rest (Gs s) (E (k s)))
    (q : Fin K W sv D F0 H0 fps0 (E (loop step io k xs s0))) (hx : xs[i]? = some x) (w : LoopW K W sv D F0 H0 fps0 Gs E P Q step io k xs (loop step io k xs s0) i σ H)
    (R : L2.St → Hp → Prop) (go : ∀ F fps s, EnvOk K F H σ (Gs s) fps → Slf sv σ → Le (Owns fps0) F0 H0 F H (Owns fps) → (∀ F' H' σ' fps', EnvOk K F' H' σ' (Gb s x) fps' → Slf sv σ' → Le (Owns fps) F H F' H' (Owns fps') →
      wpSs X body { D with nx := LoopW K W sv D F0 H0 fps0 Gs E P Q step io k xs (loop step io k xs s0) (i + 1), ct := LoopW K W sv D F0 H0 fps0 Gs E P Q step io k xs (loop step io k xs s0) (i + 1), bk := wpSs X rest D } σ' H') → R σ H) : R σ H := by
  obtain ⟨F, fps, s, e, sl, l, hy, hp⟩ := w.ex
  have hlt : i < xs.length := (List.getElem?_eq_some_iff.mp hx).1
  have hd : xs.drop i = x :: xs.drop (i + 1) := by
    rw [List.drop_eq_getElem_cons hlt]
    have : xs[i] = x := (List.getElem?_eq_some_iff.mp hx).2
    rw [this]
  rw [hd] at hy hp
  have hm : x ∈ xs := List.mem_of_getElem? hx
  refine go F fps s e sl l fun F' H' σ' fps' e' sl' l' => ?_
  refine hb s x hm hp.1 F' H' σ' fps' _ e' sl' ?_
  have hp2 := hp.2
  have hy2 : (match step s x with
    | .nx s' => loop step io k (xs.drop (i + 1)) s'
    | .ct s' => loop step io k (xs.drop (i + 1)) s'
    | .bk s' => k s'
    | .fin y => io y) = loop step io k xs s0 := hy
  generalize step s x = st at hy2 hp2
  cases st with
  | nx s' => exact fun F2 H2 σ2 fps2 e2 sl2 l2 => ⟨F2, fps2, s', e2, sl2, l.trans (l'.trans l2), hy2, hp2⟩
  | ct s' => exact fun F2 H2 σ2 fps2 e2 sl2 l2 => ⟨F2, fps2, s', e2, sl2, l.trans (l'.trans l2), hy2, hp2⟩
  | bk s' => exact fun F2 H2 σ2 fps2 e2 sl2 l2 => hk s' hp2 F2 H2 σ2 fps2 D e2 sl2 (by
      rw [show k s' = loop step io k xs s0 from hy2]
      exact q.le (l.trans (l'.trans l2)))
  | fin y =>
    show Fin K W sv _ F' H' fps' (E (io y))
    have hT := hE y
    rw [show io y = loop step io k xs s0 from hy2] at hT ⊢
    exact Fin.term (D := D) (D' := { D with nx := LoopW K W sv D F0 H0 fps0 Gs E P Q step io k xs (loop step io k xs s0) (i + 1), ct := LoopW K W sv D F0 H0 fps0 Gs E P Q step io k xs (loop step io k xs s0) (i + 1), bk := wpSs X rest D }) rfl hT (q.le (l.trans l'))
theorem loop_done {D : Ends} {F0 H0 : Hp} {fps0 : Nat → List Addr} {Gs : S → Env} {E : T → Out} {P : S → A → Prop} {Q : S → Prop} {step : S → A → Step S R} {io : R → T} {k : S → T} {xs : List A} {s0 : S} {i : Nat} {σ : L2.St} {H : Hp}
    (hk : ∀ s, Q s → Run X K W sv rest (Gs s) (E (k s))) (q : Fin K W sv D F0 H0 fps0 (E (loop step io k xs s0))) (hi : xs.length ≤ i) (w : LoopW K W sv D F0 H0 fps0 Gs E P Q step io k xs (loop step io k xs s0) i σ H) : wpSs X rest D σ H := by
  obtain ⟨F, fps, s, e, sl, l, hy, hp⟩ := w.ex
  rw [List.drop_eq_nil_of_le hi] at hy
  have hy2 : k s = loop step io k xs s0 := hy
  rw [List.drop_eq_nil_of_le hi] at hp
  exact hk s hp F H σ fps D e sl (by rw [hy2]; exact q.le l)
theorem envSet {F H : Hp} {σ : L2.St} {G : Env} {fps : Nat → List Addr} {i : Nat} {v : V} {d : Dt} (e : EnvOk K F H σ G fps) (hi : i < G.length) (r : Rep K F v d) : EnvOk K F H (σ.set i (some v)) (G.set i (some (.fz d))) (put fps i []) :=
  e.set hi (.fz r) (fun a ha => by simp at ha) fun a ha => by simp at ha
theorem leSet {F H : Hp} {fps : Nat → List Addr} {i : Nat} : Le (Owns fps) F H F H (Owns (put fps i [])) := ⟨Ex.refl F, ExO.refl _, fun _ _ z _ => z, fun a h => (owns_put h).elim (fun z => by simp at z) .inl⟩
end
end Vs

/-! What is walked, targets, for, comprehensions. -/
namespace Vs
open PySem PySem.Spec L2

/-- what an iterator gives -/
def Kp (F1 H1 H' : Hp) : Prop := ∀ a o, F1 a ≠ none → H1 a = some o → nT o = true → H' a = some o
structure Yields (K : PySem.W.Frag) (J : It) (F1 H1 : Hp) (ds : List Dt) : Prop where
  stop : ∀ i F' H', Ex F1 F' → Sub F' H' → Kp F1 H1 H' → ds.length ≤ i → J.stop i H'
  go : ∀ i F' H', Ex F1 F' → Sub F' H' → Kp F1 H1 H' → i < ds.length → J.go i H'
  yld : ∀ i d F' H' v H'', Ex F1 F' → Sub F' H' → Kp F1 H1 H' → ds[i]? = some d → J.yld i H' v H'' → ∃ F'', Up F' H' F'' H'' ∧ Rep K F'' v d
def ISrc {I : Type} (X : I → Cx) (K : PySem.W.Frag) (G : Env) (tg iter : Expr) (ds : List Dt) : Prop :=
  ∃ wi, (∀ i, PI (X i) tg iter wi) ∧ (∀ i x, foldedSetIterable iter (X i).env x = pure x) ∧ ∀ F H σ fps (R : It → Hp → Prop), EnvOk K F H σ G fps → (∀ J F1 H1, Up F H F1 H1 → Yields K J F1 H1 ds → R J H1) → wi σ H R
/-- .. where something holds at the beginning -/
def ISrcL (L : Hp → Hp → L2.St → Prop) {I : Type} (X : I → Cx) (K : PySem.W.Frag) (G : Env) (tg iter : Expr) (ds : List Dt) : Prop :=
  ∃ wi, (∀ i, PI (X i) tg iter wi) ∧ (∀ i x, foldedSetIterable iter (X i).env x = pure x) ∧ ∀ F H σ fps (R : It → Hp → Prop), EnvOk K F H σ G fps → L F H σ → (∀ J F1 H1, Up F H F1 H1 → Yields K J F1 H1 ds → R J H1) → wi σ H R
theorem ISrc.lk {I : Type} {X : I → Cx} {K : PySem.W.Frag} {G : Env} {tg iter : Expr} {ds : List Dt} (h : ISrc X K G tg iter ds) : ISrcL (fun _ _ _ => True) X K G tg iter ds := by
  obtain ⟨wi, h1, h2, h3⟩ := h
  exact ⟨wi, h1, h2, fun F H σ fps R e _ q => h3 F H σ fps R e q⟩
theorem kp_le {K : PySem.W.Frag} {F H F' H' : Hp} {σ : L2.St} {G : Env} {fps fps' : Nat → List Addr} (E : EnvOk K F H σ G fps) (l : Le (Owns fps) F H F' H' (Owns fps')) : Kp F H H' := fun a o n z m => l.hp.k a o (fun y => n (E.own y.choose a y.choose_spec).1) z m
section
variable {I : Type} {X : I → Cx} {K : PySem.W.Frag} {G : Env} {tg iter : Expr} {ds : List Dt}
theorem src_list (hK : ∀ i, (X i).K = K) (h : EX X K G iter (.lst ds)) (hs : ∀ i x, foldedSetIterable iter (X i).env x = pure x := by intro _ _; rfl) : ISrc X K G tg iter ds :=
  ⟨iList K (wpE X iter), fun i => hK i ▸ pi_list (pe_wp i), hs, fun F H σ fps R E q => h F H σ fps _ E fun F1 H1 v u r => by
    cases r with
    | lst h1 l1 r1 =>
      rename_i a vs
      refine ⟨a, rfl, ⟨vs, SqL.of (u.sb.lst h1)⟩, q _ F1 H1 u ⟨fun i F' H' e s _ hi => ⟨vs, SqL.of (s.lst (e _ _ h1)), by rw [r1.len]; exact hi⟩, fun i F' H' e s _ hi => ?_, fun i d F' H' v H'' e s _ hd hy => ?_⟩⟩
      · have hl : i < vs.length := by rw [r1.len]; exact hi
        exact ⟨vs, vs[i], SqL.of (s.lst (e _ _ h1)), by simp [hl]⟩
      · obtain ⟨rfl, hv⟩ := hy
        obtain ⟨w, h2, h3⟩ := r1.get hd
        have := hv vs (SqL.of (s.lst (e _ _ h1)))
        rw [h2] at this; cases this
        exact ⟨F', Up.refl s, h3.mono e⟩⟩
/-- the signs of a text -/
def signs (s : Str) : List Dt := s.cps.toList.map fun c => .str ⟨#[c]⟩
/-- range(n) -/
theorem src_range1 {a : Expr} {p pos : Pos} {n : Int} (hg : ∀ i, Gl (X i) "range") (hm : ∀ i, (X i).mg "range" = none) (h : EX X K G a (.int n)) (h1 : -(2 ^ 62) ≤ n) (h2 : n < 2 ^ 62) (hsa : ∀ i, starEach [a] (X i).env = [(false, eval a (X i).env)] := by intro _; rfl)
    (hs : ∀ i x, foldedSetIterable (.Call (.Name "range" p) [a] [] pos) (X i).env x = pure x := by intro _ _; rfl) : ISrc X K G tg (.Call (.Name "range" p) [a] [] pos) ((List.range n.toNat).map fun (i : Nat) => Dt.int (i : Int)) :=
  ⟨iRng1 (tCons (wpE X a) tNil), fun i => pi_range1 (hg i) (hm i) (pa_cons (pe_wp i) pa_nil (hsa i)) (hsa i), hs, fun F H σ fps R E q => h F H σ fps _ E fun F1 H1 v u r => by
    cases r
    refine ⟨n, rfl, h1, h2, q _ F1 H1 u ⟨fun i F' H' e s' _ hi => ?_, fun i F' H' e s' _ hi => ?_, fun i d F' H' v H'' e s' _ hd hy => ?_⟩⟩
    · rw [List.length_map, List.length_range] at hi
      exact hi
    · rw [List.length_map, List.length_range] at hi
      exact hi
    · obtain ⟨rfl, rfl⟩ := hy
      rw [List.getElem?_map] at hd
      have hi : i < (List.range n.toNat).length := by
        cases z : (List.range n.toNat)[i]? with
        | none => rw [z] at hd; cases hd
        | some k => exact (List.getElem?_eq_some_iff.mp z).1
      rw [List.length_range] at hi
      rw [List.getElem?_range hi] at hd
      cases hd
      exact ⟨F', Up.refl s', by rw [Int.zero_add]; exact .int _⟩⟩
theorem mapIdx_get {A B : Type} (f : Nat → A → B) (xs : List A) (i : Nat) : (xs.mapIdx f)[i]? = xs[i]?.map (f i) := by
  rw [List.getElem?_mapIdx]
/-- enumerate(list) -/
theorem src_enum {a : Expr} {p pos tpos : Pos} {elts : List Expr} {kk : Nat} (hK : ∀ i, (X i).K = K) (hg : ∀ i, Gl (X i) "enumerate") (hm : ∀ i, (X i).mg "enumerate" = none) (h : EX X K G a (.lst ds)) (hsa : ∀ i, starEach [a] (X i).env = [(false, eval a (X i).env)] := by intro _; rfl)
    (hs : ∀ i x, foldedSetIterable (.Call (.Name "enumerate" p) [a] [] pos) (X i).env x = pure x := by intro _ _; rfl) : ISrc X K G (.Tuple elts kk tpos) (.Call (.Name "enumerate" p) [a] [] pos) (ds.mapIdx fun i d => .tup [.int (i : Int), d]) :=
  ⟨iEnum K (tCons (wpE X a) tNil), fun i => hK i ▸ pi_enum (hg i) (hm i) (pa_cons (pe_wp i) pa_nil (hsa i)) (hsa i), hs, fun F H σ fps R E q => h F H σ fps _ E fun F1 H1 v u r => by
    cases r with
    | lst h1 l1 r1 =>
      rename_i a vs
      refine ⟨a, vs, rfl, SqL.of (u.sb.lst h1), q _ F1 H1 u ⟨fun i F' H' e s _ hi => ⟨vs, SqL.of (s.lst (e _ _ h1)), by rw [r1.len]; simpa using hi⟩, fun i F' H' e s _ hi => ?_, fun i d F' H' v H'' e s _ hd hy => ?_⟩⟩
      · have hl : i < vs.length := by rw [r1.len]; simpa using hi
        exact ⟨vs, vs[i], SqL.of (s.lst (e _ _ h1)), by simp [hl]⟩
      · obtain ⟨T, x, rfl, hT, rfl, hv⟩ := hy
        rw [mapIdx_get] at hd
        cases hx : ds[i]? with
        | none => rw [hx] at hd; cases hd
        | some d0 =>
          rw [hx] at hd; cases hd
          obtain ⟨w, h2, h3⟩ := r1.get hx
          have e9 := hv vs (SqL.of (s.lst (e _ _ h1)))
          rw [h2] at e9
          obtain rfl : w = x := Option.some.inj e9
          have up := Up.lay (o := .tup [.int (i : Nat), w]) s hT
          exact ⟨_, up, .tup upd_same (by show 2 ≤ big; decide) (.cons (.int _) (.cons ((h3.mono e).mono up.fr) .nil))⟩⟩
end

/-! ### targets -/
/-- g puts the data d into the names js -/
def Bd (K : PySem.W.Frag) (g : TG) (js : List Nat) (d : Dt) (G G' : Env) : Prop :=
  ∀ F H σ fps v (Q : L2.St → Hp → Prop), EnvOk K F H σ G fps → Rep K F v d → (∀ σ' fps', EnvOk K F H σ' G' fps' → σ'.length = σ.length → (∀ i, i ∉ js → σ'[i]? = σ[i]?) → Le (Owns fps) F H F H (Owns fps') → Q σ' H) → g v σ H Q
section
variable {K : PySem.W.Frag} {G G' G'' : Env} {d : Dt}
theorem bd_name {j : Nat} (hl : j < G.length) : Bd K (gName j) [j] d G (G.set j (some (.fz d))) := fun F H σ fps v Q E r q =>
  q _ _ (envSet E hl r) (by rw [List.length_set]) (fun i hi => by
    have hne : j ≠ i := fun z => hi (by rw [z]; simp)
    rw [List.getElem?_set_ne hne]) leSet
/-- several targets -/
def BdL (K : PySem.W.Frag) (g : TGs) (js : List Nat) (ds : List Dt) (G G' : Env) : Prop :=
  ∀ F H σ fps vs (Q : L2.St → Hp → Prop), EnvOk K F H σ G fps → RepL K F vs ds → (∀ σ' fps', EnvOk K F H σ' G' fps' → σ'.length = σ.length → (∀ i, i ∉ js → σ'[i]? = σ[i]?) → Le (Owns fps) F H F H (Owns fps') → Q σ' H) → g vs σ H Q
theorem bdl_nil : BdL K gNil [] [] G G := fun F H σ fps vs Q E r q => by
  cases r
  exact ⟨rfl, q σ fps E rfl (fun _ _ => rfl) Le.refl⟩
theorem bdl_cons {g : TG} {gs : TGs} {js ks : List Nat} {ds : List Dt} (h : Bd K g js d G G') (hs : BdL K gs ks ds G' G'') : BdL K (gCons g gs) (js ++ ks) (d :: ds) G G'' := fun F H σ fps vs Q E r q => by
  cases r with
  | cons r1 r2 =>
    refine ⟨_, _, rfl, h F H σ fps _ _ E r1 fun σ1 fps1 E1 l1 e1 le1 => ?_⟩
    refine hs F H σ1 fps1 _ _ E1 r2 fun σ2 fps2 E2 l2 e2 le2 => q σ2 fps2 E2 (l2.trans l1) (fun i hi => ?_) (le1.trans le2)
    rw [List.mem_append] at hi
    rw [e2 i (fun z => hi (.inr z)), e1 i (fun z => hi (.inl z))]
theorem bd_tup {g : TGs} {js : List Nat} {ds : List Dt} {n : Nat} (h : BdL K g js ds G G') (hn : ds.length = n) : Bd K (gTup K n g) js (.tup ds) G G' := fun F H σ fps v Q E r q => by
  cases r with
  | tup h1 l1 r1 => exact ⟨_, _, rfl, SqT.of (E.sub.tup h1), by rw [r1.len, hn], h F H σ fps _ Q E r1 q⟩
end

section
variable {X : Cx} {K : PySem.W.Frag} {W : WX} {sv : Sv} {G : Env} {rest : List Stmt} {o : Out} {pos : Pos} {A S T : Type}
theorem Slf.same {σ σ' : L2.St} {js : List Nat} (s : Slf sv σ) (h : ∀ i, i ∉ js → σ'[i]? = σ[i]?) (hv : noneIn sv.ks js = true) : Slf sv σ' := fun i e => by
  rw [h i (noneIn_ok hv i e)]; exact s i e
/-- for TARGET in SOURCE -/
theorem run_for {R : Type} {tg iter : Expr} {g : TG} {js : List Nat} {body : List Stmt} {P : S → A → Prop} {Q : S → Prop} {s0 : S} {xs : List A} (enc : A → Dt) (Gs : S → Env) (Gb : S → A → Env) (E : T → Out) (step : S → A → Step S R) (io : R → T) (k : S → T)
    (hp : PassesOwn (model X.prog X.w) X.A X.env X.xe) (hc : X.calm = true) (hg : PG X tg g) (hv : noneIn sv.ks js = true) (hE : ∀ y, Term (E (io y)))
    (hi : ISrc (one X) K G tg iter (xs.map enc)) (h0 : Weak G (Gs s0)) (hB : ∀ s x, Bd K g js (enc x) (Gs s) (Gb s x)) (hP : LoopAll P Q step xs s0)
    (hb : ∀ s x, x ∈ xs → P s x → Run X K W sv body (Gb s x) ((step s x).out Gs fun y => E (io y)))
    (hk : ∀ s, Q s → Run X K W sv rest (Gs s) (E (k s))) : Run X K W sv (.For tg iter body [] pos :: rest) G (E (loop step io k xs s0)) := fun F H σ fps D Eo s q => by
  obtain ⟨wi, h1, h2, h3⟩ := hi
  refine ⟨tSeq (tFor wi g (wpSs X body)) (wpSs X rest), pss_cons (ps_for hp hc (h1 ()) hg pss_wp (h2 ())) pss_wp, h3 F H σ fps _ Eo fun J F1 H1 u y => ?_⟩
  have q1 : Fin K W sv D F1 H1 fps (E (loop step io k xs s0)) := q.le u.le
  refine ⟨fun i m σ' H' => (m = xs.length - i ∧ i ≤ xs.length) ∧ LoopW K W sv D F1 H1 fps Gs E P Q step io k xs (loop step io k xs s0) i σ' H', ⟨xs.length, ⟨by omega, Nat.zero_le _⟩, F1, fps, s0, h0.ok (Eo.up u), s, Le.refl, rfl, hP⟩, ?_⟩
  rintro i m σ' H' ⟨⟨rfl, hi⟩, w⟩
  by_cases hlt : i < xs.length
  · refine .inr ⟨?_, fun σ2 H2 => LoopW K W sv D F1 H1 fps Gs E P Q step io k xs (loop step io k xs s0) (i + 1) σ2 H2, fun σ2 H2 w2 => ⟨xs.length - (i + 1), by omega, ⟨rfl, hlt⟩, w2⟩, fun v H2 hy => ?_⟩
    · obtain ⟨F', fps', s', e', _, l', _⟩ := w.ex
      exact y.go i F' H' l'.fr e'.sub (kp_le (Eo.up u) l') (by rw [List.length_map]; exact hlt)
    · refine loop_turn hE hb hk q1 (show xs[i]? = some xs[i] by simp [hlt]) w (fun σ' H' => J.yld i H' v H2 → g v σ' H2 fun σ2 H2 => wpSs X body _ σ2 H2) (fun F' fps' s' e' sl' l' go hy => ?_) hy
      obtain ⟨F2, u2, r2⟩ := y.yld i (enc xs[i]) F' H' v H2 l'.fr e'.sub (kp_le (Eo.up u) l') (by rw [List.getElem?_map]; simp [hlt]) hy
      exact hB s' xs[i] F2 H2 σ' fps' v _ (e'.up u2) r2 fun σ3 fps3 e3 _ h3 l3 => go F2 H2 σ3 fps3 e3 (sl'.same h3 hv) (u2.le.trans l3)
  · have hi2 : i = xs.length := by omega
    refine .inl ⟨?_, loop_done hk q1 (by omega) w⟩
    obtain ⟨F', fps', s', e', _, l', _⟩ := w.ex
    exact y.stop i F' H' l'.fr e'.sub (kp_le (Eo.up u) l') (by rw [List.length_map]; omega)
end

/-! ### comprehensions -/
def wipeG (G : Env) : List Nat → Env
  | [] => G
  | v :: vs => (wipeG G vs).set v none
theorem wipe_get (σ : L2.St) : ∀ (vs : List Nat) (i : Nat), (wipe σ vs)[i]? = if i ∈ vs then (if i < σ.length then some none else none) else σ[i]?
  | [], i => by simp [wipe]
  | v :: vs, i => by
    unfold wipe
    by_cases h : v = i
    · subst h
      by_cases hl : v < σ.length
      · rw [List.getElem?_set_self (by rw [wipe_length]; exact hl)]; simp [hl]
      · rw [List.getElem?_eq_none (by rw [List.length_set, wipe_length]; omega)]; simp [hl]
    · rw [List.getElem?_set_ne h, wipe_get σ vs i]
      have hne : ¬ i = v := fun z => h z.symm
      simp [hne]
theorem wipe_same {σ σ' : L2.St} {vs : List Nat} (hl : σ'.length = σ.length) (h : ∀ i, i ∉ vs → σ'[i]? = (wipe σ vs)[i]?) : wipe σ' vs = wipe σ vs := by
  apply List.ext_getElem?
  intro i
  rw [wipe_get σ' vs i, wipe_get σ vs i]
  by_cases hi : i ∈ vs
  · simp [hi, hl]
  · have h1 := h i hi
    rw [wipe_get σ vs i] at h1
    simp only [hi, if_false] at h1 ⊢
    exact h1
theorem wipe_env {K : PySem.W.Frag} {F H : Hp} {σ : L2.St} {G : Env} {fps : Nat → List Addr} (e : EnvOk K F H σ G fps) : ∀ vs : List Nat, EnvOk K F H (wipe σ vs) (wipeG G vs) fps
  | [] => e
  | v :: vs => by
    have e1 := wipe_env e vs
    unfold wipe wipeG
    refine ⟨e1.sub, by rw [List.length_set, List.length_set, e1.len], fun i c h => ?_, e1.own, e1.dis, e1.tab⟩
    by_cases hv : v = i
    · subst hv
      by_cases hl : v < (wipeG G vs).length
      · rw [List.getElem?_set_self hl] at h; cases h
      · rw [List.getElem?_eq_none (by rw [List.length_set]; omega)] at h; cases h
    · rw [List.getElem?_set_ne hv] at h ⊢
      exact e1.ent i c h
theorem filterMap_take_succ {A B : Type} (f : A → Option B) {xs : List A} {i : Nat} {x : A} (h : xs[i]? = some x) : (xs.take (i + 1)).filterMap f = (xs.take i).filterMap f ++ (f x).toList := by
  rw [List.take_succ, h, List.filterMap_append]
  cases h2 : f x <;> simp [h2]
theorem filterMap_len {A B : Type} (f : A → Option B) (xs : List A) : (xs.filterMap f).length ≤ xs.length := List.length_filterMap_le f xs
section
variable {I A : Type} {X : I → Cx} {K : PySem.W.Frag} {G : Env}
/-- the block's contexts -/
structure BlkI (I : Type) where
  i : I
  s : Shared
  H : Hp
  C : Addr
  cl : List (Str × Addr)
  fp : List Addr
def blkX (X : I → Cx) (scope : Scope) : BlkI I → Cx := fun b => (X b.i).blk b.s b.H scope (compEnvC scope b.cl b.C (X b.i).env) b.fp
/-- tests of a comprehension -/
def ETs (X : I → Cx) (K : PySem.W.Frag) (G : Env) (ifs : List Expr) (b : Bool) : Prop :=
  ∃ t : TT, (∀ i, PTs (X i) ifs t) ∧ ∀ F H σ fps (Q : Bool → Hp → Prop), EnvOk K F H σ G fps → (∀ F' H', Up F H F' H' → Q b H') → t σ H Q

/-- the reading of a comprehension -/
theorem lc_readL (L : Hp → Hp → L2.St → Prop) {A : Type} {X : I → Cx} {elt tg iter : Expr} {ifs : List Expr} {scope : Scope} {own : List (Str × Nat)} {pos : Pos} {g : TG} {js : List Nat} {xs : List A} (enc : A → Dt) (Gb : A → Env) (p : A → Bool) (f : A → Dt)
    (hc : ∀ i, (X i).calm = true) (hN : ∀ i, (X i).N.Nodup) (hi : ISrcL L X K G tg iter (xs.map enc)) (hn : xs.length ≤ big) (ok : ∀ i, BlkOk (X i).N (X i).env.scope scope own) (hjs : ∀ j ∈ js, j ∈ own.map (·.2))
    (hg : ∀ b, PG (blkX X scope b) tg g) (hB : ∀ x, Bd K g js (enc x) (wipeG G (own.map (·.2))) (Gb x))
    (ht : ∃ t : TT, (∀ i, PTs (blkX X scope i) ifs t) ∧ ∀ x, x ∈ xs → ∀ F H σ fps (Q : Bool → Hp → Prop), EnvOk K F H σ (Gb x) fps → (∀ F' H', Up F H F' H' → Q (p x) H') → t σ H Q)
    (he : ∀ x, x ∈ xs → p x = true → EX (blkX X scope) K (Gb x) elt (f x)) :
    ∃ (wi : TI) (tt : TT), (∀ i, PI (X i) tg iter wi) ∧ (∀ i x, foldedSetIterable iter (X i).env x = pure x) ∧ (∀ b, PTs (blkX X scope b) ifs tt) ∧ ∀ F H σ fps (Q : VK), EnvOk K F H σ G fps → L F H σ →
      (∀ F' H' v fp, Up F H F' H' → RepC K F' H' fp v (.ol (xs.filterMap fun x => if p x then some (f x) else none)) → (∀ a ∈ fp, H a = none ∧ F' a = none ∧ H' a ≠ none) → Q v H') →
      tLc wi g tt (wpE (blkX X scope) elt) (own.map (·.2)) σ H Q := by
  obtain ⟨wi, h1, h2, h3⟩ := hi
  obtain ⟨tt, ht1, ht2⟩ := ht
  refine ⟨wi, tt, h1, h2, ht1, fun F H σ fps Q Eo hL q => ?_⟩
  refine h3 F H σ fps _ Eo hL fun J F1 H1 u y D hD => ?_
  have E1 := Eo.up u
  have hF1 : F1 D = none := u.sb.none hD
  have kp_D : ∀ {H' : Hp}, ExO (fun a => a = D) H1 H' → Kp F1 H1 H' := fun k a o n z m => k.k a o (fun e => by subst e; exact n hF1) z m
  have nD : ∀ i, D ∉ fps i := fun i z => (E1.own i D z).2 hD
  let out : A → Option Dt := fun x => if p x then some (f x) else none
  let Pv : Nat → Hp → Prop := fun i H' => ∃ F' acc, Sub F' H' ∧ F' D = none ∧ H' D = some (.lst acc) ∧ Ex F1 F' ∧ ExO (fun a => a = D) H1 H' ∧ (∀ a, a ≠ D → F1 a = none → H1 a ≠ none → F' a = none) ∧ RepL K F' acc ((xs.take i).filterMap out)
  have envAt : ∀ i H', Pv i H' → ∃ F' acc, Sub F' H' ∧ F' D = none ∧ H' D = some (.lst acc) ∧ Ex F1 F' ∧ ExO (fun a => a = D) H1 H' ∧ (∀ a, a ≠ D → F1 a = none → H1 a ≠ none → F' a = none) ∧ RepL K F' acc ((xs.take i).filterMap out) ∧ EnvOk K F' H' (wipe σ (own.map (·.2))) (wipeG G (own.map (·.2))) fps := by
    rintro i H' ⟨F', acc, a1, a2, a3, a4, a5, a6, a7⟩
    refine ⟨F', acc, a1, a2, a3, a4, a5, a6, a7, wipe_env ⟨a1, E1.len, fun j c h => ?_, fun j a h => ?_, E1.dis, fun P h => ⟨a6 P (fun z => tab_there (E1.tab P h).2 (by rw [z]; exact hD)) (E1.tab P h).1 (tab_there (E1.tab P h).2), a5.t P (E1.tab P h).2⟩⟩ _⟩
    · obtain ⟨v, b1, b2⟩ := E1.ent j c h
      exact ⟨v, b1, RepC.mono a4 (fun a ha o z m => a5.k a o (fun e => nD j (e ▸ ha)) z m) b2⟩
    · obtain ⟨b1, b2⟩ := E1.own j a h
      have hne : a ≠ D := fun e => nD j (e ▸ h)
      exact ⟨a6 a hne b1 b2, a5.n a hne b2⟩
  refine ⟨fun i m H' => (m = xs.length - i ∧ i ≤ xs.length) ∧ Pv i H', ⟨xs.length, ⟨by omega, Nat.zero_le _⟩, F1, [], ?_, hF1, upd_same, Ex.refl F1, (ExO.of (Ex.new hD)).imp fun _ z => z.elim, fun a _ z _ => z, .nil⟩, ?_⟩
  · exact (Up.layH u.sb hD).sb
  rintro i m H' ⟨⟨rfl, hi⟩, pv⟩
  obtain ⟨F', acc, a1, a2, a3, a4, a5, a6, a7, Ei⟩ := envAt i H' pv
  by_cases hlt : i < xs.length
  · refine .inr ⟨y.go i F' H' a4 a1 (kp_D a5) (by rw [List.length_map]; exact hlt), fun H2 => Pv (i + 1) H2, fun H2 p2 => ⟨xs.length - (i + 1), by omega, ⟨rfl, hlt⟩, p2⟩, fun v H2 hy => ?_⟩
    have hx : xs[i]? = some xs[i] := by simp [hlt]
    have hm : xs[i] ∈ xs := List.getElem_mem hlt
    obtain ⟨F2, u2, r2⟩ := y.yld i (enc xs[i]) F' H' v H2 a4 a1 (kp_D a5) (by rw [List.getElem?_map, hx]; rfl) hy
    refine hB xs[i] F2 H2 _ fps v _ (Ei.up u2) r2 fun σ3 fps3 e3 l3 s3 le3 => ⟨wipe_same (l3.trans (wipe_length σ _)) (fun j hj => s3 j fun z => hj (hjs j z)), ?_⟩
    have tk : (xs.take (i + 1)).filterMap out = (xs.take i).filterMap out ++ (out xs[i]).toList := filterMap_take_succ out hx
    refine ht2 xs[i] hm F2 H2 σ3 fps3 _ e3 fun F3 H3 u3 => ?_
    have u23 := u2.trans u3
    have h3D : H3 D = some (.lst acc) := u23.hp.h a3
    have f3D : F3 D = none := u23.nw D a2 (by rw [a3]; simp)
    cases hp : p xs[i] with
    | true =>
      show wpE (blkX X scope) elt σ3 H3 _
      refine he xs[i] hm hp F3 H3 σ3 fps3 _ (e3.up u3) fun F4 H4 w u4 r4 => ⟨acc, u4.hp.h h3D, ?_, ?_⟩
      · have hle := filterMap_len out (xs.take i)
        rw [List.length_take] at hle
        have hlen := a7.len
        have := big_line
        omega
      · have u24 := u23.trans u4
        refine ⟨F4, acc ++ [w], u4.sb.put (u4.nw D f3D (by rw [h3D]; simp)), u4.nw D f3D (by rw [h3D]; simp), upd_same, a4.trans u24.fr, (a5.then u24.hp).upd (u4.hp.h h3D) rfl rfl, fun a hne z z' => ?_, ?_⟩
        · exact u24.nw a (a6 a hne z z') (a5.n a hne z')
        · rw [tk]
          have eo : out xs[i] = some (f xs[i]) := if_pos hp
          rw [eo]
          exact (a7.mono u24.fr).append (.cons r4 .nil)
    | false =>
      show Pv (i + 1) H3
      refine ⟨F3, acc, u3.sb, f3D, h3D, a4.trans u23.fr, a5.then u23.hp, fun a hne z z' => ?_, ?_⟩
      · exact u23.nw a (a6 a hne z z') (a5.n a hne z')
      · rw [tk]
        have eo : out xs[i] = none := if_neg (by rw [hp]; decide)
        rw [eo]
        show RepL K F3 acc (_ ++ [])
        rw [List.append_nil]
        exact a7.mono u23.fr
  · have hi2 : i = xs.length := by omega
    refine .inl ⟨y.stop i F' H' a4 a1 (kp_D a5) (by rw [List.length_map]; omega), ?_⟩
    have hD0 : H D = none := u.hp.free hD
    have hx : xs.take i = xs := by rw [hi2]; exact List.take_length
    rw [hx] at a7
    refine q F' H' (.ref D) [D] ⟨u.fr.trans a4, ExO.within u.hp a5 (fun a e => by rw [e]; exact hD0), fun a z z' => ?_, a1⟩ (.ol a3 ?_ a7) fun a ha => ?_
    · have hne : a ≠ D := fun e => by subst e; exact z' hD0
      exact a6 a hne (u.nw a z z') (u.hp.n a (fun y => y) z')
    · rw [a7.len]
      exact Nat.le_trans (filterMap_len _ _) hn
    · obtain rfl : a = D := by simpa using ha
      exact ⟨hD0, a2, by rw [a3]; simp⟩
/-- [elt for TARGET in SOURCE if ..] -/
theorem en_lc {A : Type} {X : I → Cx} {elt tg iter : Expr} {ifs : List Expr} {scope : Scope} {own : List (Str × Nat)} {pos : Pos} {g : TG} {js : List Nat} {xs : List A} (enc : A → Dt) (Gb : A → Env) (p : A → Bool) (f : A → Dt)
    (hc : ∀ i, (X i).calm = true) (hN : ∀ i, (X i).N.Nodup) (hi : ISrc X K G tg iter (xs.map enc)) (hn : xs.length ≤ big) (ok : ∀ i, BlkOk (X i).N (X i).env.scope scope own) (hjs : ∀ j ∈ js, j ∈ own.map (·.2))
    (hg : ∀ b, PG (blkX X scope b) tg g) (hB : ∀ x, Bd K g js (enc x) (wipeG G (own.map (·.2))) (Gb x))
    (ht : ∃ t : TT, (∀ i, PTs (blkX X scope i) ifs t) ∧ ∀ x, x ∈ xs → ∀ F H σ fps (Q : Bool → Hp → Prop), EnvOk K F H σ (Gb x) fps → (∀ F' H', Up F H F' H' → Q (p x) H') → t σ H Q)
    (he : ∀ x, x ∈ xs → p x = true → EX (blkX X scope) K (Gb x) elt (f x)) :
    EN X K G (.ListComp elt [⟨tg, iter, ifs, 0⟩] scope pos) (.ol (xs.filterMap fun x => if p x then some (f x) else none)) := fun F H σ fps Q Eo q => by
  obtain ⟨wi, tt, h1, h2, h3, h4⟩ := lc_readL (pos := pos) _ enc Gb p f hc hN hi.lk hn ok hjs hg hB ht he
  exact ⟨tLc wi g tt (wpE (blkX X scope) elt) (own.map (·.2)), fun i => pe_lc (hc i) (hN i) (h1 i) (ok i) (fun s H C cl fp => hg ⟨i, s, H, C, cl, fp⟩) (fun s H C cl fp => h3 ⟨i, s, H, C, cl, fp⟩) (fun s H C cl fp => pe_wp (X := blkX X scope) ⟨i, s, H, C, cl, fp⟩) (h2 i), h4 F H σ fps Q Eo trivial q⟩
/-- .. where something holds at the beginning -/
def ENL (L : Hp → Hp → L2.St → Prop) {I : Type} (X : I → Cx) (K : PySem.W.Frag) (G : Env) (e : Expr) (c : Cell) : Prop :=
  ∀ F H σ fps (Q : VK), EnvOk K F H σ G fps → L F H σ → (∀ F' H' v fp, Up F H F' H' → RepC K F' H' fp v c → (∀ a ∈ fp, H a = none ∧ F' a = none ∧ H' a ≠ none) → Q v H') → wpE X e σ H Q
end
end Vs

/-! Calls, promises, texts, slices, lists. -/
namespace Vs
open PySem PySem.Spec L2

/-! ### a def's promise over data -/
def spR (K : PySem.W.Frag) (n : Nat) (r : List Dt → Sum Cell Xc → Prop) : Sp := fun vs H Q E => ∃ F ds a, (Sub F H ∧ Tb K F H) ∧ RepL K F vs ds ∧ ds.length = n ∧ r ds a ∧ (match a with
  | .inl c => ∀ F' H' v fp, Up F H F' H' → RepC K F' H' fp v c → (∀ a ∈ fp, H a = none ∧ F' a = none ∧ H' a ≠ none) → Q v H'
  | .inr x => ∀ F' H' d, Up F H F' H' → XRep K F' d x.fs → E (.ref (He.ga K x.cls)) d H')
structure Callee (P : Program) (w : World) (K : PySem.W.Frag) (mg : Str → Option Value) (base : Heap) (x : Str) (k n : Nat) (r : List Dt → Sum Cell Xc → Prop) : Prop where
  ex : ∃ f fd ps, FnOk P w K mg base (L2.CX P w) k f fd ps (spR K n r) ∧ mg x = some (.ref f) ∧ PySem.W.keepIn K (.ref f) = true ∧ Binds K fd ps []
theorem Callee.imp {P : Program} {w : World} {K : PySem.W.Frag} {mg : Str → Option Value} {base : Heap} {x : Str} {k n : Nat} {r r' : List Dt → Sum Cell Xc → Prop} (c : Callee P w K mg base x k n r) (h : ∀ ds a, r' ds a → r ds a) : Callee P w K mg base x k n r' := by
  obtain ⟨f, fd, ps, h1, h2, h3, h4⟩ := c.ex
  exact ⟨f, fd, ps, h1.imp fun vs H Q E ⟨F, ds, a, a1, a2, a3, a4, a5⟩ => ⟨F, ds, a, a1, a2, a3, h ds a a4, a5⟩, h2, h3, h4⟩
/-- the contexts run in these surroundings -/
def Of {I : Type} (X : I → Cx) (P : Program) (w : World) (K : PySem.W.Frag) (mg : Str → Option Value) (base : Heap) : Prop := ∀ j, (X j).prog = P ∧ (X j).w = w ∧ (X j).K = K ∧ (X j).mg = mg ∧ (X j).base = base
section
variable {I : Type} {X : I → Cx} {K : PySem.W.Frag} {G : Env} {P : Program} {w : World} {mg : Str → Option Value} {base : Heap}
theorem en_call {x : Str} {k n : Nat} {r : List Dt → Sum Cell Xc → Prop} {p pos : Pos} {e : Expr} {es : List Expr} {ds : List Dt} {c : Cell} (C : Callee P w K mg base x k n r) (hX : Of X P w K mg base) (hr : ∀ j, Room k (X j).A) (hg : ∀ j, Gl (X j) x)
    (ha : EA X K G (e :: es) ds) (hn : ds.length = n) (hR : r ds (.inl c)) (hdb : (x == ("__debug__" : Str)) = false := by decide) (he : ∀ j, starEach (e :: es) (X j).env = (false, eval e (X j).env) :: starEach es (X j).env := by intro _; rfl)
    (hpl : ∀ j, (backTo pos (starEach es (X j).env)).any (·.1) = false := by intro _; rfl) : EN X K G (.Call (.Name x p) (e :: es) [] pos) c := fun F H σ fps Q Eo q => by
  obtain ⟨f, fd, ps, h1, h2, h3, h4⟩ := C.ex
  refine ⟨tCall (spR K n r) [] E0 (wpA X (e :: es)), fun j => ?_, ha F H σ fps _ Eo fun F1 H1 vs u rl => ?_⟩
  · obtain ⟨e1, e2, e3, e4, e5⟩ := hX j
    subst e1 e2 e3 e4 e5
    exact pe_call h1 (hr j) (hg j) h2 h3 h4 .nil passL (pa_wp j) hdb (he j) (hpl j)
  · rw [List.append_nil]
    exact ⟨F1, ds, .inl c, ⟨u.sb, Eo.tab.up u⟩, rl, hn, hR, fun F' H' v fp u' r' n' => q F' H' v fp (u.trans u') r' fun a ha => ⟨u.hp.free (n' a ha).1, (n' a ha).2.1, (n' a ha).2.2⟩⟩
theorem EN.fz0 {e : Expr} {d : Dt} (h : EN X K G e (.fz d)) : EX X K G e d := fun F H σ fps Q Eo q => h F H σ fps Q Eo fun F' H' v fp u r n => q F' H' v u r.there.2
theorem ex_call {x : Str} {k n : Nat} {r : List Dt → Sum Cell Xc → Prop} {p pos : Pos} {e : Expr} {es : List Expr} {ds : List Dt} {d : Dt} (C : Callee P w K mg base x k n r) (hX : Of X P w K mg base) (hr : ∀ j, Room k (X j).A) (hg : ∀ j, Gl (X j) x)
    (ha : EA X K G (e :: es) ds) (hn : ds.length = n) (hR : r ds (.inl (.fz d))) (hdb : (x == ("__debug__" : Str)) = false := by decide) (he : ∀ j, starEach (e :: es) (X j).env = (false, eval e (X j).env) :: starEach es (X j).env := by intro _; rfl)
    (hpl : ∀ j, (backTo pos (starEach es (X j).env)).any (·.1) = false := by intro _; rfl) : EX X K G (.Call (.Name x p) (e :: es) [] pos) d := (en_call C hX hr hg ha hn hR hdb he hpl).fz0
end

/-- the names' data at a def's entry -/
def start0 (N : List Str) (ds : List Dt) : Env := ds.map (fun d => some (.fz d)) ++ List.replicate (N.length - ds.length) none
theorem start_ok {K : PySem.W.Frag} {F H : Hp} {N : List Str} {vs : List V} {ds : List Dt} (s : Sub F H ∧ Tb K F H) (r : RepL K F vs ds) : EnvOk K F H (L2.start N vs) (start0 N ds) (fun _ => []) := by
  refine ⟨s.1, by unfold L2.start start0; simp [r.len], fun i c h => ?_, fun i a h => by simp at h, fun i j a h => by simp at h, s.2⟩
  unfold start0 at h
  unfold L2.start
  by_cases hi : i < ds.length
  · rw [List.getElem?_append_left (by simpa using hi), List.getElem?_map] at h
    have e1 : ds[i]? = some ds[i] := by simp [hi]
    rw [e1] at h
    cases h
    obtain ⟨v, h1, h2⟩ := r.get e1
    refine ⟨v, ?_, .fz h2⟩
    rw [List.getElem?_append_left (by simp [r.len, hi]), List.getElem?_map, h1]
    rfl
  · rw [List.getElem?_append_right (by simpa using Nat.le_of_not_lt hi)] at h
    rw [List.getElem?_replicate] at h
    split at h <;> cases h
/-- what an outcome says of a call -/
inductive OutIs : Out → Sum Cell Xc → Prop
  | rt (c : Cell) : OutIs (.rt c none) (.inl c)
  | nx (G : Env) : OutIs (.nx G) (.inl (.fz .non))
  | xc (x : Xc) (G : Env) : OutIs (.xc x G) (.inr x)
section
variable {P : Program} {w : World} {K : PySem.W.Frag} {mg : Str → Option Value} {base : Heap}
abbrev wE (E : XK) : WX := fun cls d _ H => E cls d H
theorem fnOk_mk {x qual : Str} {params : Arguments} {body : List Stmt} {scope : Scope} {f : Addr} {fd : FuncData} {N ps : List Str} {k : Nat} {r : List Dt → Sum Cell Xc → Prop} {dvs : List V} {kws : List (Str × V)} (F : FunD K x qual params body scope dvs kws f fd) (S : FnScope N ps scope)
    (h : ∀ (cdv : Value) (A : Around) (outer : List PySem.Env) (s : Shared) (H : Hp) (E : XK) (ds : List Dt) (a : Sum Cell Xc), Room k (A.deeper (PyProof.Rows.envOfC qual scope s.heap.objs.size f cdv)) → r ds a → ds.length = ps.length →
      ∃ o, OutIs o a ∧ Run (cxOf (L2.CX P w) P w K mg base N qual scope f cdv A outer s H E) K (wE E) sv0 body (start0 N ds) o) : FnOk P w K mg base (L2.CX P w) (k + 1) f fd ps (spR K ps.length r) := by
  refine F.ok S (fun vs H Q E ⟨F', ds, a, _, rl, hn, _⟩ => by rw [rl.len, hn]) fun cdv A outer s H vs Q E hr ⟨F', ds, a, hs, rl, hn, hR, hq⟩ => ?_
  obtain ⟨o, ho, run⟩ := h cdv A outer s H E ds a hr hR hn
  have := run F' H (L2.start N vs) (fun _ => []) { nx := fun _ H' => Q .non H', rt := Q } (start_ok hs rl) (fun v e => nomatch e) ?_
  · exact this
  · cases ho with
    | rt c =>
      intro F2 H2 v fp s2 l rc n
      refine hq F2 H2 v fp ⟨l.fr, l.hp.imp (fun a ⟨i, z⟩ => by simp at z), fun a z z' => l.nw a (fun ⟨i, z⟩ => by simp at z) z z', s2⟩ rc fun a ha => ⟨?_, n a ha⟩
      rcases l.ow a ha with ⟨i, z⟩ | z
      · simp at z
      · exact z
    | nx G =>
      intro F2 H2 σ' fps' e' _ l
      exact hq F2 H2 .non [] ⟨l.fr, l.hp.imp (fun a ⟨i, z⟩ => by simp at z), fun a z z' => l.nw a (fun ⟨i, z⟩ => by simp at z) z z', e'.sub⟩ (.fz .non) fun a ha => by simp at ha
    | xc x G =>
      intro F2 H2 σ' fps' d e' _ l xr
      exact hq F2 H2 d ⟨l.fr, l.hp.imp (fun a ⟨i, z⟩ => by simp at z), fun a z z' => l.nw a (fun ⟨i, z⟩ => by simp at z) z z', e'.sub⟩ xr
end
end Vs

/-! isinstance, texts, slices, lists, dicts. -/
namespace Vs
open PySem PySem.Spec L2

/-! ### isinstance, a built-in type -/
def Dt.ty : Dt → String
  | .non => "NoneType"
  | .bl _ => "bool"
  | .int _ => "int"
  | .str _ => "str"
  | .lst _ => "list"
  | .tup _ => "tuple"
  | .dic _ => "dict"
  | .dit _ => "dict"
  | .ins _ _ => "object"
  | .scr _ => "list"
  | .xc _ _ => "object"
def Dt.plain : Dt → Bool
  | .ins _ _ => false
  | .dit _ => false
  | .xc _ _ => false
  | _ => true
section
variable {I : Type} {X : I → Cx} {K : PySem.W.Frag} {G : Env}
/-! ### chains: a <= b <= c on ints -/
/-! ### constants of the module -/
/-! ### slices -/
/-- a part of a slice -/
def EO (X : I → Cx) (K : PySem.W.Frag) (G : Env) (e : Option Expr) (o : Option Int) : Prop :=
  ∃ t : TO, (∀ i, PO (X i) e t) ∧ ∀ F H σ fps (Q : Option Int → Hp → Prop), EnvOk K F H σ G fps → (∀ F' H', Up F H F' H' → Q o H') → t σ H Q
theorem eo_none : EO X K G none none := ⟨tNoPart, fun _ => po_none, fun F H σ fps Q e q => q F H (Up.refl e.sub)⟩
theorem eo_some {e : Expr} {i : Int} (h : EX X K G e (.int i)) : EO X K G (some e) (some i) := ⟨tPart (wpE X e), fun j => po_some (pe_wp j), fun F H σ fps Q k q => h F H σ fps _ k fun F1 H1 v u r => by
  cases r
  exact ⟨i, rfl, q F1 H1 u⟩⟩
theorem cutV_len {A : Type} (xs : List A) (lo hi : Option Int) : ((xs.drop (HT.sIx xs.length 0 lo)).take (HT.sIx xs.length xs.length hi - HT.sIx xs.length 0 lo)).length ≤ xs.length := by
  rw [List.length_take, List.length_drop]; omega
/-- the data of a slice -/
def cut {A : Type} (xs : List A) (lo hi : Option Int) : List A := (xs.drop (HT.sIx xs.length 0 lo)).take (HT.sIx xs.length xs.length hi - HT.sIx xs.length 0 lo)
theorem cut_map {A B : Type} (f : A → B) (xs : List A) (lo hi : Option Int) : cut (xs.map f) lo hi = (cut xs lo hi).map f := by
  unfold cut
  rw [List.length_map, ← List.map_drop, ← List.map_take]
theorem en_sliceL {a : Expr} {lo hi : Option Expr} {p2 pos : Pos} {ds : List Dt} {l h : Option Int} (hK : ∀ j, (X j).K = K) (ha : ES X K G a false ds) (hl : EO X K G lo l) (hh : EO X K G hi h) : EN X K G (.Subscript a (.Slice lo hi none p2) pos) (.ol (cut ds l h)) := fun F H σ fps Q k q => by
  obtain ⟨tl, l1, l2⟩ := hl
  obtain ⟨th, h1, h2⟩ := hh
  refine ⟨tSl (rSlL K) (wpE X a) tl th, fun j => pe_slice (hK j ▸ sl_list) (pe_wp j) (l1 j) (h1 j), ha F H σ fps _ k fun F1 H1 p vs u r z rl => l2 F1 H1 σ fps _ (k.up u) fun F2 H2 u2 => h2 F2 H2 σ fps _ ((k.up u).up u2) fun F3 H3 u3 => ?_⟩
  have u23 := u2.trans u3
  refine ⟨p, vs, rfl, ExO.sql u23.hp (by simpa using r), fun D hD => ?_⟩
  have e1 : RepL K F3 (cutV vs l h) (cut ds l h) := by
    unfold cutV cut
    rw [rl.len]
    exact ((rl.mono u23.fr).drop _).take _
  have n0 : H D = none := (u.trans u23).hp.free hD
  refine q F3 (upd H3 D (.lst (cutV vs l h))) (.ref D) [D] ((u.trans u23).trans (Up.layH u3.sb hD)) (.ol upd_same ?_ e1) fun a ha => ?_
  · unfold cutV
    exact Nat.le_trans (cutV_len vs l h) z
  · obtain rfl : a = D := by simpa using ha
    exact ⟨n0, u3.sb.none hD, by rw [upd_same]; simp⟩
/-- xs + ys, two lists -/
theorem en_catL {a b : Expr} {pos : Pos} {ds es : List Dt} (ha : EX X K G a (.lst ds)) (hb : EX X K G b (.lst es)) (hn : ds.length + es.length ≤ big) : EN X K G (.BinOp a .Add b pos) (.ol (ds ++ es)) := fun F H σ fps Q k q =>
  ⟨tOp rCat (wpE X a) (wpE X b), fun j => pe_op op_cat (pe_wp j) (pe_wp j), ha F H σ fps _ k fun F1 H1 v u r => hb F1 H1 σ fps _ (k.up u) fun F2 H2 w u2 r2 => by
    cases r with
    | lst h1 l1 r1 => cases r2 with
      | lst h2 l2 r2 =>
        rename_i a vs b ws
        have hl : vs.length + ws.length ≤ big := by rw [r1.len, r2.len]; exact hn
        refine ⟨a, b, vs, ws, rfl, rfl, u2.hp.h (u.sb.lst h1), u2.sb.lst h2, Nat.le_trans hl big_line, fun D hD => ?_⟩
        have n0 : H D = none := (u.trans u2).hp.free hD
        refine q F2 (upd H2 D (.lst (vs ++ ws))) (.ref D) [D] ((u.trans u2).trans (Up.layH u2.sb hD)) (.ol upd_same (by rw [List.length_append]; exact hl) ((r1.mono u2.fr).append r2)) fun a ha => ?_
        obtain rfl : a = D := by simpa using ha
        exact ⟨n0, u2.sb.none hD, by rw [upd_same]; simp⟩⟩
/-! ### methods of texts -/
end
end Vs

/-! Short words for printed proofs. -/
namespace Vs
open PySem PySem.Spec L2
section
variable {I : Type} {X : I → Cx} {K : PySem.W.Frag} {G : Env}
theorem xv (i : Nat) {x : Str} {pos : Pos} {d : Dt} (hg : G[i]? = some (some (.fz d))) (hN : ∀ j, (X j).N[i]? = some x := by intro _; rfl) (hv : ∀ j, Vis (X j).env.scope x := by intro _; first | exact Or.inl rfl | exact Or.inr (Or.inl rfl) | exact Or.inr (Or.inr rfl))
    (hd : (x == ("__debug__" : Str)) = false := by decide) (hcd : (x == ("__classdict__" : Str)) = false := by decide) : EX X K G (.Name x pos) d := ex_var hg hN hv hd hcd
theorem sv (i : Nat) {x : Str} {pos : Pos} {ds : List Dt} (hg : G[i]? = some (some (.ol ds))) (hN : ∀ j, (X j).N[i]? = some x := by intro _; rfl) (hv : ∀ j, Vis (X j).env.scope x := by intro _; first | exact Or.inl rfl | exact Or.inr (Or.inl rfl) | exact Or.inr (Or.inr rfl))
    (hd : (x == ("__debug__" : Str)) = false := by decide) (hcd : (x == ("__classdict__" : Str)) = false := by decide) : ES X K G (.Name x pos) false ds := es_var hg hN hv hd hcd
/-- an own dict, a text's sign, .. by their words -/
def sgn (s : Str) (i : Int) : Str := ⟨#[(atI s.cps.toList i).getD 0]⟩
theorem x_ixS {a b : Expr} {pos : Pos} {s : Str} {i : Int} (ha : EX X K G a (.str s)) (hb : EX X K G b (.int i)) (hi : (atI s.cps.toList i).isSome = true) (hs : PlainIx b := by exact fun _ _ => rfl) : EX X K G (.Subscript a b pos) (.str (sgn s i)) := by
  cases e : atI s.cps.toList i with
  | none => rw [e] at hi; cases hi
  | some c =>
    have : sgn s i = ⟨#[c]⟩ := by unfold sgn; rw [e]; rfl
    rw [this]
    exact ex_ixS ha hb e hs
/-- the item at a place -/
def itm {A : Type} [Inhabited A] (xs : List A) (i : Int) : A := (atI xs i).getD default
def inI {A : Type} (xs : List A) (i : Int) : Bool := (ixN xs.length i).isSome
theorem ixN_lt {n : Nat} {i : Int} {j : Nat} (h : ixN n i = some j) : j < n := (ixN_seq h).2.1
theorem atI_map {A B : Type} (f : A → B) (xs : List A) (i : Int) : atI (xs.map f) i = (atI xs i).map f := by
  unfold atI
  rw [List.length_map]
  cases e : ixN xs.length i with
  | none => rfl
  | some j =>
    show (xs.map f)[j]? = (xs[j]?).map f
    rw [List.getElem?_map]
theorem atI_itm {A : Type} [Inhabited A] {xs : List A} {i : Int} (h : inI xs i = true) : atI xs i = some (itm xs i) := by
  unfold inI at h
  unfold itm atI
  cases e : ixN xs.length i with
  | none => rw [e] at h; cases h
  | some j =>
    have hj := ixN_lt e
    show xs[j]? = some ((xs[j]?).getD default)
    rw [List.getElem?_eq_getElem hj]
    rfl
theorem x_ix {A : Type} [Inhabited A] {a b : Expr} {pos : Pos} {tu : Bool} {xs : List A} {i : Int} (f : A → Dt) (hK : ∀ j, (X j).K = K) (ha : ES X K G a tu (xs.map f)) (hb : EX X K G b (.int i)) (hi : inI xs i = true) (hs : PlainIx b := by exact fun _ _ => rfl) : EX X K G (.Subscript a b pos) (f (itm xs i)) :=
  ex_ix hK ha hb (by rw [atI_map, atI_itm hi]; rfl) hs
end
section
variable {X : Cx} {K : PySem.W.Frag} {W : WX} {sv : Sv} {G : Env} {rest : List Stmt} {o : Out} {pos : Pos}
end
end Vs

/-! Typed words: what a printed proof names. -/
namespace Vs
open PySem PySem.Spec L2

/-! ### options -/
def encO {A : Type} (f : A → Dt) : Option A → Dt
  | none => .non
  | some x => f x
def isNo {A : Type} : Option A → Bool
  | none => true
  | some _ => false
section
variable {I : Type} {X : I → Cx} {K : PySem.W.Frag} {G : Env}
theorem EN.isL {e : Expr} {ds ds' : List Dt} (h : EN X K G e (.ol ds)) (q : ds = ds') : EN X K G e (.ol ds') := q ▸ h
/-! ### lists -/
theorem x_catL {A : Type} {a b : Expr} {pos : Pos} {xs ys : List A} (f : A → Dt) (ha : EX X K G a (.lst (xs.map f))) (hb : EX X K G b (.lst (ys.map f))) (hn : xs.length + ys.length ≤ big) : EN X K G (.BinOp a .Add b pos) (.ol ((xs ++ ys).map f)) :=
  EN.isL (en_catL ha hb (by rw [List.length_map, List.length_map]; exact hn)) (by rw [List.map_append])
theorem x_sliceL {A : Type} {a : Expr} {lo hi : Option Expr} {p2 pos : Pos} {xs : List A} {l h : Option Int} (f : A → Dt) (hK : ∀ j, (X j).K = K) (ha : ES X K G a false (xs.map f)) (hl : EO X K G lo l) (hh : EO X K G hi h) : EN X K G (.Subscript a (.Slice lo hi none p2) pos) (.ol ((cut xs l h).map f)) :=
  EN.isL (en_sliceL hK ha hl hh) (cut_map f xs l h)
theorem x_len {A : Type} {e : Expr} {p pos : Pos} {tu : Bool} {xs : List A} (f : A → Dt) (hK : ∀ j, (X j).K = K) (h : ES X K G e tu (xs.map f)) (hg : ∀ j, Gl (X j) "len") (hm : ∀ j, (X j).mg "len" = none)
    (he : ∀ j, starEach [e] (X j).env = [(false, eval e (X j).env)] := by intro _; rfl) : EX X K G (.Call (.Name "len" p) [e] [] pos) (.int xs.length) :=
  (ex_len hK h hg hm he).is (by rw [List.length_map])
/-! ### in a list -/
/-! ### methods of texts -/
end
def sepOk (y : Str) : Bool := !(y.length == 0) && y.cps.all (· < 256)
def joinOk (a : Str) (ys : List Str) : Prop := (ys.map (·.length)).sum + ys.length * a.length ≤ bigS
section
variable {I : Type} {X : I → Cx} {K : PySem.W.Frag} {G : Env}
end
def mulOk (i j : Int) : Prop := (-(2 ^ 64) < i ∧ i < 2 ^ 64) ∨ (-(2 ^ 64) < j ∧ j < 2 ^ 64)
def rngOk (n : Int) : Prop := -(2 ^ 62) ≤ n ∧ n < 2 ^ 62
def rng2Ok (lo n : Int) : Prop := -(2 ^ 62) ≤ lo ∧ lo < 2 ^ 62 ∧ -(2 ^ 62) ≤ n ∧ n < 2 ^ 62
end Vs

/-! Typed words for statements, comprehensions, equality. -/
namespace Vs
open PySem PySem.Spec L2

/-! ### comprehensions -/
def lcF {A B : Type} (p : A → Bool) (f : A → B) (xs : List A) : List B := xs.filterMap fun x => if p x then some (f x) else none
theorem lcM_enc {A B : Type} (enc : B → Dt) (f : A → B) (xs : List A) : (xs.filterMap fun x => if (fun _ : A => true) x then some (enc (f x)) else none) = (List.map f xs).map enc := by
  rw [List.map_map]
  show (xs.filterMap fun x => some (enc (f x))) = _
  rw [List.filterMap_eq_map']
  rfl
section
variable {X : Cx} {K : PySem.W.Frag} {G : Env} {W : WX} {sv : Sv} {rest : List Stmt} {o : Out}
/-- en_lc with the order of printed proofs -/
theorem x_lc {I : Type} {X : I → Cx} {A : Type} {elt tg iter : Expr} {ifs : List Expr} {scope : Scope} {own : List (Str × Nat)} {pos : Pos} {g : TG} {js : List Nat} {xs : List A} (enc : A → Dt) (Gb : A → Env) (p : A → Bool) (f : A → Dt)
    (hc : ∀ i, (X i).calm = true) (hN : ∀ i, (X i).N.Nodup) (hi : ISrc X K G tg iter (xs.map enc)) (hn : xs.length ≤ big) (ok : ∀ i, BlkOk (X i).N (X i).env.scope scope own) (hjs : ∀ j ∈ js, j ∈ own.map (·.2))
    (hg : ∀ b, PG (blkX X scope b) tg g) (hB : ∀ x, Bd K g js (enc x) (wipeG G (own.map (·.2))) (Gb x))
    (ht : ∃ t : TT, (∀ i, PTs (blkX X scope i) ifs t) ∧ ∀ x, x ∈ xs → ∀ F H σ fps (Q : Bool → Hp → Prop), EnvOk K F H σ (Gb x) fps → (∀ F' H', Up F H F' H' → Q (p x) H') → t σ H Q)
    (he : ∀ x, x ∈ xs → p x = true → EX (blkX X scope) K (Gb x) elt (f x)) :
    EN X K G (.ListComp elt [⟨tg, iter, ifs, 0⟩] scope pos) (.ol (xs.filterMap fun x => if p x then some (f x) else none)) := en_lc enc Gb p f hc hN hi hn ok hjs hg hB ht he

/-! ### statements -/
theorem run_gd {T : Type} {c : Expr} {b : Bool} {thn : List Stmt} {pos : Pos} (E : T → Out) (x y : T) (hE : NoNx (E x)) (hc : EB (one X) K G c b) (h1 : b = true → Run X K W sv thn G (E x)) (h2 : b = false → Run X K W sv rest G (E y)) (ho : E (cond b x y) = o := by rfl) :
    Run X K W sv (.If c thn [] pos :: rest) G o := ho ▸ run_guard E hE hc h1 h2
theorem run_forQ {A S T R : Type} {tg iter : Expr} {g : TG} {js : List Nat} {body : List Stmt} {pos : Pos} {P : S → A → Prop} {Q : S → Prop} {s0 : S} {xs : List A} (enc : A → Dt) (Gs : S → Env) (Gb : S → A → Env) (E : T → Out) (step : S → A → Step S R) (io : R → T) (k : S → T)
    (hp : PassesOwn (model X.prog X.w) X.A X.env X.xe) (hc : X.calm = true) (hg : PG X tg g) (hv : noneIn sv.ks js = true) (hE : ∀ y, Term (E (io y)))
    (hi : ISrc (one X) K G tg iter (xs.map enc)) (h0 : Weak G (Gs s0)) (hB : ∀ s x, Bd K g js (enc x) (Gs s) (Gb s x)) (hP : LoopAll P Q step xs s0)
    (hb : ∀ s x, x ∈ xs → P s x → Run X K W sv body (Gb s x) ((step s x).out Gs fun y => E (io y)))
    (hk : ∀ s, Q s → Run X K W sv rest (Gs s) (E (k s))) (ho : E (loop step io k xs s0) = o := by rfl) : Run X K W sv (.For tg iter body [] pos :: rest) G o := ho ▸ run_for enc Gs Gb E step io k hp hc hg hv hE hi h0 hB hP hb hk
end

/-! ### a loop within a loop: what the inner one leaves is what the outer one's turn gives -/
/-! ### equality, typed -/
structure EqT {A : Type} [BEq A] (f : A → Dt) (n : Nat) : Prop where
  fl : ∀ x, (f x).flat = true
  dp : ∀ x, (f x).py.depth ≤ n
  eq : ∀ x y, PyData.eqv (f x).py (f y).py = (x == y)
theorem EqT.d {A : Type} [BEq A] {f : A → Dt} {n : Nat} (h : EqT f n) (hn : n ≤ 64) (x y : A) : EqD (f x) (f y) (x == y) := ⟨h.fl x, h.fl y, Nat.le_trans (h.dp x) hn, Nat.le_trans (h.dp y) hn, h.eq x y⟩
theorem eqt_str : EqT Dt.str 0 := ⟨fun _ => rfl, fun x => by simp [Dt.py, PyData.depth], fun x y => by simp [Dt.py, PyData.eqv]⟩
theorem eqt_bl : EqT Dt.bl 0 := ⟨fun _ => rfl, fun x => by simp [Dt.py, PyData.depth], fun x y => by simp [Dt.py, PyData.eqv]⟩
section
variable {A : Type} [BEq A] {f : A → Dt} {n : Nat}
theorem eqt_flatL (h : EqT f n) : ∀ xs : List A, Dt.flatL (xs.map f) = true
  | [] => rfl
  | x :: xs => by
    show ((f x).flat && Dt.flatL (xs.map f)) = true
    rw [h.fl x, eqt_flatL h xs]; rfl
theorem eqt_depL (h : EqT f n) : ∀ xs : List A, PyData.depthAll (Dt.pyL (xs.map f)) ≤ n
  | [] => by simp [Dt.pyL, PyData.depthAll]
  | x :: xs => by
    show PyData.depthAll ((f x).py :: Dt.pyL (xs.map f)) ≤ n
    unfold PyData.depthAll
    exact Nat.max_le.mpr ⟨h.dp x, eqt_depL h xs⟩
theorem eqt_eqL (h : EqT f n) : ∀ xs ys : List A, PyData.eqvAll (Dt.pyL (xs.map f)) (Dt.pyL (ys.map f)) = (xs == ys)
  | [], [] => by simp [Dt.pyL, PyData.eqvAll]
  | [], _ :: _ => by simp [Dt.pyL, PyData.eqvAll]
  | _ :: _, [] => by simp [Dt.pyL, PyData.eqvAll]
  | x :: xs, y :: ys => by
    show PyData.eqvAll ((f x).py :: Dt.pyL (xs.map f)) ((f y).py :: Dt.pyL (ys.map f)) = _
    unfold PyData.eqvAll
    rw [h.eq x y, eqt_eqL h xs ys]
    rfl
theorem eqt_lst (h : EqT f n) : EqT (fun xs : List A => Dt.lst (xs.map f)) (n + 1) := ⟨fun xs => eqt_flatL h xs, fun xs => by
  simp only [Dt.py]; unfold PyData.depth; exact Nat.succ_le_succ (eqt_depL h xs), fun xs ys => by
  simp only [Dt.py]; unfold PyData.eqv; exact eqt_eqL h xs ys⟩
end
end Vs

/-! Tests that are known, dict displays, lists that grow, data of any kind. -/
namespace Vs
open PySem PySem.Spec L2
section
variable {X : Cx} {K : PySem.W.Frag} {W : WX} {sv : Sv} {G : Env} {rest : List Stmt} {o : Out} {pos : Pos}
/-- a test that is known: no -/
theorem run_skip {c : Expr} {thn : List Stmt} (hc : EB (one X) K G c false) (k : Run X K W sv rest G o) : Run X K W sv (.If c thn [] pos :: rest) G o := fun F H σ fps D Eo s q =>
  ⟨tSeq (tIfS (wpT (one X) c) tNever tNext) (wpSs X rest), pss_cons (ps_if pt_w1 pss_never pss_nil) pss_wp, hc F H σ fps _ Eo fun F1 H1 u => k F1 H1 σ fps D (Eo.up u) s (q.le u.le)⟩
end
theorem units_of {A : Around} {k : Nat} (hr : Room k A) : A.units + 64 < cLine := hr.units
/-! ### dict displays -/
section
variable {I : Type} {X : I → Cx} {K : PySem.W.Frag} {G : Env}
/-! ### and, or with a known part -/
/-! ### isinstance of any data -/
def isT_str : Dt → Bool
  | .str _ => true
  | _ => false
def isT_bool : Dt → Bool
  | .bl _ => true
  | _ => false
end
section
variable {X : Cx} {K : PySem.W.Frag} {W : WX} {sv : Sv} {G : Env} {rest : List Stmt} {o : Out} {pos : Pos}
end
end Vs

/-! A law's end. -/
namespace Vs
open PySem PySem.Spec L2
/-- the end of a law over a head by facts: exceptions may fly within, and the script's numbers have no more than 2^20 bits; cs: the code objects that make lambdas, and their tables -/
theorem walkT {l : PySem.W.OpenLaw} {q : Program} {loose : List Str} {XP : (Str → Option Value) → Heap → Prop} {YP : World → Heap → Prop} {d : DefRec} {k : Nat} {x : Str} {r : List Dt → Sum Cell Xc → Prop}
    (hn : l.most = some 63) (hdf : d.params.defaults = []) (hr : Room k callerA)
    (F : ∀ (w : World) (mg : Str → Option Value) (fa : Addr) (h : Heap), YP w h → h.Ns mainGlobals mg → mg d.name = some (.ref fa) →
      ∃ (K : PySem.W.Frag) (fd : FuncData) (cs : List (Addr × Addr)), K.In h ∧ (∀ p ∈ cs, h.get? p.2 = some { cls := .none, data := .fields #[] }) ∧ (∀ p ∈ cs, K.lookup p.2 = none) ∧ (∀ p ∈ cs, PySem.W.CodeHd h p.1 p.2) ∧ (∀ P, TabAt K P → ∃ p ∈ cs, p.2 = P) ∧
        (∀ (s : Shared) (u : Value), BindsTo s fd ⟨[u], []⟩ [(x, u)]) ∧ ∀ base : Heap, K.In base → base.Ns mainGlobals mg → (∀ p ∈ cs, LamX.TabB base mg p.1 p.2) → FnOk l.prog w K mg base (L2.CX l.prog w) k fa fd [x] (spR K 1 r))
    (hR : ∀ ns : List Int, ns.length ≤ 63 → r [.scr (ns.map Dt.int)] (.inl (.fz (.bl true)))) :
    PySem.W.WalkO q loose XP YP l.row.toRowW d [] (fun f vs => PySem.call f vs) := by
  refine Att.attach_callB hn hdf fun w s₀ s₁ mg mb fa o pm cd doc a vs ns G Y ho hd hcd hmg hobj hints hlen hbits hg => ?_
  obtain ⟨K, fd, cs, KX, hT, nT, C, hTab, hb, hF⟩ := F w mg fa _ Y G.T.g hmg
  have hl : ns.length ≤ sizeLine := Nat.le_trans hlen (by rw [sizeLine_eq]; decide)
  have hInts : ∀ (H : Hp) (zs : List Int), RepL K H (zs.map V.int) (zs.map Dt.int) := fun H zs => by
    induction zs with
    | nil => exact .nil
    | cons z zs ih => exact .cons (.int z) ih
  refine LamX.law_callTs KX G.T.g G.T.b G.T.builtins G.T.nolimit hg hT nT C G.T.bmain hobj hints hl hr hF hb (fun H hH hS => ?_) fun H e s' hx => ?_
  · have hF : ∃ F : Hp, Sub F H ∧ (∀ p ∈ cs, F p.2 = none) ∧ SqL K F a (ns.map V.int) := by
      classical
      have hd : ∀ b, ∃ o : Option HO, ((∃ ps, H b = some (.tbl ps)) → o = none) ∧ ((¬ ∃ ps, H b = some (.tbl ps)) → o = H b) := fun b => by
        by_cases y : ∃ ps, H b = some (.tbl ps)
        · exact ⟨none, fun _ => rfl, fun n => absurd y n⟩
        · exact ⟨H b, fun n => absurd n y, fun _ => rfl⟩
      have hF := fun b => (hd b).choose_spec
      refine ⟨fun b => (hd b).choose, ⟨fun b o z => ?_, fun b o z hpt => ?_⟩, fun p hp => (hF p.2).1 ⟨_, hH p hp⟩, ?_⟩
      · by_cases y : ∃ ps, H b = some (.tbl ps)
        · have z : (hd b).choose = some o := z
          rw [(hF b).1 y] at z; cases z
        · have z : (hd b).choose = some o := z
          rw [(hF b).2 y] at z; exact .inl z
      · have e := (hF b).2 fun ⟨ps, y⟩ => by
          obtain ⟨ks, q⟩ := hpt
          rw [z, q] at y; cases y
        have e2 : (hd b).choose = some o := e.trans z
        show (hd b).choose ≠ none
        rw [e2]; simp
      · rcases hS with (z | ⟨ob, z⟩) | z
        · exact .inl (.inl (((hF a).2 fun ⟨ps, y⟩ => by rw [z] at y; cases y).trans z))
        · exact .inl (.inr ⟨ob, ((hF a).2 fun ⟨ps, y⟩ => by rw [z] at y; cases y).trans z⟩)
        · exact .inr z
    obtain ⟨F, hF1, hF2, hF3⟩ := hF
    refine ⟨F, [.scr (ns.map Dt.int)], _, ⟨hF1, fun P hP => ?_⟩, .cons (.scr hF3 ?_ (hInts F ns)) .nil, rfl, hR ns hlen, fun F' H' v fp u rc _ => ?_⟩
    · obtain ⟨p, hp, e⟩ := hTab P hP
      subst e
      exact ⟨hF2 p hp, NdefX.TabN.nil (hH p hp)⟩
    · rw [List.length_map]
      exact Nat.le_trans hlen (by decide)
    · cases rc.there.2
      rfl
  · obtain ⟨_, _, _, _, _, _, _, _, _, _, _, _, z⟩ := hx
    exact z.elim
/-- .. where no lambda is made -/
theorem walkW {l : PySem.W.OpenLaw} {q : Program} {loose : List Str} {XP : (Str → Option Value) → Heap → Prop} {YP : World → Heap → Prop} {d : DefRec} {k : Nat} {x : Str} {r : List Dt → Sum Cell Xc → Prop}
    (hn : l.most = some 63) (hdf : d.params.defaults = []) (hr : Room k callerA)
    (F : ∀ (w : World) (mg : Str → Option Value) (fa : Addr) (h : Heap), YP w h → h.Ns mainGlobals mg → mg d.name = some (.ref fa) →
      ∃ (K : PySem.W.Frag) (fd : FuncData), K.In h ∧ (lamB K = false ∧ lamB2 K = false) ∧ (∀ (s : Shared) (u : Value), BindsTo s fd ⟨[u], []⟩ [(x, u)]) ∧ ∀ base : Heap, K.In base → base.Ns mainGlobals mg → FnOk l.prog w K mg base (L2.CX l.prog w) k fa fd [x] (spR K 1 r))
    (hR : ∀ ns : List Int, ns.length ≤ 63 → r [.scr (ns.map Dt.int)] (.inl (.fz (.bl true)))) :
    PySem.W.WalkO q loose XP YP l.row.toRowW d [] (fun f vs => PySem.call f vs) :=
  walkT hn hdf hr (fun w mg fa h Y G e => by
    obtain ⟨K, fd, KX, hB, hb, hF⟩ := F w mg fa h Y G e
    exact ⟨K, fd, [], KX, by simp, by simp, by simp, fun P hP => (by rcases hP with z | z; (have z := z.1; rw [hB.1] at z; cases z); (have z := z.1; rw [hB.2] at z; cases z)), hb, fun base a b _ => hF base a b⟩) hR
end Vs

/-! Own cells at their places: seen, stored into. Options opened. -/
namespace Vs
open PySem PySem.Spec L2
section
variable {I : Type} {X : I → Cx} {K : PySem.W.Frag} {G : Env}
end
/-! ### what stands at a place -/
section
variable {K : PySem.W.Frag} {F H : Hp} {σ : L2.St} {G : Env} {fps : Nat → List Addr} {i : Nat} {π : List Nat} {c : Cell} {v : V}
theorem EnvOk.loc (E : EnvOk K F H σ G fps) (h : atG G i π = some c) (l : LocG H σ i π v) : ∃ fpc, RepC K F H fpc v c ∧ ∀ a ∈ fpc, Owns fps a := by
  obtain ⟨v', fpc, fps1, l', r, _, ow, _⟩ := E.take h
  obtain rfl := l.fun l'
  exact ⟨fpc, r, fun a ha => (ow a).mpr (.inr ha)⟩
end
/-! ### names of fields -/
def ixF (f : Str) : List (Str × Cell) → Option Nat
  | [] => none
  | (g, _) :: r => if g = f then some 0 else (ixF f r).map (· + 1)
section
variable {I : Type}
/-- e is the own thing at a place -/
def EP (X : I → Cx) (K : PySem.W.Frag) (G : Env) (e : Expr) (i : Nat) (π : List Nat) : Prop :=
  ∀ F H σ fps (Q : VK), EnvOk K F H σ G fps → (∀ F' H' v, Up F H F' H' → LocG H' σ i π v → Q v H') → wpE X e σ H Q
variable {X : I → Cx} {K : PySem.W.Frag} {G : Env}
theorem EP.es {e : Expr} {i : Nat} {π : List Nat} {ds : List Dt} (h : EP X K G e i π) (hg : atG G i π = some (.ol ds)) : ES X K G e false ds := fun F H σ fps Q E q =>
  h F H σ fps _ E fun F1 H1 v u l => by
    obtain ⟨fpc, r, _⟩ := (E.up u).loc hg l
    obtain ⟨p, vs, rfl, _, h2, l, r⟩ := r.ol_inv
    exact q F1 H1 p vs u (SqL.of h2) l r
theorem EP.ex {e : Expr} {i : Nat} {π : List Nat} {d : Dt} (h : EP X K G e i π) (hg : atG G i π = some (.fz d)) : EX X K G e d := fun F H σ fps Q E q =>
  h F H σ fps _ E fun F1 H1 v u l => by
    obtain ⟨fpc, r, _⟩ := (E.up u).loc hg l
    exact q F1 H1 v u r.there.2
end
section
variable {X : Cx} {K : PySem.W.Frag} {W : WX} {sv : Sv} {G : Env} {rest : List Stmt} {o : Out} {pos : Pos}
end
end Vs

/-! while; plain laws of it. -/
namespace Vs
open PySem PySem.Spec L2
/-- so many turns of a while at most -/
def wloop {S T R : Type} (test : S → Bool) (step : S → Step S R) (io : R → T) (k : S → T) : Nat → S → T
  | 0, s => k s
  | n + 1, s => cond (test s) (match step s with
    | .nx s' => wloop test step io k n s'
    | .ct s' => wloop test step io k n s'
    | .bk s' => k s'
    | .fin y => io y) (k s)
def WAll {S R : Type} (P : S → Prop) (Q : S → Prop) (test : S → Bool) (step : S → Step S R) : Nat → S → Prop
  | 0, s => False
  | n + 1, s => P s ∧ (test s = true → match step s with
    | .nx s' => WAll P Q test step n s'
    | .ct s' => WAll P Q test step n s'
    | .bk s' => Q s'
    | .fin _ => True) ∧ (test s = false → Q s)
/-- turns of a while that there may be -/
def wmost : Nat := 1000000
section
variable {S T R : Type} {test : S → Bool} {step : S → Step S R} {io : R → T} {k : S → T} {P : S → Prop} {Q : S → Prop}
end
section
variable {X : Cx} {K : PySem.W.Frag} {W : WX} {sv : Sv} {G : Env} {rest : List Stmt} {o : Out} {pos : Pos} {S T R : Type}
end
end Vs

/-! Plain laws about the words that printed mirrors use. -/
namespace Vs
open PySem PySem.Spec L2
/-- a loop that goes through, by what holds at each turn -/
theorem loop_inv {A S T R : Type} {step : S → A → Step S R} {io : R → T} {k : S → T} {P : S → A → Prop} {Q : S → Prop} (Inv : Nat → S → Prop) : ∀ (xs : List A) (n : Nat) (s : S), Inv n s →
    (∀ i x s, xs[i]? = some x → Inv (n + i) s → P s x ∧ ∃ s', (step s x = .nx s' ∨ step s x = .ct s') ∧ Inv (n + i + 1) s') → (∀ s, Inv (n + xs.length) s → Q s) →
    LoopAll P Q step xs s ∧ ∃ s', loop step io k xs s = k s' ∧ Inv (n + xs.length) s'
  | [], n, s, h0, _, hq => ⟨hq s h0, s, rfl, h0⟩
  | x :: xs, n, s, h0, hs, hq => by
    obtain ⟨hp, s', hst, h1⟩ := hs 0 x s rfl h0
    have e : n + (x :: xs).length = n + 1 + xs.length := by simp only [List.length_cons]; omega
    obtain ⟨a, s2, b, c⟩ := loop_inv (step := step) (io := io) (k := k) (P := P) (Q := Q) Inv xs (n + 1) s' h1 (fun i y t hy ht => by
      have := hs (i + 1) y t hy (by rw [show n + (i + 1) = n + 1 + i by omega]; exact ht)
      rw [show n + (i + 1) + 1 = n + 1 + i + 1 by omega] at this
      exact this) (fun t ht => hq t (by rw [e]; exact ht))
    refine ⟨⟨hp, ?_⟩, s2, ?_, by rw [e]; exact c⟩
    · rcases hst with hst | hst <;> rw [hst] <;> exact a
    · unfold loop
      rcases hst with hst | hst <;> rw [hst] <;> exact b
theorem loop_go {A S T R : Type} {step : S → A → Step S R} {io : R → T} {k : S → T} {P : S → A → Prop} {Q : S → Prop} (Inv : Nat → S → Prop) {xs : List A} {s : S} (h0 : Inv 0 s)
    (hs : ∀ i x s, xs[i]? = some x → Inv i s → P s x ∧ ∃ s', (step s x = .nx s' ∨ step s x = .ct s') ∧ Inv (i + 1) s') (hq : ∀ s, Inv xs.length s → Q s) :
    LoopAll P Q step xs s ∧ ∃ s', loop step io k xs s = k s' ∧ Inv xs.length s' := by
  have := loop_inv (step := step) (io := io) (k := k) (P := P) (Q := Q) Inv xs 0 s h0 (fun i x t hx ht => by
    rw [Nat.zero_add] at ht ⊢
    exact hs i x t hx ht) (fun t ht => hq t (by rw [Nat.zero_add] at ht; exact ht))
  rw [Nat.zero_add] at this
  exact this
theorem mem_range_get {n i x : Nat} (h : (List.range n)[i]? = some x) : x = i ∧ i < n := by
  obtain ⟨h1, h2⟩ := List.getElem?_eq_some_iff.mp h
  rw [List.getElem_range] at h2
  rw [List.length_range] at h1
  exact ⟨h2.symm, h1⟩
theorem inI_nn {A : Type} {xs : List A} {i : Int} (h0 : 0 ≤ i) (h1 : i < xs.length) : inI xs i = true := by
  unfold inI ixN
  rw [if_pos h0, if_pos h1]; rfl
theorem atI_nn {A : Type} {xs : List A} {i : Int} (h0 : 0 ≤ i) (h1 : i < xs.length) : (atI xs i).isSome = true := by
  unfold atI ixN
  rw [if_pos h0, if_pos h1]
  show (xs[i.toNat]?).isSome = true
  rw [List.getElem?_eq_getElem (by omega)]; rfl
theorem len_sgn (s : Str) (i : Int) : (sgn s i).length = 1 := rfl
/-- every sign of a text stands in another -/
def allIn (s t : Str) : Bool := s.cps.toList.all fun c => decide (c ∈ t.cps.toList)
end Vs

/-! Plain laws about texts: words, great letters, statements. -/
namespace Vs
open PySem PySem.Spec L2 TL PySem.StrLaws
def smT : Str := "abcdefghijklmnopqrstuvwxyz"
def grT : Str := "ABCDEFGHIJKLMNOPQRSTUVWXYZ"
/-- one to eight small letters -/
structure Wd (s : Str) : Prop where
  ne : 1 ≤ (tl s).length
  le : (tl s).length ≤ 8
  sm : ∀ c ∈ tl s, c ∈ tl smT
/-- one great letter -/
def Lt (s : Str) : Prop := ∃ c, c ∈ tl grT ∧ s = ⟨#[c]⟩
theorem small_lo : ∀ c ∈ tl smT, 97 ≤ c ∧ c ≤ 122 := by decide +kernel
theorem great_lo : ∀ c ∈ tl grT, 65 ≤ c ∧ c ≤ 90 := by decide +kernel
/-- a place: a thing or a letter -/
def Pl (s : Str) : Prop := Wd s ∨ Lt s
theorem Pl.len {s : Str} (h : Pl s) : 1 ≤ (tl s).length ∧ (tl s).length ≤ 8 := by
  rcases h with h | ⟨c, _, rfl⟩
  · exact ⟨h.ne, h.le⟩
  · exact ⟨Nat.le_refl 1, by show 1 ≤ 8; omega⟩
theorem Pl.hi {s : Str} (h : Pl s) : ∀ c ∈ tl s, 65 ≤ c := by
  rcases h with h | ⟨c, hc, rfl⟩
  · intro c hc
    have := small_lo c (h.sm c hc)
    omega
  · intro d hd
    have e : d = c := by
      have : tl (⟨#[c]⟩ : Str) = [c] := rfl
      rw [this] at hd
      simpa using hd
    subst e
    have := great_lo d hc
    omega
theorem Wd.hi {s : Str} (h : Wd s) : ∀ c ∈ tl s, 65 ≤ c := Pl.hi (.inl h)
/-- what stands in brackets, with its end -/
def inside (ps : List Str) : Str := Txt.join (Str.ofString ",") ps ++ Str.ofString ")"
/-- a statement without its side -/
def bare (name : Str) (ps : List Str) : Str := match ps with
  | [] => name
  | p :: r => name ++ Str.ofString "(" ++ inside (p :: r)
/-- a side -/
def Sd (s : Str) : Prop := s = Str.ofString "" ∨ s = Str.ofString "-"
structure St (p : Str × Str × List Str) : Prop where
  sd : Sd p.1
  wd : Wd p.2.1
  two : p.2.2.length ≤ 2
  pl : ∀ x ∈ p.2.2, Pl x
def stT (p : Str × Str × List Str) : Str := p.1 ++ bare p.2.1 p.2.2
def openT : List Str → Str
  | [] => Str.ofString ""
  | _ :: _ => Str.ofString "("
def tailT : List Str → Str
  | [] => Str.ofString ""
  | p :: r => inside (p :: r)
theorem ch_len (s : String) {n : Nat} (h : (s.toList).length = n) : (Str.ofString s).length = n := by
  rw [len_tl, tl_ofString, List.length_map, h]
end Vs

/-! Dicts: seen, own, copied, told alike. -/
namespace Vs
open PySem PySem.Spec L2
/-- the pairs of a dict -/
def encK {κ A : Type} (g : κ → Key) (f : A → Dt) (kvs : List (κ × A)) : List (Key × Dt) := kvs.map fun z => (g z.1, f z.2)
def gets {κ A : Type} [DecidableEq κ] : List (κ × A) → κ → Option A
  | [], _ => none
  | p :: r, k => if p.1 = k then some p.2 else gets r k
def puts {κ A : Type} [DecidableEq κ] : List (κ × A) → κ → A → List (κ × A)
  | [], k, a => [(k, a)]
  | p :: r, k, a => if p.1 = k then (p.1, a) :: r else p :: puts r k a
theorem mem_puts {κ A : Type} [DecidableEq κ] {k : κ} {a : A} : ∀ {kvs : List (κ × A)} {z : κ × A}, z ∈ puts kvs k a → z = (k, a) ∨ z ∈ kvs
  | [], z, h => .inl (by simpa [puts] using h)
  | p :: r, z, h => by
    unfold puts at h
    split at h
    · rename_i e
      rcases List.mem_cons.mp h with h | h
      · exact .inl (by rw [h, e])
      · exact .inr (List.mem_cons_of_mem _ h)
    · rcases List.mem_cons.mp h with h | h
      · exact .inr (by rw [h]; exact List.mem_cons_self)
      · rcases mem_puts h with h | h
        · exact .inl h
        · exact .inr (List.mem_cons_of_mem _ h)
theorem puts_nodup {κ A : Type} [DecidableEq κ] {k : κ} {a : A} : ∀ {kvs : List (κ × A)}, (kvs.map (·.1)).Nodup → ((puts kvs k a).map (·.1)).Nodup
  | [], _ => by simp [puts]
  | p :: r, h => by
    rw [List.map_cons, List.nodup_cons] at h
    unfold puts
    split
    · rw [List.map_cons, List.nodup_cons]; exact h
    · rename_i e
      rw [List.map_cons, List.nodup_cons]
      refine ⟨fun hm => ?_, puts_nodup h.2⟩
      obtain ⟨z, hz, hz'⟩ := List.mem_map.mp hm
      rcases mem_puts hz with rfl | hz
      · exact e hz'.symm
      · exact h.1 (List.mem_map.mpr ⟨z, hz, hz'⟩)
section
variable {κ A : Type} [DecidableEq κ] {g : κ → Key} (hg : ∀ a b, g a = g b → a = b) {f : A → Dt} {K : PySem.W.Frag} {F : Hp}
include hg
end
/-- data whose value is one and flat -/
structure FlatD {A : Type} (f : A → Dt) : Prop where
  fl : ∀ K F v a, Rep K F v (f a) → flatB v = true
  un : ∀ K F v w a, Rep K F v (f a) → Rep K F w (f a) → v = w
/-- does it stand there? -/
def hasK {κ A : Type} [DecidableEq κ] (kvs : List (κ × A)) (k : κ) : Bool := (gets kvs k).isSome
abbrev keyD : Key → Dt
  | .inl i => .int i
  | .inr s => .str s
section
variable {I : Type}
/-- e gives a dict that is seen -/
def ED (X : I → Cx) (K : PySem.W.Frag) (G : Env) (e : Expr) (ds : List (Key × Dt)) : Prop :=
  ∀ F H σ fps (Q : VK), EnvOk K F H σ G fps → (∀ F' H' p vs, Up F H F' H' → Rd H' p (.dK vs) → vs.length ≤ big → RepK K F' vs ds → (vs.map (·.1)).Nodup → Q (.ref p) H') → wpE X e σ H Q
variable {X : I → Cx} {K : PySem.W.Frag} {G : Env}
theorem Up.rd {F H F' H' : Hp} (u : Up F H F' H') {a : Addr} {o : HO} (h : Rd H a o) (n : nT o = true := by rfl) : Rd H' a o := by
  rcases h with h | ⟨b, h⟩
  · exact .inl (u.hp.h h n)
  · exact .inr ⟨b, u.hp.h h⟩
section
variable {κ A : Type} [DecidableEq κ] {g : κ → Key} {kvs : List (κ × A)} {k : κ} (f : A → Dt) (hgi : ∀ a b, g a = g b → a = b) (hk : ∀ F v, Rep K F v (match g k with | .inl i => .int i | .inr s => .str s) → v = kV (g k))
include hgi hk
end
def dSame {κ A : Type} (xs ys : List (κ × A)) : Prop := xs = ys
end
section
variable {X : Cx} {K : PySem.W.Frag} {W : WX} {sv : Sv} {G : Env} {rest : List Stmt} {o : Out} {pos : Pos}
end
end Vs

/-! Objects of own classes: made, read, asked for their class, their methods. -/
namespace Vs
open PySem PySem.Spec L2
/-! ### what a class says -/
structure ClF (K : PySem.W.Frag) (C : Str) : Prop where
  cls : Cls K (He.ga K C)
  ca : PySem.W.findIn K (.ref (He.ga K C)) "__class__" = some (some (.builtin "object.__class__"))
  mr : PySem.W.mroIn K (He.ga K C) (.type "object") = some true
  cn : PySem.W.specialIn K (.builtin "object.__class__") "__get__" = some (some (.builtin "getset_descriptor.__get__"))
  ct : PySem.W.takesIn K (.builtin "object.__class__") = some true
/-- the class's own names are read plainly -/
structure ClRd (K : PySem.W.Frag) (C : Addr) (mc : Value) : Prop where
  rd : PySem.W.readsIn K C mc = true
  ga : PySem.W.specialIn K (.ref C) "__getattribute__" = some (some (.builtin "type.__getattribute__"))
/-- C.m, read of the class -/
structure SupF (K : PySem.W.Frag) (C m : Str) : Prop where
  rd : ClRd K (He.ga K C) (.type "type")
  at_ : PySem.W.findCls K (.ref (He.ga K C)) (.type "type") m = some (.val (.ref (He.ma K (He.ga K C) m)))
  kp : PySem.W.keepIn K (.ref (He.ma K (He.ga K C) m)) = true
/-- is an object of the class C one of D? -/
def IsF (K : PySem.W.Frag) (C D : Str) (b : Bool) : Prop := PySem.W.kitOne K (.ref (He.ga K C)) (.ref (He.ga K D)) = some b
theorem isB_ok {K : PySem.W.Frag} {C D : Str} {b : Bool} (h : isB K C D b = true) : IsF K C D b := by
  unfold IsF
  exact of_decide_eq_true h

/-! ### fields -/
def putD (f : Str) (d : Dt) : List (Str × Dt) → List (Str × Dt)
  | [] => [(f, d)]
  | (g, x) :: r => if g = f then (g, d) :: r else (g, x) :: putD f d r
section
variable {K : PySem.W.Frag} {F : Hp}
theorem repF_get {f : Str} {d : Dt} : ∀ {vs : List (Str × V)} {fs : List (Str × Dt)}, RepF K F vs fs → fs.lookup f = some d → ∃ v, vs.lookup f = some v ∧ Rep K F v d
  | _, _, .nil, h => by cases h
  | _, _, .cons (k := g) q r, h => by
    rw [List.lookup_cons] at h ⊢
    by_cases e : (f == g) = true
    · rw [e] at h ⊢
      cases h
      exact ⟨_, rfl, q⟩
    · have e' : (f == g) = false := by simpa using e
      rw [e'] at h ⊢
      exact repF_get r h
end
section
variable {I : Type} {X : I → Cx} {K : PySem.W.Frag} {G : Env} {P : Program} {w : World} {mg : Str → Option Value} {base : Heap}
/-! ### methods -/
structure CalleeM (P : Program) (w : World) (K : PySem.W.Frag) (mg : Str → Option Value) (base : Heap) (C m : Str) (k n : Nat) (r : List Dt → Sum Cell Xc → Prop) : Prop where
  ex : ∃ f fd ps, FnOk P w K mg base (L2.CX P w) k f fd ps (spR K n r) ∧ Meth K (He.ga K C) m f ∧ Binds K fd ps []
end
end Vs

/-! Tuples put together, texts in order, what a head asks of classes. -/
namespace Vs
open PySem PySem.Spec L2
section
variable {I : Type} {X : I → Cx} {K : PySem.W.Frag} {G : Env}
def ltS (i j : Str) : Bool := decide (i.cps.toList < j.cps.toList)
end
theorem CalleeM.up {P : Program} {w : World} {K : PySem.W.Frag} {mg : Str → Option Value} {base : Heap} {C m : Str} {k k' n : Nat} {r : List Dt → Sum Cell Xc → Prop} (c : CalleeM P w K mg base C m k n r) (h : k ≤ k') : CalleeM P w K mg base C m k' n r := by
  obtain ⟨f, fd, ps, h1, h2, h3⟩ := c.ex
  exact ⟨f, fd, ps, h1.mono h, h2, h3⟩
/-! ### what a head asks beside the kit's facts -/
theorem nolam_ok {K : PySem.W.Frag} (h : Ya.nolam.ok K = true) : lamB K = false ∧ lamB2 K = false := by
  have z : (!lamB K && !lamB2 K) = true := h
  cases e : lamB K with
  | false => cases e2 : lamB2 K with
    | false => exact ⟨rfl, rfl⟩
    | true => rw [e, e2] at z; cases z
  | true => rw [e] at z; cases z
theorem SaysY.ya {fa : List He.Fa} {fn : List He.DefD} {ya : List Ya} {K : PySem.W.Frag} (c : SaysY fa fn ya K) (i : Nat) {y : Ya} (h : ya[i]? = some y := by rfl) : y.ok K = true := List.all_eq_true.mp c.2 y (List.mem_of_getElem? h)
end Vs

/-! What is owned, handed to one expression that keeps nothing of it. -/
namespace Vs
open PySem PySem.Spec L2
/-- a list or a dict -/
def isCo : HO → Bool
  | .lst _ => true
  | .dK _ => true
  | .dT _ => true
  | _ => false
mutual
def noL : Dt → Bool
  | .non => true
  | .bl _ => true
  | .int _ => true
  | .str _ => true
  | .tup xs => noLs xs
  | .ins _ fs => noLf fs
  | _ => false
def noLs : List Dt → Bool
  | [] => true
  | d :: ds => noL d && noLs ds
def noLf : List (Str × Dt) → Bool
  | [] => true
  | (_, d) :: ds => noL d && noLf ds
end
def noLk : List (Key × Dt) → Bool
  | [] => true
  | (_, d) :: ds => noL d && noLk ds
section
variable {K : PySem.W.Frag} {F F' : Hp} (e : ∀ a o, F a = some o → isCo o = false → F' a = some o)
include e
mutual
theorem Rep.noC : ∀ {v : V} {d : Dt}, Rep K F v d → noL d = true → Rep K F' v d
  | _, _, .non, _ => .non
  | _, _, .bl b, _ => .bl b
  | _, _, .int i, _ => .int i
  | _, _, .str s h, _ => .str s h
  | _, _, .tup h l r, n => .tup (e _ _ h rfl) l (RepL.noC r (by unfold noL at n; exact n))
  | _, _, .ins h r, n => .ins (e _ _ h rfl) (RepF.noC r (by unfold noL at n; exact n))
  | _, _, .lst _ _ _, n => by unfold noL at n; cases n
  | _, _, .dic _ _ _ _, n => by unfold noL at n; cases n
  | _, _, .dit _ _ _ _, n => by unfold noL at n; cases n
  | _, _, .scr _ _ _, n => by unfold noL at n; cases n
  | _, _, .xc _ _ _, n => by unfold noL at n; cases n
theorem RepL.noC : ∀ {v : List V} {d : List Dt}, RepL K F v d → noLs d = true → RepL K F' v d
  | _, _, .nil, _ => .nil
  | _, _, .cons h r, n => by
    unfold noLs at n
    obtain ⟨n1, n2⟩ := Bool.and_eq_true_iff.mp n
    exact .cons (Rep.noC h n1) (RepL.noC r n2)
theorem RepF.noC : ∀ {v : List (Str × V)} {d : List (Str × Dt)}, RepF K F v d → noLf d = true → RepF K F' v d
  | _, _, .nil, _ => .nil
  | _, _, .cons h r, n => by
    unfold noLf at n
    obtain ⟨n1, n2⟩ := Bool.and_eq_true_iff.mp n
    exact .cons (Rep.noC h n1) (RepF.noC r n2)
end
theorem RepK.noC : ∀ {v : List (Key × V)} {d : List (Key × Dt)}, RepK K F v d → noLk d = true → RepK K F' v d
  | _, _, .nil, _ => .nil
  | _, _, .cons o h r, n => by
    unfold noLk at n
    obtain ⟨n1, n2⟩ := Bool.and_eq_true_iff.mp n
    exact .cons o (Rep.noC e h n1) (RepK.noC r n2)
end
/-- a list or a dict of its own -/
def flatC : Cell → Bool
  | .ol _ => true
  | .od _ => true
  | .odt _ => true
  | _ => false
section
variable {K : PySem.W.Frag} {F H : Hp} {σ : L2.St} {G : Env} {fps : Nat → List Addr} {i : Nat} {π : List Nat} {c : Cell} {d0 : Dt}
end
section
variable {I : Type} {X : I → Cx} {K : PySem.W.Frag} {G G' : Env}
end
end Vs

/-! Calls that are handed own things, own objects. -/
namespace Vs
open PySem PySem.Spec L2

/-! ### fields of own objects -/
section
variable {I : Type} {X : I → Cx} {K : PySem.W.Frag} {G : Env}
end

/-! ### own things handed over -/
/-- a def that may be handed own things: what it answers or raises, and what the things are then -/
def spB (K : PySem.W.Frag) (n : Nat) (r : List Cell → Sum Cell Xc → List Cell → Prop) : Sp := fun vs H Q E => ∃ (F : Hp) (cs : List Cell) (a : Sum Cell Xc) (outs : List Cell) (fp : List Addr), (Sub F H ∧ Tb K F H) ∧ RepCL K F H fp vs cs ∧ (∀ b ∈ fp, F b = none ∧ H b ≠ none) ∧ cs.length = n ∧ r cs a outs ∧ (match a with
  | .inl c => ∀ (F' H' : Hp) (v : V) (fq fp' : List Addr), Le (fun b => b ∈ fp) F H F' H' (fun b => b ∈ fq ∨ b ∈ fp') → Sub F' H' → RepC K F' H' fq v c → RepCL K F' H' fp' vs outs → (∀ b ∈ fq, F' b = none ∧ H' b ≠ none ∧ b ∉ fp') → (∀ b ∈ fp', F' b = none ∧ H' b ≠ none) → Q v H'
  | .inr x => ∀ (F' H' : Hp) (d : Option Addr) (fp' : List Addr), Le (fun b => b ∈ fp) F H F' H' (fun b => b ∈ fp') → Sub F' H' → XRep K F' d x.fs → RepCL K F' H' fp' vs outs → (∀ b ∈ fp', F' b = none ∧ H' b ≠ none) → E (.ref (He.ga K x.cls)) d H')
structure CalleeB (P : Program) (w : World) (K : PySem.W.Frag) (mg : Str → Option Value) (base : Heap) (x : Str) (k n : Nat) (r : List Cell → Sum Cell Xc → List Cell → Prop) : Prop where
  ex : ∃ f fd ps, FnOk P w K mg base (L2.CX P w) k f fd ps (spB K n r) ∧ mg x = some (.ref f) ∧ PySem.W.keepIn K (.ref f) = true ∧ Binds K fd ps []
structure CalleeBM (P : Program) (w : World) (K : PySem.W.Frag) (mg : Str → Option Value) (base : Heap) (C m : Str) (k n : Nat) (r : List Cell → Sum Cell Xc → List Cell → Prop) : Prop where
  ex : ∃ f fd ps, FnOk P w K mg base (L2.CX P w) k f fd ps (spB K n r) ∧ Meth K (He.ga K C) m f ∧ Binds K fd ps []
theorem CalleeBM.up {P : Program} {w : World} {K : PySem.W.Frag} {mg : Str → Option Value} {base : Heap} {C m : Str} {k k' n : Nat} {r : List Cell → Sum Cell Xc → List Cell → Prop} (c : CalleeBM P w K mg base C m k n r) (h : k ≤ k') : CalleeBM P w K mg base C m k' n r := by
  obtain ⟨f, fd, ps, h1, h2, h3⟩ := c.ex
  exact ⟨f, fd, ps, h1.mono h, h2, h3⟩

/-! ### a def that is handed own things: its body -/
/-- the cells at the entry -/
def startC (N : List Str) (cs : List Cell) : Env := cs.map some ++ List.replicate (N.length - cs.length) none
def Cell.isFz : Cell → Bool
  | .fz _ => true
  | _ => false
def headC : Env → Cell
  | some c :: _ => c
  | _ => .hl .non
def hasC : Env → Bool
  | some _ :: _ => true
  | _ => false
/-- what the things are at the end: data as it was -/
def outsOf : List Cell → Env → List Cell
  | [], _ => []
  | c :: cs, G => (cond c.isFz c (headC G)) :: outsOf cs G.tail
/-- the slots of the own ones -/
def ownIx : List Cell → Nat → List Nat
  | [], _ => []
  | c :: cs, n => cond c.isFz (ownIx cs (n + 1)) (n :: ownIx cs (n + 1))
/-- each own one has a cell at the end -/
def allOut : List Cell → Env → Bool
  | [], _ => true
  | c :: cs, G => (c.isFz || hasC G) && allOut cs G.tail
inductive OutB : Out → Sum Cell Xc → Env → Prop
  | rt (c : Cell) (G : Env) : OutB (.rt c (some G)) (.inl c) G
  | nx (G : Env) : OutB (.nx G) (.inl (.fz .non)) G
  | xc (x : Xc) (G : Env) : OutB (.xc x G) (.inr x) G
theorem RepCL.get {K : PySem.W.Frag} {F H : Hp} : ∀ {fp : List Addr} {vs : List V} {cs : List Cell}, RepCL K F H fp vs cs → ∀ {i : Nat} {c : Cell}, cs[i]? = some c → ∃ v fpi, vs[i]? = some v ∧ RepC K F H fpi v c ∧ (∀ a ∈ fpi, a ∈ fp)
  | _, _, _, .nil, i, c, h => by simp at h
  | _, _, _, .cons r rs d, 0, c, h => by
    simp at h; subst h
    exact ⟨_, _, rfl, r, fun a ha => List.mem_append_left _ ha⟩
  | _, _, _, .cons r rs d, i + 1, c, h => by
    obtain ⟨v, fpi, h1, h2, h3⟩ := rs.get (i := i) (c := c) (by simpa using h)
    exact ⟨v, fpi, by simpa using h1, h2, fun a ha => List.mem_append_right _ (h3 a ha)⟩
/-- the footprints, slot by slot -/
theorem RepCL.fps {K : PySem.W.Frag} {F H : Hp} : ∀ {fp : List Addr} {vs : List V} {cs : List Cell}, RepCL K F H fp vs cs → ∃ fps : Nat → List Addr, (∀ i c, cs[i]? = some c → ∃ v, vs[i]? = some v ∧ RepC K F H (fps i) v c) ∧ (∀ i a, a ∈ fps i → a ∈ fp) ∧ (∀ i j a, a ∈ fps i → a ∈ fps j → i = j) ∧ (∀ a ∈ fp, ∃ i, a ∈ fps i)
  | _, _, _, .nil => ⟨fun _ => [], fun i c h => by simp at h, (fun i a h => by cases h), (fun i j a h => by cases h), (fun a h => by cases h)⟩
  | _, _, _, .cons (v := v) (c := c) (fp := fpa) (fq := fqa) r rs d => by
    obtain ⟨fps, h1, h2, h3, h4⟩ := rs.fps
    refine ⟨fun i => match i with | 0 => fpa | i + 1 => fps i, fun i c' h => ?_, fun i a h => ?_, fun i j a h h' => ?_, fun a h => ?_⟩
    · cases i with
      | zero => simp at h; subst h; exact ⟨v, rfl, r⟩
      | succ i => exact h1 i c' (by simpa using h)
    · cases i with
      | zero => exact List.mem_append_left _ h
      | succ i => exact List.mem_append_right _ (h2 i a h)
    · cases i with
      | zero => cases j with
        | zero => rfl
        | succ j => exact absurd (h2 j a h') (d a h)
      | succ i => cases j with
        | zero => exact absurd (h2 i a h) (d a h')
        | succ j => exact congrArg (· + 1) (h3 i j a h h')
    · rcases List.mem_append.mp h with h | h
      · exact ⟨0, h⟩
      · obtain ⟨i, hi⟩ := h4 a h
        exact ⟨i + 1, hi⟩
section
variable {P : Program} {w : World} {K : PySem.W.Frag} {mg : Str → Option Value} {base : Heap}
end
end Vs

/-! The caller's side: own things lent, what an expression changes. -/
namespace Vs
open PySem PySem.Spec L2
/-- an argument: data, or the own thing at a place -/
inductive Ag where
  | fz (d : Dt)
  | ow (i : Nat) (π : List Nat) (c : Cell)
def Ag.cell : Ag → Cell
  | .fz d => .fz d
  | .ow _ _ c => c
/-- the slots lent -/
def Ag.ixs : List Ag → List Nat
  | [] => []
  | .fz _ :: as => Ag.ixs as
  | .ow i _ _ :: as => i :: Ag.ixs as
/-- the things stand there, in unlike slots -/
def AgOk (G : Env) : List Ag → Prop
  | [] => True
  | .fz _ :: as => AgOk G as
  | .ow i π c :: as => atG G i π = some c ∧ noneIn [i] (Ag.ixs as) = true ∧ AgOk G as
/-- the cells behind -/
def outG (G : Env) : List Ag → List Cell → Env
  | [], _ => G
  | .fz _ :: as, cs => outG G as cs.tail
  | .ow i π _ :: as, cs => outG (updG G i π (match cs with | c :: _ => c | [] => .hl .non)) as cs.tail
inductive AgRep (K : PySem.W.Frag) (F H : Hp) (σ : L2.St) : List V → List Ag → Prop
  | nil : AgRep K F H σ [] []
  | fz {v : V} {d : Dt} {vs : List V} {as : List Ag} : Rep K F v d → AgRep K F H σ vs as → AgRep K F H σ (v :: vs) (.fz d :: as)
  | ow {v : V} {i : Nat} {π : List Nat} {c : Cell} {vs : List V} {as : List Ag} : LocG H σ i π v → AgRep K F H σ vs as → AgRep K F H σ (v :: vs) (.ow i π c :: as)
theorem AgRep.mono {K : PySem.W.Frag} {F H F' H' : Hp} {σ : L2.St} (e : Ex F F') (h : ExH H H') : ∀ {vs : List V} {as : List Ag}, AgRep K F H σ vs as → AgRep K F' H' σ vs as
  | _, _, .nil => .nil
  | _, _, .fz r rs => .fz (r.mono e) (rs.mono e h)
  | _, _, .ow l rs => .ow (l.mono h) (rs.mono e h)
theorem AgRep.len {K : PySem.W.Frag} {F H : Hp} {σ : L2.St} : ∀ {vs : List V} {as : List Ag}, AgRep K F H σ vs as → vs.length = as.length
  | _, _, .nil => rfl
  | _, _, .fz _ rs => congrArg (· + 1) rs.len
  | _, _, .ow _ rs => congrArg (· + 1) rs.len
theorem AgOk.ne {G : Env} {i : Nat} {π : List Nat} {x : Cell} : ∀ {as : List Ag}, AgOk G as → (∀ j ∈ Ag.ixs as, j ≠ i) → AgOk (updG G i π x) as
  | [], _, _ => trivial
  | .fz _ :: as, h, n => AgOk.ne (as := as) h n
  | .ow j ρ c :: as, h, n => ⟨by rw [atG_ne (fun z => n j (by simp [Ag.ixs]) z.symm)]; exact h.1, h.2.1, AgOk.ne (as := as) h.2.2 fun m hm => n m (by simp [Ag.ixs, hm])⟩
section
variable {K : PySem.W.Frag}
end

/-! ### judgements -/
section
variable {X : Cx} {K : PySem.W.Frag} {W : WX} {G : Env}
/-- arguments, own ones by their places -/
def EAB (X : Cx) (K : PySem.W.Frag) (G : Env) (es : List Expr) (as : List Ag) : Prop :=
  ∀ F H σ fps (Q : List V → Hp → Prop), EnvOk K F H σ G fps → (∀ F' H' vs, Up F H F' H' → AgRep K F' H' σ vs as → Q vs H') → wpA (one X) es σ H Q
/-- e gives the cell c; the names' cells are then G' -/
def EV (X : Cx) (K : PySem.W.Frag) (G : Env) (e : Expr) (c : Cell) (G' : Env) : Prop :=
  ∀ F H σ fps (Q : VK), EnvOk K F H σ G fps → (∀ F' H' v fq fps', EnvOk K F' H' σ G' fps' → Le (Owns fps) F H F' H' (fun a => a ∈ fq ∨ Owns fps' a) → RepC K F' H' fq v c → (∀ a ∈ fq, F' a = none ∧ H' a ≠ none ∧ ¬ Owns fps' a) → Q v H') → wpE (one X) e σ H Q
theorem EN.ev {e : Expr} {c : Cell} (h : EN (one X) K G e c) : EV X K G e c G := fun F H σ fps Q E q => h F H σ fps Q E fun F' H' v fp u r n =>
  q F' H' v fp fps (E.up u) ⟨u.fr, u.hp.imp fun _ z => z.elim, fun a _ z z' => u.nw a z z', fun a z => z.elim (fun y => .inr (n a y).1) .inl⟩ r fun a ha => ⟨(n a ha).2.1, (n a ha).2.2, fun z => (E.ownF z).2 (n a ha).1⟩
theorem EX.ev {e : Expr} {d : Dt} (h : EX (one X) K G e d) : EV X K G e (.fz d) G := h.en.ev
variable {P : Program} {w : World} {mg : Str → Option Value} {base : Heap}
/-! ### making -/
structure CalleeBI (P : Program) (w : World) (K : PySem.W.Frag) (mg : Str → Option Value) (base : Heap) (C : Str) (k n : Nat) (r : List Cell → Sum Cell Xc → List Cell → Prop) : Prop where
  ex : ∃ fd ps, FnOk P w K mg base (L2.CX P w) k (He.ma K (He.ga K C) "__init__") fd ps (spB K n r) ∧ Binds K fd ps []
end
end Vs

/-! Statements of expressions that may change own things. -/
namespace Vs
open PySem PySem.Spec L2
section
variable {I : Type} {X : I → Cx} {K : PySem.W.Frag} {G : Env}
/-- a new cell is frozen -/
theorem EN.frz {e : Expr} {c : Cell} {d : Dt} (h : EN X K G e c) (hd : c.data = some d) : EX X K G e d := fun F H σ fps Q E q =>
  h F H σ fps Q E fun F1 H1 v fp u r n => by
    have n1 : ∀ a ∈ fp, F1 a = none := fun a ha => (n a ha).2.1
    have ex := frz_ex (H := H1) n1
    refine q (Vs.frz F1 H1 fp) H1 v ⟨u.fr.trans ex, u.hp, fun a z z' => ?_, frz_sub u.sb⟩ (r.frozen ex (fun a ha => frz_in ha) hd)
    by_cases m : a ∈ fp
    · exact absurd (n a m).1 z'
    · rw [frz_out m]; exact u.nw a z z'
end
section
variable {X : Cx} {K : PySem.W.Frag} {W : WX} {sv : Sv} {G : Env} {rest : List Stmt} {o : Out} {pos : Pos}
/-- x = e -/
theorem run_asgE {B : Type} {i : Nat} {x : Str} {e : Expr} {pos' : Pos} (v : B) (enc : B → Cell) (G1 Gk : B → Env) (oF : B → Out) (P : B → Prop) (h : EV X K G e (enc v) (G1 v)) (hp : P v) (hN : X.N.Nodup) (hG : ∀ y, (G1 y).set i (some (enc y)) = Gk y) (k : ∀ y, P y → Run X K W sv rest (Gk y) (oF y))
    (hi : X.N[i]? = some x := by rfl) (hx : Loc X.env.scope x := by first | exact Or.inl rfl | exact Or.inr rfl) (hl : Nat.blt i (G1 v).length = true := by rfl) (hv : memN sv.ks i = false := by rfl)
    (hs : swapsWith e (some (.Name x pos')) pos.line X.env = pure false := by rfl) (hf : X.fn x = true ∨ X.env.scope.names.lookup x = some .local := by first | exact .inl rfl | exact .inr rfl | assumption) (ho : oF v = o := by rfl) :
    Run X K W sv (.Assign [.Name x pos'] e pos :: rest) G o := ho ▸ fun F H σ fps D E s q =>
  ⟨tSeq (tAsg (wpE (one X) e) (gName i)) (wpSs X rest), pss_cons (ps_set hN hi hx pe_w1 hs hf) pss_wp, h F H σ fps _ E fun F1 H1 u fq fps1 E1 l r n => by
    have E2 := E1.set (i := i) (v := u) (Nat.blt_eq.mp hl) r (fun a ha => ⟨(n a ha).1, (n a ha).2.1⟩) fun a ha j _ z => (n a ha).2.2 ⟨j, z⟩
    rw [hG v] at E2
    exact k v hp F1 H1 _ _ D E2 (s.set hv) (q.le ⟨l.fr, l.hp, l.nw, fun a z => l.ow a (owns_put z)⟩)⟩
/-! ### fields of own objects are set -/
def putC (f : Str) (c : Cell) : List (Str × Cell) → List (Str × Cell)
  | [] => [(f, c)]
  | (g, x) :: r => if g = f then (g, c) :: r else (g, x) :: putC f c r
end
end Vs

/-! Methods asked of a class, tests that change own things, setdefault. -/
namespace Vs
open PySem PySem.Spec L2
section
variable {X : Cx} {K : PySem.W.Frag} {W : WX} {G : Env} {P : Program} {w : World} {mg : Str → Option Value} {base : Heap}
end
section
variable {I : Type} {X : I → Cx} {K : PySem.W.Frag} {G : Env} {P : Program} {w : World} {mg : Str → Option Value} {base : Heap}
end
abbrev Zf (d : Dt) : Option Cell := some (.fz d)
end Vs

/-! Statements for printed proofs, with the cells behind written out. -/
namespace Vs
open PySem PySem.Spec L2
section
variable {X : Cx} {K : PySem.W.Frag} {W : WX} {sv : Sv} {G : Env} {rest : List Stmt} {o : Out} {pos : Pos}
theorem run_asgQ {i : Nat} {x : Str} {e : Expr} {pos' : Pos} {c : Cell} {Gk : Env} (h : EV X K G e c G) (hN : X.N.Nodup) (hG : G.set i (some c) = Gk) (k : Run X K W sv rest Gk o)
    (hi : X.N[i]? = some x := by rfl) (hx : Loc X.env.scope x := by first | exact Or.inl rfl | exact Or.inr rfl) (hl : Nat.blt i G.length = true := by rfl) (hv : memN sv.ks i = false := by rfl)
    (hs : swapsWith e (some (.Name x pos')) pos.line X.env = pure false := by rfl) (hf : X.fn x = true ∨ X.env.scope.names.lookup x = some .local := by first | exact .inl rfl | exact .inr rfl | assumption) :
    Run X K W sv (.Assign [.Name x pos'] e pos :: rest) G o := run_asgE (B := Unit) () (fun _ => c) (fun _ => G) (fun _ => Gk) (fun _ => o) (fun _ => True) h trivial hN (fun _ => hG) (fun _ _ => k) hi hx hl hv hs hf rfl
end
/-! ### dict.clear, list.extend -/
def rClrD : V → List V → Hp → VK → Prop := fun v ws H Q => ∃ (p : Addr) (ps : List (Key × V)), v = .ref p ∧ ws = [] ∧ H p = some (.dK ps) ∧ Q .non (upd H p (.dK []))
def rExtendT : V → List V → Hp → VK → Prop := fun x vs H Q => ∃ l b xs zs, x = .ref l ∧ vs = [.ref b] ∧ H l = some (.lst xs) ∧ H b = some (.tup zs) ∧ xs.length + zs.length ≤ sizeLine ∧ Q .non (upd H l (.lst (xs ++ zs)))
section
variable {X : Cx} {K : PySem.W.Frag} {W : WX} {sv : Sv} {G : Env} {rest : List Stmt} {o : Out} {pos : Pos}
end
end Vs

/-! Plain laws that many laws' mathematics share. -/
namespace Vs
open PySem PySem.Spec L2 TL PySem.StrLaws
theorem mod_nn (x : Int) {n : Int} (h : 0 < n) : 0 ≤ x % n ∧ x % n < n := ⟨Int.emod_nonneg x (by omega), Int.emod_lt_of_pos x h⟩
theorem lenS (s : String) {n : Nat} (h : (s.toList).length = n) : (Str.ofString s).length = n := ch_len s h
end Vs

/-! list(reversed(..)), dicts compared, counted, listed. -/
namespace RT
open PySem PySem.Spec PyProof.Rows L2
section
variable {prog : Program} {w : World} {A : Around} {E : Value → Shared → Prop} {s : Shared}
end
def tListRev (K : PySem.W.Frag) (te : TE) : TE := fun σ H Q => te σ H fun v H1 => ∃ (a : Addr) (xs : List V), v = .ref a ∧ SqL K H1 a xs ∧ ∀ q, H1 q = none → Q (.ref q) (upd H1 q (.lst xs.reverse))
section
variable {X : Cx}
end
end RT

/-! Dicts: counted, listed, compared, walked. list(reversed(..)). -/
namespace Vs
open PySem PySem.Spec L2
theorem RepL.reverse {K : PySem.W.Frag} {F : Hp} : ∀ {vs : List V} {ds : List Dt}, RepL K F vs ds → RepL K F vs.reverse ds.reverse
  | _, _, .nil => .nil
  | _, _, .cons h r => by
    rw [List.reverse_cons, List.reverse_cons]
    exact r.reverse.append (.cons h .nil)
section
variable {I : Type} {X : I → Cx} {K : PySem.W.Frag} {G : Env}
end

/-! ### dicts compared -/
def dAll {κ A : Type} [DecidableEq κ] [BEq A] (ys : List (κ × A)) : List (κ × A) → Bool
  | [] => true
  | p :: r => match gets ys p.1 with
    | none => false
    | some y => (p.2 == y) && dAll ys r
/-- the same keys with the same data, in whatever order -/
def dEq {κ A : Type} [DecidableEq κ] [BEq A] (xs ys : List (κ × A)) : Bool := (xs.length == ys.length) && dAll ys xs
section
variable {X : Cx} {pins : List (Addr × Obj)} {σ : L2.St} {H F : Hp} {s : Shared} {κ A : Type} [DecidableEq κ] [BEq A] {g : κ → Key} {f : A → Dt} {n : Nat}
end
section
variable {I : Type} {X : I → Cx} {K : PySem.W.Frag} {G : Env} {κ A : Type} [DecidableEq κ] [BEq A] {g : κ → Key} {f : A → Dt} {n : Nat} {a b : Expr} {pos : Pos} {xs ys : List (κ × A)}
end
end Vs

/-! A list whose very items are known (Cell.fl): listed anew, compared with its like. -/
namespace Vs
open PySem PySem.Spec L2
section
variable {I : Type} {X : I → Cx} {K : PySem.W.Frag} {G : Env}
end
section
variable {X : Cx} {K : PySem.W.Frag} {W : WX} {sv : Sv} {G : Env} {ss : List Stmt} {o : Out}
end
end Vs

/-! A dict is walked: it is locked meanwhile. -/
namespace Vs
open PySem PySem.Spec L2
/-- the dict that the name's slot holds is locked -/
def Lck (i : Nat) (F H : Hp) (σ : L2.St) : Prop := ∃ a o vs, σ[i]? = some (some (V.ref a)) ∧ F a = some (.dK vs) ∧ H a = some (.frz o (.dK vs))
section
variable {X : Cx} {K : PySem.W.Frag} {G : Env} {i : Nat}
variable {κ A : Type} {g : κ → Key} {f : A → Dt} {kvs : List (κ × A)} {tg : Expr}
end
end Vs

/-! Calls that leave parameters to their defaults. list(d), typed. -/
namespace Vs
open PySem PySem.Spec L2
/-- a def that is called with its last parameters left to their defaults dd -/
structure CalleeD (P : Program) (w : World) (K : PySem.W.Frag) (mg : Str → Option Value) (base : Heap) (x : Str) (k n : Nat) (dd : List Dt) (r : List Dt → Sum Cell Xc → Prop) : Prop where
  ex : ∃ f fd ps dvs ds, FnOk P w K mg base (L2.CX P w) k f fd ps (spR K n r) ∧ mg x = some (.ref f) ∧ PySem.W.keepIn K (.ref f) = true ∧ Binds K fd ps ds ∧ Vals dvs ds ∧ ∀ F, RepL K F dvs dd
section
variable {I : Type} {X : I → Cx} {K : PySem.W.Frag} {G : Env} {P : Program} {w : World} {mg : Str → Option Value} {base : Heap}
end
/-- enumerate, typed -/
def enum {A : Type} (xs : List A) : List (Nat × A) := xs.mapIdx fun i x => (i, x)
theorem x_enum {A : Type} {I : Type} {X : I → Cx} {K : PySem.W.Frag} {G : Env} (f : A → Dt) {xs : List A} {a : Expr} {p pos tpos : Pos} {elts : List Expr} {kk : Nat} (hK : ∀ i, (X i).K = K) (hg : ∀ i, Gl (X i) "enumerate") (hm : ∀ i, (X i).mg "enumerate" = none) (h : EX X K G a (.lst (xs.map f))) (hsa : ∀ i, starEach [a] (X i).env = [(false, eval a (X i).env)] := by intro _; rfl)
    (hs : ∀ i x, foldedSetIterable (.Call (.Name "enumerate" p) [a] [] pos) (X i).env x = pure x := by intro _ _; rfl) : ISrc X K G (.Tuple elts kk tpos) (.Call (.Name "enumerate" p) [a] [] pos) ((enum xs).map fun z : Nat × A => Dt.tup [Dt.int (z.1 : Int), f z.2]) := by
  have e : (xs.map f).mapIdx (fun i d => Dt.tup [.int (i : Int), d]) = (enum xs).map fun z : Nat × A => Dt.tup [Dt.int (z.1 : Int), f z.2] := by
    unfold enum
    apply List.ext_getElem?
    intro i
    rw [List.getElem?_mapIdx, List.getElem?_map, List.getElem?_map, List.getElem?_mapIdx]
    cases xs[i]? <;> rfl
  rw [← e]
  exact src_enum hK hg hm h hsa hs
end Vs

/-! Dicts of tuple keys. -/
namespace Vs
open PySem PySem.Spec L2
def encT {κ A : Type} (g : κ → List Key) (f : A → Dt) (kvs : List (κ × A)) : List (List Key × Dt) := kvs.map fun z => (g z.1, f z.2)
section
variable {κ A : Type} [DecidableEq κ] {g : κ → List Key} (hg : ∀ a b, g a = g b → a = b) {f : A → Dt} {K : PySem.W.Frag} {F : Hp}
include hg
end
/-- pairs of texts as keys -/
def kSS (p : Str × Str) : List Key := [.inr p.1, .inr p.2]
section
variable {I : Type} {X : I → Cx} {K : PySem.W.Frag} {G : Env}
/-- a seen dict of tuple keys -/
def EDT (X : I → Cx) (K : PySem.W.Frag) (G : Env) (e : Expr) (ds : List (List Key × Dt)) : Prop :=
  ∀ F H σ fps (Q : VK), EnvOk K F H σ G fps → (∀ F' H' p vs, Up F H F' H' → Rd H' p (.dT vs) → vs.length ≤ big → RepT K F' vs ds → (vs.map (·.1)).Nodup → Q (.ref p) H') → wpE X e σ H Q
variable {κ A : Type} [DecidableEq κ] {g : κ → List Key} {kvs : List (κ × A)} {k : κ} (f : A → Dt) (hgi : ∀ a b, g a = g b → a = b) (fk : κ → Dt) (hk : ∀ p F v, Rep K F v (fk p) → ∃ b, v = .ref b ∧ F b = some (.tup ((g p).map kV)) ∧ (g p).all kOk = true)
include hgi hk
end
section
variable {X : Cx} {K : PySem.W.Frag} {W : WX} {sv : Sv} {G : Env} {rest : List Stmt} {o : Out} {pos : Pos}
end
end Vs

/-! Dicts of own lists: d.setdefault(k, []).append(e). -/
namespace Vs
open PySem PySem.Spec L2
def encL {κ A : Type} (g : κ → Key) (f : A → Dt) (kvs : List (κ × List A)) : List (Key × Cell) := kvs.map fun z => (g z.1, .ol (z.2.map f))
/-- d.setdefault(k, []).append(x) -/
def apps {κ A : Type} [DecidableEq κ] (kvs : List (κ × List A)) (k : κ) (x : A) : List (κ × List A) := puts kvs k ((gets kvs k).getD [] ++ [x])
section
variable {κ A : Type} [DecidableEq κ] {g : κ → Key} (hg : ∀ a b, g a = g b → a = b) {f : A → Dt} {K : PySem.W.Frag} {F H : Hp}
include hg
end
section
variable {I : Type} {X : I → Cx} {K : PySem.W.Frag} {G : Env}
end
section
variable {X : Cx} {K : PySem.W.Frag} {W : WX} {sv : Sv} {G : Env} {rest : List Stmt} {o : Out} {pos : Pos}
end
end Vs
namespace Vs
open PySem PySem.Spec L2
end Vs

/-! x in a list of whatever data; str(i); a call whose answer is dropped. -/
namespace Vs
open PySem PySem.Spec L2
def anyEq {A : Type} [BEq A] (ys : List A) (x : A) : Bool := ys.any fun z => z == x
section
variable {I : Type} {X : I → Cx} {K : PySem.W.Frag} {G : Env}
end
section
variable {I : Type} {X : I → Cx} {K : PySem.W.Frag} {G : Env}
def strI (i : Int) : Str := Str.ofString (toString i)
def strIOk (i : Int) : Prop := i.natAbs.log2 < 1920 ∧ goodB (strI i) = true
end
end Vs

/-! for over reversed(xs) and zip(xs, ys); texts between texts. -/
namespace Vs
open PySem PySem.Spec L2
section
variable {X : Cx} {K : PySem.W.Frag} {G : Env} {tg : Expr}
end
/-! texts between texts -/
def leS (i j : Str) : Bool := !decide (j.cps.toList < i.cps.toList)
section
variable {I : Type} {X : I → Cx} {K : PySem.W.Frag} {G : Env}
abbrev rLeS : R2 := fun x y H Q => ∃ i j, x = .str i ∧ y = .str j ∧ Q (.bl (leS i j)) H
end
end Vs

/-! sorted(list of texts), below 64. -/
namespace Vs
open PySem PySem.Spec L2
theorem leS_iff {i j : Str} : leS i j = true ↔ i.cps.toList ≤ j.cps.toList := by
  unfold leS
  rw [Bool.not_eq_true', decide_eq_false_iff_not]
  exact List.not_lt
theorem leS_trans (a b c : Str) (h : leS a b = true) (h' : leS b c = true) : leS a c = true :=
  leS_iff.mpr (List.le_trans (leS_iff.mp h) (leS_iff.mp h'))
theorem leS_total (a b : Str) : (leS a b || leS b a) = true := by
  rw [Bool.or_eq_true, leS_iff, leS_iff]
  exact List.le_total _ _
theorem leS_anti {a b : Str} (h : leS a b = true) (h' : leS b a = true) : a = b := by
  have e := List.le_antisymm (leS_iff.mp h) (leS_iff.mp h')
  exact TL.ext_tl e
def sortT (xs : List Str) : List Str := xs.mergeSort leS
theorem sortT_perm (xs : List Str) : (sortT xs).Perm xs := List.mergeSort_perm _ _
theorem sortT_pair (xs : List Str) : (sortT xs).Pairwise fun a b => leS a b = true := List.pairwise_mergeSort leS_trans leS_total xs
theorem sortT_uniq {xs ys : List Str} (hp : ys.Perm xs) (hs : ys.Pairwise fun a b => leS a b = true) : ys = sortT xs :=
  List.Perm.eq_of_pairwise (fun a b _ _ h h' => leS_anti h h') hs (sortT_pair xs) (hp.trans (sortT_perm xs).symm)
section
variable {I : Type} {X : I → Cx} {K : PySem.W.Frag} {G : Env}
end
end Vs

/-! sorted(dict), sorted of texts and of pairs (number, text), of any length. -/
namespace Vs
open PySem PySem.Spec L2 PyProof.Rows PySem.W
section
variable {prog : Program} {w : World} {A : Around} {E : Value → Shared → Prop} {s : Shared}
end

/-! ### data in order -/
structure SoT {A : Type} (f : A → Dt) (le : A → A → Bool) : Prop where
  fl : ∀ x, (f x).flat = true
  dp : ∀ x, (f x).py.depth ≤ 8
  al : ∀ x y, alike (f x).py (f y).py = true
  so : ∀ xs : List A, Sortable (xs.map fun x => (f x).py)
  le : dataLe false (fun x => (f x).py) = le
/-- a whole number, then a text -/
def leIS (p q : Int × Str) : Bool := decide (p.1 < q.1) || (decide (p.1 = q.1) && leS p.2 q.2)
section
variable {X : Cx} {A : Type} {f : A → Dt} {le : A → A → Bool}
/-- values of some data -/
def RV (K : PySem.W.Frag) (F : Hp) (f : A → Dt) (v : Value) (x : A) : Prop := ∃ u : V, RelV u v ∧ Rep K F u (f x)
def rSortG (K : PySem.W.Frag) (f : A → Dt) (le : A → A → Bool) : List V → Hp → VK → Prop := fun vs H Q => ∃ (F : Hp) (a : Addr) (us : List V) (xs : List A), vs = [V.ref a] ∧ Sub F H ∧ SqL K H a us ∧ RepL K F us (xs.map f) ∧ xs.length ≤ big ∧
  ∀ D ys, H D = none → RepL K F ys ((xs.mergeSort le).map f) → Q (.ref D) (upd H D (.lst ys))
/-- sorted(d): its keys -/
def rSortKG (K : PySem.W.Frag) (f : A → Dt) (le : A → A → Bool) : List V → Hp → VK → Prop := fun vs H Q => ∃ (F : Hp) (a : Addr) (kvs : List (Key × V)) (xs : List A), vs = [V.ref a] ∧ Sub F H ∧ Rd H a (.dK kvs) ∧ RepL K F (kvs.map fun kv => kV kv.1) (xs.map f) ∧ xs.length ≤ big ∧
  ∀ D ys, H D = none → RepL K F ys ((xs.mergeSort le).map f) → Q (.ref D) (upd H D (.lst ys))
end
section
variable {I A : Type} {X : I → Cx} {K : PySem.W.Frag} {G : Env} {f : A → Dt} {le : A → A → Bool} {e : Expr} {p pos : Pos} {xs : List A}
end
end Vs

/-! sorted(d, key=lambda k: (d[k], k)), d a dict from texts to whole numbers. -/
namespace Vs
open PySem PySem.Spec L2 PyProof.Rows PySem.W
abbrev lamArgs (ap : Pos) : Arguments := { posonlyargs := [], args := [{ arg := "statement", annotation := none, pos := ap : PySem.Arg }], vararg := none, kwonlyargs := [], kw_defaults := [], kwarg := none, defaults := [] : PySem.Arguments }
abbrev lamSc : Scope := { kind := PySem.ScopeKind.function, names := [(PySem.Str.ofString "statement", PySem.NameKind.local), (PySem.Str.ofString "ranks", PySem.NameKind.free)], isGenerator := false, isCoroutine := false, more := [] : PySem.Scope }
/-- the body: (ranks[statement], statement) -/
abbrev lamBody (p1 p2 p3 p4 p5 : Pos) (x1 : Nat) : Expr := .Tuple [.Subscript (.Name "ranks" p1) (.Name "statement" p2) p3, .Name "statement" p4] x1 p5
section
variable {prog : Program} {w : World} {A : Around} {E : Value → Shared → Prop} {s : Shared}
end
section
variable {X : Cx} {pins : List (Addr × Obj)} {σ : L2.St} {H : Hp} {s : Shared}
end
/-- the keys by their numbers, then by their texts -/
def sortK (ds : List (Str × Int)) : List Str := (ds.mergeSort fun p q => leIS (p.2, p.1) (q.2, q.1)).map Prod.fst
section
variable {X : Cx}
end
section
variable {X : Cx}
/-- what the expression asks and gives -/
def tSortLam (K : PySem.W.Frag) (P : Addr) (i : Nat) : TE := fun σ H Q => ∃ (F : Hp) (a : Addr) (kvs : List (Key × V)) (ds : List (Str × Int)), σ[i]? = some (some (V.ref a)) ∧ Sub F H ∧ Rd H a (.dK kvs) ∧ RepK K F kvs (encK Sum.inr Dt.int ds) ∧ (kvs.map (·.1)).Nodup ∧ kvs.length ≤ big ∧ F P = none ∧ NdefX.TabN H P nmQ ∧
  ∀ H1 D ys, ExH H H1 → Sub F H1 → H1 D = none → RepL K F ys ((sortK ds).map Dt.str) → Q (.ref D) (upd H1 D (.lst ys))
end
end Vs

/-! A def that makes the lambda; a head that knows its table. -/
namespace Vs
open PySem PySem.Spec L2
section
variable {P : Program} {w : World} {K : PySem.W.Frag} {mg : Str → Option Value} {base : Heap}
end
/-! ### the hook -/
end Vs

/-! for over a dict: it is locked meanwhile; d.items(). -/
namespace Vs
open PySem PySem.Spec L2
/-- it is returned -/
def TermR : Out → Prop
  | .rt _ _ => True
  | _ => False
theorem TermR.term : ∀ {o : Out}, TermR o → Term o
  | .rt _ _, _ => trivial
/-- the ends of a statement during which the dict at d is locked -/
def lkEnds (d : Addr) (od : Obj) (vs : List (Key × V)) (D : Ends) : Ends := ⟨fun σ' H' => H' d = some (.frz od (.dK vs)) ∧ D.nx σ' (upd H' d (.dK vs)), fun v H' => H' d = some (.frz od (.dK vs)) ∧ D.rt v (upd H' d (.dK vs)), fun σ' H' => H' d = some (.frz od (.dK vs)) ∧ D.bk σ' (upd H' d (.dK vs)), fun σ' H' => H' d = some (.frz od (.dK vs)) ∧ D.ct σ' (upd H' d (.dK vs))⟩
section
variable {K : PySem.W.Frag} {W : WX} {sv : Sv} {G : Env}
end
section
variable {X : Cx} {K : PySem.W.Frag} {W : WX} {sv : Sv} {G : Env} {rest : List Stmt} {o : Out} {pos : Pos} {A S T R : Type}
end
end Vs

/-! d.items(), min and max of two, any, all, sum, list.pop. -/
namespace Vs
open PySem PySem.Spec L2
section
variable {X : Cx} {K : PySem.W.Frag} {G : Env} {κ A : Type} {g : κ → Key} {f : A → Dt} {kvs : List (κ × A)}
end
section
variable {I : Type} {X : I → Cx} {K : PySem.W.Frag} {G : Env}
end
section
variable {X : Cx} {K : PySem.W.Frag} {G : Env}
def lastD {A : Type} [Inhabited A] (xs : List A) : A := xs.getLast?.getD default
end
end Vs

/-! An own object with own lists and dicts within, handed to one expression that keeps nothing of it. -/
namespace Vs
open PySem PySem.Spec L2
/-- a list, a dict or an instance -/
def isC2 : HO → Bool
  | .lst _ => true
  | .dK _ => true
  | .dT _ => true
  | .ins _ _ _ => true
  | _ => false
mutual
def noI : Dt → Bool
  | .non => true
  | .bl _ => true
  | .int _ => true
  | .str _ => true
  | .tup xs => noIs xs
  | _ => false
def noIs : List Dt → Bool
  | [] => true
  | d :: ds => noI d && noIs ds
end
def noIk : List (Key × Dt) → Bool
  | [] => true
  | (_, d) :: ds => noI d && noIk ds
section
variable {K : PySem.W.Frag} {F F' : Hp} (e : ∀ a o, F a = some o → isC2 o = false → F' a = some o)
include e
mutual
theorem Rep.noO : ∀ {v : V} {d : Dt}, Rep K F v d → noI d = true → Rep K F' v d
  | _, _, .non, _ => .non
  | _, _, .bl b, _ => .bl b
  | _, _, .int i, _ => .int i
  | _, _, .str s h, _ => .str s h
  | _, _, .tup h l r, n => .tup (e _ _ h rfl) l (RepL.noO r (by unfold noI at n; exact n))
  | _, _, .ins _ _, n => by unfold noI at n; cases n
  | _, _, .lst _ _ _, n => by unfold noI at n; cases n
  | _, _, .dic _ _ _ _, n => by unfold noI at n; cases n
  | _, _, .dit _ _ _ _, n => by unfold noI at n; cases n
  | _, _, .scr _ _ _, n => by unfold noI at n; cases n
  | _, _, .xc _ _ _, n => by unfold noI at n; cases n
theorem RepL.noO : ∀ {v : List V} {d : List Dt}, RepL K F v d → noIs d = true → RepL K F' v d
  | _, _, .nil, _ => .nil
  | _, _, .cons h r, n => by
    unfold noIs at n
    obtain ⟨n1, n2⟩ := Bool.and_eq_true_iff.mp n
    exact .cons (Rep.noO h n1) (RepL.noO r n2)
end
theorem RepK.noO : ∀ {v : List (Key × V)} {d : List (Key × Dt)}, RepK K F v d → noIk d = true → RepK K F' v d
  | _, _, .nil, _ => .nil
  | _, _, .cons o h r, n => by
    unfold noIk at n
    obtain ⟨n1, n2⟩ := Bool.and_eq_true_iff.mp n
    exact .cons o (Rep.noO e h n1) (RepK.noO r n2)
end
/-- the fields: data, own lists, own dicts -/
def flatF : List (Str × Cell) → Bool
  | [] => true
  | (_, .fz _) :: fs => flatF fs
  | (_, c) :: fs => flatC c && flatF fs
/-- an own object of such -/
def flatO : Cell → Bool
  | .ob _ fs => flatF fs
  | _ => false
section
variable {K : PySem.W.Frag} {F H : Hp} {σ : L2.St} {G : Env} {fps : Nat → List Addr} {i : Nat} {π : List Nat} {c : Cell} {d0 : Dt}
end
section
variable {I : Type} {X : I → Cx} {K : PySem.W.Frag} {G G' : Env}
end
end Vs

/-! d.setdefault(k, e) with data, dict displays with text keys. -/
namespace Vs
open PySem PySem.Spec L2
def setd {κ A : Type} [DecidableEq κ] (kvs : List (κ × A)) (k : κ) (a : A) : List (κ × A) := if hasK kvs k then kvs else puts kvs k a
section
variable {X : Cx} {K : PySem.W.Frag} {W : WX} {sv : Sv} {G : Env} {rest : List Stmt} {o : Out} {pos : Pos}
end
/-! ### displays -/
section
variable {I : Type} {X : I → Cx} {K : PySem.W.Frag} {G : Env}
/-- the pairs of a display -/
def PD (X : I → Cx) (K : PySem.W.Frag) (G : Env) (pos : Pos) (ks : List (Option Expr)) (vs : List Expr) (kvs : List (Key × Dt)) : Prop :=
  ∃ trs, (∀ j, PPs (X j) pos ks vs trs) ∧ ∀ F H σ fps (Q : List (V × V) → Hp → Prop), EnvOk K F H σ G fps → (∀ F' H' (ws : List (Key × V)), Up F H F' H' → RepK K F' ws kvs → Q (ws.map fun z => (kV z.1, z.2)) H') → tPairs trs σ H Q
end
section
variable {I : Type} {X : I → Cx} {K : PySem.W.Frag}
end
end Vs

/-! Lists, tuples and dicts of own things: made, their places, handed to one expression. -/
namespace Vs
open PySem PySem.Spec L2
section
variable {I : Type} {X : I → Cx} {K : PySem.W.Frag} {G : Env}
/-- new cells, from the left -/
def EAN (X : I → Cx) (K : PySem.W.Frag) (G : Env) (es : List Expr) (cs : List Cell) : Prop :=
  ∀ F H σ fps (Q : List V → Hp → Prop), EnvOk K F H σ G fps → (∀ F' H' vs fp, Up F H F' H' → RepCL K F' H' fp vs cs → (∀ a ∈ fp, H a = none ∧ F' a = none ∧ H' a ≠ none) → Q vs H') → wpA X es σ H Q
/-- a cell with an object of its own -/
def Cell.owns : Cell → Bool
  | .ol _ => true | .od _ => true | .odt _ => true | .oc _ => true | .ob _ _ => true | .lc _ => true | .tc _ => true
  | _ => false
theorem RepCL.get? {F H : Hp} : ∀ {fp : List Addr} {vs : List V} {cs : List Cell}, RepCL K F H fp vs cs → ∀ {k : Nat}, k < cs.length → ∃ w, vs[k]? = some w
  | _, _, _, .nil, k, h => by simp at h
  | _, _, _, .cons (v := v) _ rs _, 0, h => ⟨v, rfl⟩
  | _, _, _, .cons r rs _, k + 1, h => by
    obtain ⟨w, e⟩ := rs.get? (k := k) (by simpa using h)
    exact ⟨w, by simpa using e⟩
/-- the place of a key -/
def ixK (k : Key) : List (Key × Cell) → Option Nat
  | [] => none
  | (j, _) :: r => if j = k then some 0 else (ixK k r).map (· + 1)
/-- the pairs of a display of own things -/
def PDC (X : I → Cx) (K : PySem.W.Frag) (G : Env) (pos : Pos) (ks : List (Option Expr)) (vs : List Expr) (kvs : List (Key × Cell)) : Prop :=
  ∃ trs, (∀ j, PPs (X j) pos ks vs trs) ∧ ∀ F H σ fps (Q : List (V × V) → Hp → Prop), EnvOk K F H σ G fps → (∀ F' H' (ws : List (Key × V)) fp, Up F H F' H' → RepCK K F' H' fp ws kvs → (∀ a ∈ fp, H a = none ∧ F' a = none ∧ H' a ≠ none) → Q (ws.map fun z => (kV z.1, z.2)) H') → tPairs trs σ H Q
end
/-! ### any own thing, handed to one expression that keeps nothing of it -/
mutual
/-- without tuples of own things -/
def noTc : Cell → Bool
  | .tc _ => false
  | .lc cs => noTcL cs
  | .ob _ fs => noTcF fs
  | .oc kvs => noTcK kvs
  | _ => true
termination_by structural c => c
def noTcL : List Cell → Bool
  | [] => true
  | c :: cs => noTc c && noTcL cs
termination_by structural c => c
def noTcF : List (Str × Cell) → Bool
  | [] => true
  | (_, c) :: cs => noTc c && noTcF cs
termination_by structural c => c
def noTcK : List (Key × Cell) → Bool
  | [] => true
  | (_, c) :: cs => noTc c && noTcK cs
termination_by structural c => c
end
/-- a list, a dict, an instance or a tuple -/
def isC3 : HO → Bool
  | .tup _ => true
  | o => isC2 o
/-- kinds: with tuples or without -/
def isCb (b : Bool) (o : HO) : Bool := cond b (isC2 o) (isC3 o)
theorem isCb_2 {b : Bool} {o : HO} (h : isC2 o = true) : isCb b o = true := by
  cases b with
  | true => exact h
  | false => cases o <;> first | rfl | exact h
section
variable {K : PySem.W.Frag} {F H : Hp} (b : Bool)
mutual
theorem RepC.kinds : ∀ {fp : List Addr} {v : V} {c : Cell}, RepC K F H fp v c → (b = true → noTc c = true) → ∀ a ∈ fp, ∃ o, H a = some o ∧ isCb b o = true
  | _, _, _, .fz _, _, a, h => nomatch h
  | _, _, _, .ol h _ _, _, a, ha => by obtain rfl := List.mem_singleton.mp ha; exact ⟨_, h, isCb_2 rfl⟩
  | _, _, _, .od h _ _ _, _, a, ha => by obtain rfl := List.mem_singleton.mp ha; exact ⟨_, h, isCb_2 rfl⟩
  | _, _, _, .odt h _ _ _, _, a, ha => by obtain rfl := List.mem_singleton.mp ha; exact ⟨_, h, isCb_2 rfl⟩
  | _, _, _, .oc h _ r _ _, n, a, ha => by
    rcases List.mem_cons.mp ha with rfl | ha
    · exact ⟨_, h, isCb_2 rfl⟩
    · exact RepCK.kinds r (fun z => by have := n z; simpa only [noTc] using this) a ha
  | _, _, _, .ob h r _, n, a, ha => by
    rcases List.mem_cons.mp ha with rfl | ha
    · exact ⟨_, h, isCb_2 rfl⟩
    · exact RepCF.kinds r (fun z => by have := n z; simpa only [noTc] using this) a ha
  | _, _, _, .hl, _, a, h => nomatch h
  | _, _, _, .fl _ _ _, _, a, h => nomatch h
  | _, _, _, .lc h _ r _, n, a, ha => by
    rcases List.mem_cons.mp ha with rfl | ha
    · exact ⟨_, h, isCb_2 rfl⟩
    · exact RepCL.kinds r (fun z => by have := n z; simpa only [noTc] using this) a ha
  | _, _, _, .tc h _ r _, n, a, ha => by
    have hb : b = false := by
      cases e : b with
      | false => rfl
      | true => have := n e; simp only [noTc] at this; cases this
    rcases List.mem_cons.mp ha with rfl | ha
    · exact ⟨_, h, by rw [hb]; rfl⟩
    · exact RepCL.kinds r (fun z => by rw [hb] at z; cases z) a ha
theorem RepCL.kinds : ∀ {fp : List Addr} {v : List V} {c : List Cell}, RepCL K F H fp v c → (b = true → noTcL c = true) → ∀ a ∈ fp, ∃ o, H a = some o ∧ isCb b o = true
  | _, _, _, .nil, _, a, h => nomatch h
  | _, _, _, .cons r rs _, n, a, h => (List.mem_append.mp h).elim (RepC.kinds r (fun z => (Bool.and_eq_true_iff.mp (by have := n z; simpa only [noTcL] using this)).1) a) (RepCL.kinds rs (fun z => (Bool.and_eq_true_iff.mp (by have := n z; simpa only [noTcL] using this)).2) a)
theorem RepCK.kinds : ∀ {fp : List Addr} {v : List (Key × V)} {c : List (Key × Cell)}, RepCK K F H fp v c → (b = true → noTcK c = true) → ∀ a ∈ fp, ∃ o, H a = some o ∧ isCb b o = true
  | _, _, _, .nil, _, a, h => nomatch h
  | _, _, _, .cons _ r rs _, n, a, h => (List.mem_append.mp h).elim (RepC.kinds r (fun z => (Bool.and_eq_true_iff.mp (by have := n z; simpa only [noTcK] using this)).1) a) (RepCK.kinds rs (fun z => (Bool.and_eq_true_iff.mp (by have := n z; simpa only [noTcK] using this)).2) a)
theorem RepCF.kinds : ∀ {fp : List Addr} {v : List (Str × V)} {c : List (Str × Cell)}, RepCF K F H fp v c → (b = true → noTcF c = true) → ∀ a ∈ fp, ∃ o, H a = some o ∧ isCb b o = true
  | _, _, _, .nil, _, a, h => nomatch h
  | _, _, _, .cons r rs _, n, a, h => (List.mem_append.mp h).elim (RepC.kinds r (fun z => (Bool.and_eq_true_iff.mp (by have := n z; simpa only [noTcF] using this)).1) a) (RepCF.kinds rs (fun z => (Bool.and_eq_true_iff.mp (by have := n z; simpa only [noTcF] using this)).2) a)
end
end
mutual
/-- nothing of an own thing can be within: by kinds -/
def noX (b : Bool) : Dt → Bool
  | .non => true
  | .bl _ => true
  | .int _ => true
  | .str _ => true
  | .tup xs => b && noXs b xs
  | _ => false
def noXs (b : Bool) : List Dt → Bool
  | [] => true
  | d :: ds => noX b d && noXs b ds
end
def noXk (b : Bool) : List (Key × Dt) → Bool
  | [] => true
  | (_, d) :: ds => noX b d && noXk b ds
section
variable {K : PySem.W.Frag} {F F' : Hp} {b : Bool} (e : ∀ a o, F a = some o → isCb b o = false → F' a = some o)
include e
mutual
theorem Rep.noX : ∀ {v : V} {d : Dt}, Rep K F v d → Vs.noX b d = true → Rep K F' v d
  | _, _, .non, _ => .non
  | _, _, .bl b, _ => .bl b
  | _, _, .int i, _ => .int i
  | _, _, .str s h, _ => .str s h
  | _, _, .tup h l r, n => by
    unfold Vs.noX at n
    obtain ⟨n1, n2⟩ := Bool.and_eq_true_iff.mp n
    exact .tup (e _ _ h (by rw [n1]; rfl)) l (RepL.noX r n2)
  | _, _, .ins _ _, n => by unfold Vs.noX at n; cases n
  | _, _, .lst _ _ _, n => by unfold Vs.noX at n; cases n
  | _, _, .dic _ _ _ _, n => by unfold Vs.noX at n; cases n
  | _, _, .dit _ _ _ _, n => by unfold Vs.noX at n; cases n
  | _, _, .scr _ _ _, n => by unfold Vs.noX at n; cases n
  | _, _, .xc _ _ _, n => by unfold Vs.noX at n; cases n
theorem RepL.noX : ∀ {v : List V} {d : List Dt}, RepL K F v d → noXs b d = true → RepL K F' v d
  | _, _, .nil, _ => .nil
  | _, _, .cons h r, n => by
    unfold noXs at n
    obtain ⟨n1, n2⟩ := Bool.and_eq_true_iff.mp n
    exact .cons (Rep.noX h n1) (RepL.noX r n2)
end
theorem RepK.noX : ∀ {v : List (Key × V)} {d : List (Key × Dt)}, RepK K F v d → noXk b d = true → RepK K F' v d
  | _, _, .nil, _ => .nil
  | _, _, .cons o h r, n => by
    unfold noXk at n
    obtain ⟨n1, n2⟩ := Bool.and_eq_true_iff.mp n
    exact .cons o (Rep.noX e h n1) (RepK.noX r n2)
end
section
variable {K : PySem.W.Frag} {F H : Hp} {σ : L2.St} {G : Env} {fps : Nat → List Addr} {i : Nat} {π : List Nat} {c : Cell} {d0 : Dt} {b : Bool}
end
section
variable {I : Type} {X : I → Cx} {K : PySem.W.Frag} {G G' : Env}
end
/-! ### one of two places -/
section
variable {X : Cx} {K : PySem.W.Frag} {W : WX} {sv : Sv} {G : Env} {rest : List Stmt} {o : Out}
end
section
variable {K : PySem.W.Frag} {G G' : Env}
end
section
variable {X : Cx} {K : PySem.W.Frag} {W : WX} {sv : Sv} {G : Env} {rest : List Stmt} {o : Out} {pos : Pos}
end
end Vs

/-! x is True; xs * n; bits. -/
namespace Vs
open PySem PySem.Spec L2
section
variable {I : Type} {X : I → Cx} {K : PySem.W.Frag} {G : Env}
theorem repL_append {F : Hp} : ∀ {vs ws : List V} {ds es : List Dt}, RepL K F vs ds → RepL K F ws es → RepL K F (vs ++ ws) (ds ++ es)
  | _, _, _, _, .nil, h => h
  | _, _, _, _, .cons h r, q => .cons h (repL_append r q)
theorem repL_rep {F : Hp} {vs : List V} {ds : List Dt} (h : RepL K F vs ds) : ∀ n : Nat, RepL K F (List.replicate n vs).flatten (List.replicate n ds).flatten
  | 0 => .nil
  | n + 1 => by
    rw [List.replicate_succ, List.replicate_succ, List.flatten_cons, List.flatten_cons]
    exact repL_append h (repL_rep h n)
theorem len_rep {A : Type} (n : Nat) (xs : List A) : (List.replicate n xs).flatten.length = n * xs.length := by
  rw [List.length_flatten, List.map_replicate, List.sum_replicate_nat]
theorem rep_map {A B : Type} (f : A → B) (n : Nat) (xs : List A) : (List.replicate n xs).flatten.map f = (List.replicate n (xs.map f)).flatten := by
  rw [List.map_flatten, List.map_replicate]
def repOk {A : Type} (xs : List A) (k : Int) : Prop := -(2 ^ 63) ≤ k ∧ k < 2 ^ 63 ∧ xs.length * k.toNat ≤ big
/-- xs * k -/
def repL {A : Type} (xs : List A) (k : Int) : List A := (List.replicate k.toNat xs).flatten
theorem x_repL {A : Type} {a b : Expr} {pos : Pos} {xs : List A} {k : Int} (f : A → Dt) (ha : EX X K G a (.lst (xs.map f))) (hb : EX X K G b (.int k)) (hk : repOk xs k) : EN X K G (.BinOp a .Mult b pos) (.ol ((repL xs k).map f)) := fun F H σ fps Q E q =>
  ⟨tOp rRep (wpE X a) (wpE X b), fun j => pe_op op_rep (pe_wp j) (pe_wp j), ha F H σ fps _ E fun F1 H1 v u r => hb F1 H1 σ fps _ (E.up u) fun F2 H2 w u2 r2 => by
    cases r2
    cases r with
    | lst h1 l1 r1 =>
      rename_i a vs
      obtain ⟨k1, k2, k3⟩ := hk
      have hl : vs.length = xs.length := by rw [r1.len, List.length_map]
      refine ⟨a, k, vs, rfl, rfl, u2.hp.h (u.sb.lst h1), k1, k2, by rw [hl]; exact Nat.le_trans k3 big_line, fun D hD => ?_⟩
      have n0 : H D = none := (u.trans u2).hp.free hD
      have e : (repL xs k).map f = (List.replicate k.toNat (xs.map f)).flatten := rep_map f _ xs
      refine q F2 (upd H2 D (.lst (List.replicate k.toNat vs).flatten)) (.ref D) [D] ((u.trans u2).trans (Up.layH u2.sb hD)) (.ol upd_same (by rw [len_rep, hl, Nat.mul_comm]; exact k3) (by rw [e]; exact repL_rep (r1.mono u2.fr) _)) fun a ha => ?_
      obtain rfl : a = D := by simpa using ha
      exact ⟨n0, u2.sb.none hD, by rw [upd_same]; simp⟩⟩
end
/-! ### branches that may fall through or leave -/
/-- how a loop's body leaves its turn ahead of its end -/
inductive Lv (S R : Type) where
  | ct (s : S) | bk (s : S) | fin (y : R)
def Lv.st {S R : Type} : Lv S R → Step S R
  | .ct s => .ct s
  | .bk s => .bk s
  | .fin y => .fin y
def mixO {S L : Type} (Gj : S → Env) (E : L → Out) : Sum S L → Out
  | .inl s => .nx (Gj s)
  | .inr l => E l
def mixV {S L T : Type} (k : S → T) (i : L → T) : Sum S L → T
  | .inl s => k s
  | .inr l => i l
def mixP {S L : Type} (P : S → Prop) : Sum S L → Prop
  | .inl s => P s
  | .inr _ => True
section
variable {X : Cx} {K : PySem.W.Frag} {W : WX} {sv : Sv} {G : Env} {rest : List Stmt} {o : Out} {pos : Pos}
end
end Vs

/-! xs.pop(i) as a statement. -/
namespace Vs
open PySem PySem.Spec L2
section
variable {X : Cx} {K : PySem.W.Frag} {W : WX} {sv : Sv} {G : Env} {rest : List Stmt} {o : Out} {pos : Pos}
def popAt {A : Type} (xs : List A) (i : Int) : List A := match ixN xs.length i with
  | some k => xs.eraseIdx k
  | none => xs
theorem RepL.eraseIdx {F : Hp} : ∀ {vs : List V} {ds : List Dt}, RepL K F vs ds → ∀ k : Nat, RepL K F (vs.eraseIdx k) (ds.eraseIdx k)
  | _, _, .nil, k => .nil
  | _, _, .cons h r, 0 => r
  | _, _, .cons h r, k + 1 => .cons h (RepL.eraseIdx r k)
end
end Vs

/-! sorted of triples: two whole numbers, then a thing. -/
namespace Vs
open PySem PySem.Spec L2 PyProof.Rows PySem.W
/-- what may stand in a triple that is put in order -/
structure SoX {A : Type} (f : A → Dt) : Prop where
  fl : ∀ x, (f x).flat = true
  dp : ∀ x, (f x).py.depth ≤ 7
  al : ∀ x y, alike (f x).py (f y).py = true
def iiE {A : Type} (f : A → Dt) (z : Int × Int × A) : Dt := Dt.tup [.int z.1, .int z.2.1, f z.2.2]
def leII {A : Type} (f : A → Dt) : (Int × Int × A) → (Int × Int × A) → Bool := dataLe false fun z => (iiE f z).py
def rowE (z : Str × Str × Str × List Str) : Dt := Dt.tup [.str z.1, .str z.2.1, .str z.2.2.1, .tup (z.2.2.2.map Dt.str)]
end Vs

/-! x = [.. for .. in xs ..], xs an own list that stays own. -/
namespace Vs
open PySem PySem.Spec L2
section
variable {X : Cx} {K : PySem.W.Frag} {W : WX} {sv : Sv} {G G' : Env} {rest : List Stmt} {o : Out} {pos : Pos}
end
end Vs

/-! x in a list of whole numbers. -/
namespace Vs
open PySem PySem.Spec L2
section
variable {I : Type} {X : I → Cx} {K : PySem.W.Frag} {G : Env}
end
end Vs

/-! Exceptions of own classes: what a class says, raise, calls that raise. -/
namespace Vs
open PySem PySem.Spec L2

/-! ### what a class says -/
structure XcF (K : PySem.W.Frag) (C f : Str) : Prop where
  oex : OexC K (He.ga K C)
  ini : PySem.W.findIn K (.ref (He.ga K C)) "__init__" = some (some (.ref (He.ma K (He.ga K C) "__init__")))
  fn : PySem.W.typeIn K (.ref (He.ma K (He.ga K C) "__init__")) = some (.type "function")
  no : PySem.W.findIn K (.ref (He.ga K C)) f = some none
  xf : XfC K (He.ga K C)
  cl : (PySem.W.clsIn K (He.ga K C)).isSome = true
  ca : PySem.W.findIn K (.ref (He.ga K C)) "__class__" = some (some (.builtin "object.__class__"))
  cn : PySem.W.specialIn K (.builtin "object.__class__") "__get__" = some (some (.builtin "getset_descriptor.__get__"))
  ct : PySem.W.takesIn K (.builtin "object.__class__") = some true
  mr : PySem.W.mroIn K (He.ga K C) (.type "object") = some true
theorem xcB_cls {K : PySem.W.Frag} {C : Addr} (q : (match K.lookup C with
  | some ⟨.type "type", _, .cls k, z⟩ => (match k.mro, z.toList with
    | .ref D :: bm, [_, _, _, _, some (.builtin n), _] => (D == C && n == "ValueError.__new__") && (!k.hasDel && (k.hasDict && PySem.HandSPX.refsVE bm))
    | _, _ => false)
  | _ => false) = true) : ∃ nm q N bs bm sn sub ab col dd k0 k1 k2 k3 k5, K.lookup C = some (excClassObj nm q C N bs bm true sn sub ab col dd k0 k1 k2 k3 k5 "ValueError.__new__") ∧ PySem.HandSPX.refsVE bm = true := by
  split at q
  next dd k z e =>
    split at q
    next D bm k0 k1 k2 k3 n k5 em es =>
      obtain ⟨q1, q2⟩ := Bool.and_eq_true_iff.mp q
      obtain ⟨q3, q4⟩ := Bool.and_eq_true_iff.mp q1
      obtain ⟨q5, q6⟩ := Bool.and_eq_true_iff.mp q2
      obtain ⟨q7, q8⟩ := Bool.and_eq_true_iff.mp q6
      obtain rfl : D = C := eq_of_beq q3
      obtain rfl : n = "ValueError.__new__" := eq_of_beq q4
      obtain ⟨nm, bs, mro, ns, qn, hd, sn, sub, ab, col, del⟩ := k
      have em' : mro = .ref D :: bm := em
      have q5' : del = false := by simpa using q5
      have q7' : hd = true := q7
      subst em' q5' q7'
      obtain rfl : z = #[k0, k1, k2, k3, some (.builtin "ValueError.__new__"), k5] := by
        obtain ⟨l⟩ := z
        have es' : l = _ := es
        rw [es']
      exact ⟨nm, qn, ns, bs, bm, sn, sub, ab, col, dd, k0, k1, k2, k3, k5, e, q8⟩
    next => cases q
  next => cases q
theorem xcB_ok {K : PySem.W.Frag} {C f : Str} (h : xcB K C f = true) : XcF K C f := by
  obtain ⟨h0, h⟩ := Bool.and_eq_true_iff.mp h
  obtain ⟨h1, h⟩ := Bool.and_eq_true_iff.mp h
  obtain ⟨h2, h⟩ := Bool.and_eq_true_iff.mp h
  obtain ⟨h3, h⟩ := Bool.and_eq_true_iff.mp h
  obtain ⟨h4, h⟩ := Bool.and_eq_true_iff.mp h
  obtain ⟨h5, h⟩ := Bool.and_eq_true_iff.mp h
  obtain ⟨h6, h⟩ := Bool.and_eq_true_iff.mp h
  obtain ⟨h7, h⟩ := Bool.and_eq_true_iff.mp h
  obtain ⟨h8, h⟩ := Bool.and_eq_true_iff.mp h
  obtain ⟨h9, h⟩ := Bool.and_eq_true_iff.mp h
  obtain ⟨h10, h⟩ := Bool.and_eq_true_iff.mp h
  obtain ⟨h11, h⟩ := Bool.and_eq_true_iff.mp h
  obtain ⟨h12, h13⟩ := Bool.and_eq_true_iff.mp h
  exact ⟨⟨xcB_cls h0, of_decide_eq_true h1, of_decide_eq_true h2, of_decide_eq_true h3, h4⟩, of_decide_eq_true h5, of_decide_eq_true h6, of_decide_eq_true h7, xfB_ok h8, h9, of_decide_eq_true h10, of_decide_eq_true h11, of_decide_eq_true h12, of_decide_eq_true h13⟩
/-- B.__init__ is ValueError's -/
structure BviF (K : PySem.W.Frag) (B : Str) : Prop where
  rd : ClRd K (He.ga K B) (.type "type")
  at_ : PySem.W.findCls K (.ref (He.ga K B)) (.type "type") "__init__" = some (.val (.builtin "ValueError.__init__"))
theorem bviB_ok {K : PySem.W.Frag} {B : Str} (h : bviB K B = true) : BviF K B := by
  obtain ⟨h1, h⟩ := Bool.and_eq_true_iff.mp h
  obtain ⟨h2, h3⟩ := Bool.and_eq_true_iff.mp h
  refine ⟨⟨h1, of_decide_eq_true h2⟩, ?_⟩
  cases e : PySem.W.findCls K (.ref (He.ga K B)) (.type "type") "__init__" with
  | none => rw [e] at h3; cases h3
  | some z =>
    rw [e] at h3
    cases z with
    | val v => rw [of_decide_eq_true h3]
    | _ => cases h3
def IsV (K : PySem.W.Frag) (C : Str) (T : String) (b : Bool) : Prop := PySem.W.kitOne K (.ref (He.ga K C)) (.type T) = some b
theorem isV_ok {K : PySem.W.Frag} {C : Str} {T : String} {b : Bool} (h : (Ya.isV C T b).ok K = true) : IsV K C T b := by
  unfold IsV
  exact of_decide_eq_true h

/-! ### __init__ -/
section
variable {X : Cx} {e : Expr} {es : List Expr} {ta : TA}
theorem pe_bvi {B : Str} {C : Addr} {p1 p2 pos : Pos} {pl : Sem Bool} (hg : Gl X B) (hm : X.mg B = some (.ref C)) (r : ClRd X.K C (.type "type")) (c : PySem.W.findCls X.K (.ref C) (.type "type") "__init__" = some (.val (.builtin "ValueError.__init__")))
    (ha : PA X (e :: es) ta) (hdb : (B == ("__debug__" : Str)) = false) (hst : starEach (e :: es) X.env = (false, eval e X.env) :: starEach es X.env) (hpl : (backTo pos (starEach es X.env)).any (·.1) = false)
    (ht : eval (.Call (.Attribute (.Name B p1) "__init__" p2) (e :: es) [] pos) X.env = (do
      let ov ← eval (.Name B p1) X.env
      standAt p2.atName
      let (f, first) ← holding [ov] (getMethod ov "__init__" pl)
      callWith pos f first (backTo pos (starEach (e :: es) X.env)) (backToKw pos (keywordEach [] X.env)))) :
    PE X (.Call (.Attribute (.Name B p1) "__init__" p2) (e :: es) [] pos) (tVeI X.K ta) := by
  refine ⟨fun pins s σ H Q I h => ?_⟩
  refine PySem.W.methodCall_KW (pl := pl) (thn ((pe_glob hg hm (show RelV (.ref C) (.ref C) from rfl) hdb).run pins s σ H (fun v H1 => v = .ref C ∧ tVeI X.K ta σ H1 Q) I ⟨rfl, h⟩) fun u s1 ⟨y, H1, I1, rx, ex, q⟩ => ?_) ht
  subst ex
  obtain rfl : u = Value.ref C := rx
  refine PySem.W.method_cls I1.kIn r.ga (PySem.W.cls_value I1.kIn r.rd c rfl ?_)
  have I2 := I1.tok (s1.toks + 1)
  have body := ha.run pos pins _ σ H1 _ I2 q
  refine PyProof.Rows.callWith_method1 (thn body fun us s3 z => ?_) hst hpl
  obtain ⟨vs, H3, I3, rr, b, D, ws, evs, hl, T, eb, q3⟩ := z
  subst evs
  cases rr with
  | cons rb rw =>
    cases rb
    refine oinit_ok T I3 eb ?_ fun s4 J => ⟨.non, H3, J, rfl, q3⟩
    rw [← Paired.length rw, sizeLine_eq]
    exact Nat.le_trans hl (by decide)
end
/-- what such an __init__ does -/
def spI (K : PySem.W.Frag) (f : Str) : Sp := fun vs H Q _ => ∃ (a C : Addr) (v : V), vs = [.ref a, v] ∧ OexC K C ∧ PySem.W.findIn K (.ref C) f = some none ∧ H a = some (exo a C none) ∧
  ∀ dx, H dx = none → dx ≠ a → Q .non (upd (upd H dx (exd dx [(f, v)])) a (exo a C (some dx)))
structure CalleeX (P : Program) (w : World) (K : PySem.W.Frag) (mg : Str → Option Value) (base : Heap) (C f : Str) : Prop where
  ex : ∃ fd ps, FnOk P w K mg base (L2.CX P w) 1 (He.ma K (He.ga K C) "__init__") fd ps (spI K f) ∧ Binds K fd ps []
/-- def __init__(self, y): B.__init__(self, 'm'); self.f = y -/
theorem init_ok {P : Program} {w : World} {K : PySem.W.Frag} {mg : Str → Option Value} {base : Heap} {qual f B m : Str} {params : Arguments} {body : List Stmt} {scope : Scope} {fi : Addr} {fd : FuncData} {self y : Str}
    {p1 p2 p3 p4 p5 p6 p7 p8 p9 p10 : Pos} {j} (F : FunD K "__init__" qual params body scope [] [] fi fd) (S : FnScope [self, y] [self, y] scope) (Z : BviF K B) (gB : mg B = some (.ref (He.ga K B)))
    (hb : body = [.Expr (.Call (.Attribute (.Name B p1) "__init__" p2) [.Name self p3, .Constant (.str m) j p4] [] p5) p6, .Assign [.Attribute (.Name self p7) f p8] (.Name y p9) p10])
    (hgl : ∀ (cdv : Value) (A : Around) (outer : List PySem.Env) (s : Shared) (H : Hp) (E : XK), Gl (cxOf (L2.CX P w) P w K mg base [self, y] qual scope fi cdv A outer s H E) B)
    (hv1 : Vis scope self) (hv2 : Vis scope y) (hd1 : (self == ("__debug__" : Str)) = false) (hc1 : (self == ("__classdict__" : Str)) = false) (hd2 : (y == ("__debug__" : Str)) = false) (hc2 : (y == ("__classdict__" : Str)) = false) (hdB : (B == ("__debug__" : Str)) = false)
    (ht : ∀ (cdv : Value) (A : Around) (outer : List PySem.Env) (s : Shared) (H : Hp) (E : XK), ∃ pl, eval (.Call (.Attribute (.Name B p1) "__init__" p2) [.Name self p3, .Constant (.str m) j p4] [] p5) (cxOf (L2.CX P w) P w K mg base [self, y] qual scope fi cdv A outer s H E).env = (do
      let ov ← eval (.Name B p1) (cxOf (L2.CX P w) P w K mg base [self, y] qual scope fi cdv A outer s H E).env
      standAt p2.atName
      let (f, first) ← holding [ov] (getMethod ov "__init__" pl)
      callWith p5 f first (backTo p5 (starEach [.Name self p3, .Constant (.str m) j p4] (cxOf (L2.CX P w) P w K mg base [self, y] qual scope fi cdv A outer s H E).env)) (backToKw p5 (keywordEach [] (cxOf (L2.CX P w) P w K mg base [self, y] qual scope fi cdv A outer s H E).env)))) :
    FnOk P w K mg base (L2.CX P w) 1 fi fd [self, y] (spI K f) := by
  subst hb
  refine F.ok S (fun vs H Q E ⟨a, C, v, e, _⟩ => by rw [e]; rfl) fun cdv A outer s H vs Q E hr ⟨a, C, v, e, T, no, ha, q⟩ => ?_
  subst e
  obtain ⟨pl, ht⟩ := ht cdv A outer s H E
  refine ⟨_, pss_cons (ps_expr (pe_bvi (pl := pl) (hgl cdv A outer s H E) gB Z.rd Z.at_ (pa_cons (pe_var (i := 0) rfl hv1 hd1 hc1) (pa_cons pe_str pa_nil rfl) rfl) hdB rfl rfl ht) rfl) (pss_cons (ps_ost (pe_var (i := 0) rfl hv1 hd1 hc1) (pe_var (i := 1) rfl hv2 hd2 hc2) rfl) pss_nil), ?_⟩
  refine ⟨.ref a, rfl, a, C, [.str m], rfl, (show 1 ≤ 1000 by decide), T, ha, ?_⟩
  refine ⟨v, rfl, .ref a, rfl, a, C, rfl, T, no, .inl ⟨ha, fun dx h1 h2 => q dx h1 h2⟩⟩

/-! ### raise -/
section
variable {X : Cx} {K : PySem.W.Frag} {W : WX} {sv : Sv} {G : Env} {rest : List Stmt} {pos : Pos} {P : Program} {w : World} {mg : Str → Option Value} {base : Heap}
/-! ### an expression that raises -/
def EZ (X : Cx) (K : PySem.W.Frag) (W : WX) (G : Env) (e : Expr) (x : Xc) : Prop :=
  ∀ F H σ fps (Q : VK), EnvOk K F H σ G fps → (∀ F' H' d, Up F H F' H' → XRep K F' d x.fs → W (.ref (He.ga K x.cls)) d σ H') → wpE (one X) e σ H Q
def EAZ (X : Cx) (K : PySem.W.Frag) (W : WX) (G : Env) (es : List Expr) (x : Xc) : Prop :=
  ∀ F H σ fps (Q : List V → Hp → Prop), EnvOk K F H σ G fps → (∀ F' H' d, Up F H F' H' → XRep K F' d x.fs → W (.ref (He.ga K x.cls)) d σ H') → wpA (one X) es σ H Q
/-! ### statements of such an expression -/
end

/-! ### answers of what may raise -/
def rzO {T Z : Type} (f : T → Out) (ec : Z → Xc) (G : Env) : Sum T Z → Out
  | .inl v => f v
  | .inr x => .xc (ec x) G
def rzA {T Z : Type} (f : T → Cell) (ec : Z → Xc) : Sum T Z → Sum Cell Xc
  | .inl v => .inl (f v)
  | .inr x => .inr (ec x)
/-- on with the answer, or out with what was raised -/
def rzB {T Z U : Type} (r : Sum T Z) (f : T → U) (g : Z → U) : U := match r with
  | .inl v => f v
  | .inr x => g x
def rzP {T Z : Type} (P : T → Prop) (Q : Z → Prop) : Sum T Z → Prop
  | .inl v => P v
  | .inr x => Q x
section
variable {X : Cx} {K : PySem.W.Frag} {W : WX} {sv : Sv} {G : Env} {ss : List Stmt}
end
end Vs

/-! try with clauses, named or not; what a suite may do. -/
namespace Vs
open PySem PySem.Spec L2 PyProof.Rows

/-! ### the clauses, one after the other -/
def wSu (X : Cx) (ss : List Stmt) (a : Addr) (cls : Value) (d : Option Addr) : TS := fun D σ H => ∃ t, (∀ oe pn, Zc cls d oe → (∃ vs, oe.data = .fields vs) → PSs (X.suite a ((a, oe) :: pn)) ss t) ∧ t D σ H
/-- a clause's name goes; what it named may stay under another name -/
def unE (D : Ends) (i : Nat) (a : Addr) (cls : Value) (d : Option Addr) : Ends := { nx := fun σ H => D.nx (σ.set i none) H ∨ ∃ C, cls = .ref C ∧ (H a = none → D.nx (σ.set i none) (upd H a (exK a C d))), rt := D.rt, bk := fun σ H => D.bk (σ.set i none) H, ct := fun σ H => D.ct (σ.set i none) H }
/-- a clause's four classes -/
def Tup4 (X : Cx) (es : List Expr) (c1 c2 c3 c4 : Value) : Prop := ∃ x1 p1 x2 p2 x3 p3 x4 p4, es = [.Name x1 p1, .Name x2 p2, .Name x3 p3, .Name x4 p4] ∧ Names X x1 c1 ∧ Names X x2 c2 ∧ Names X x3 c3 ∧ Names X x4 c4
def wHds (X : Cx) (Wout : WX) (D : Ends) : List ExceptHandler → WX
  | [] => Wout
  | .ExceptHandler (some (.Name x _)) n (b :: su) _ :: r => fun cls d σ H => ∃ c z, Names X x c ∧ PySem.W.exmOne X.K cls c = some z ∧ (z = true → ∀ a, H a = none → match n with
      | none => wSu X (b :: su) a cls d D σ H
      | some y => ∃ i, X.N[i]? = some y ∧ X.env.kindOf y = some .local ∧ wSu X (b :: su) a cls d (unE D i a cls d) (σ.set i (some (.ref a))) H) ∧ (z = false → wHds X Wout D r cls d σ H)
  | .ExceptHandler (some (.Tuple es _ _)) none (b :: su) _ :: r => fun cls d σ H => ∃ c1 c2 c3 c4 z, Tup4 X es c1 c2 c3 c4 ∧ PySem.W.exmAny X.K cls [c1, c2, c3, c4] = some z ∧ (z = true → ∀ a, H a = none → wSu X (b :: su) a cls d D σ H) ∧ (z = false → wHds X Wout D r cls d σ H)
  | _ :: _ => fun _ _ _ _ => False
/-- the exception lies here, noted -/
structure Lnd (X : Cx) (pins : List (Addr × Obj)) (σ : L2.St) (H : Hp) (sI s' : Shared) (B : Heap) (a : Addr) (cls : Value) (d : Option Addr) (h : Heap) : Prop where
  J : Inv X pins σ H sI
  nb : ∀ b o, sI.heap.get? b = some o → b ∉ frs X.stack → B.get? b = some o
  up : sI.heap.UpToSlots h
  fl : PySem.HandSPX.FlyingZ B (X.env :: X.outer) a (Zc cls d) h
  na : H a = none
  os : s'.os = sI.os
  ag : AllBare s'.gens
section
variable {X : Cx} {pins : List (Addr × Obj)} {σ : L2.St} {H : Hp} {sI s' : Shared} {B : Heap} {a : Addr} {cls : Value} {d : Option Addr} {h : Heap}
theorem Lnd.inv (L : Lnd X pins σ H sI s' B a cls d h) : Inv X pins σ H { s' with heap := h } := L.J.landed L.nb L.fl.1 L.up L.os L.ag
theorem Lnd.apart (L : Lnd X pins σ H sI s' B a cls d h) (hf : X.env.frame = some X.env.locals) {o : Obj} {vs : Array Value} (e : h.get? a = some o) (q : o.data = .fields vs) : a ≠ X.env.locals ∧ a ∉ X.fs := by
  have out : a ∉ frs (X.env :: X.outer) := fun hm => by
    obtain ⟨_, p, ep, hn⟩ := L.fl.2.2.1.mem hm
    have : o = p := Option.some.inj (e.symm.trans ep)
    exact hn vs (this ▸ q)
  refine ⟨fun z => out ?_, fun hm => out ?_⟩
  · rw [z]
    exact List.mem_filterMap.mpr ⟨X.env, by simp, hf⟩
  · obtain ⟨v, hv, qv⟩ := List.mem_filterMap.mp hm
    exact List.mem_filterMap.mpr ⟨v, List.mem_cons_of_mem _ hv, qv⟩
theorem Lnd.su (L : Lnd X pins σ H sI s' B a cls d h) (hf : X.env.frame = some X.env.locals) : ∃ oe vs, h.get? a = some oe ∧ Zc cls d oe ∧ oe.data = .fields vs ∧ Inv (X.suite a ((a, oe) :: (X.pn ++ pins))) [] σ H { s' with heap := h } := by
  obtain ⟨oe, vs, e1, e2, e3⟩ := L.fl.there
  obtain ⟨n1, n2⟩ := L.apart hf e1 e3
  exact ⟨oe, vs, e1, e2, e3, L.inv.suite e1 e3 L.na n1 n2⟩
theorem Lnd.on (L : Lnd X pins σ H sI s' B a cls d h) {g : Heap} (fl : PySem.HandSPX.FlyingZ B (X.env :: X.outer) a (Zc cls d) g) (u : h.UpToSlots g) : Lnd X pins σ H sI s' B a cls d g := ⟨L.J, L.nb, L.up.trans u, fl, L.na, L.os, L.ag⟩
/-- what was caught may stay -/
theorem Lnd.keep (L : Lnd X pins σ H sI s' B a cls d h) (hs : X.stack = X.env :: X.outer) {C : Addr} (hC : cls = .ref C) {oe : Obj} (z : Zc cls d oe) (hv : ∃ vs, oe.data = .fields vs) {σ6 : L2.St} {H6 : Hp} {s6 : Shared} (S : Inv (X.suite a ((a, oe) :: (X.pn ++ pins))) [] σ6 H6 s6) :
    Inv X pins σ6 (upd H6 a (exK a C d)) s6 := by
  subst hC
  have J6 : Inv X pins σ6 H6 s6 := S.unsuite L.J.ok
  obtain ⟨pa, pn, pl, pf, pc⟩ := S.pin (a, oe) (List.mem_append_left _ List.mem_cons_self)
  have n1 : sI.heap.get? a = none := by
    cases e : sI.heap.get? a with
    | none => rfl
    | some o =>
      have out : a ∉ frs X.stack := fun hm => by
        rw [hs] at hm
        obtain ⟨_, p, ep, hn⟩ := L.fl.2.2.1.mem hm
        obtain ⟨o2, vs, e1, _, e3⟩ := L.fl.there
        have q : o2 = p := Option.some.inj (e1.symm.trans ep)
        exact hn vs (q ▸ e3)
      have k := L.nb a o e out
      rw [L.fl.2.1] at k
      cases k
  have n0 : ∀ b o, X.s_0.heap.get? b = some o → b ∉ X.ex → b ≠ a := fun b o q hx e => by
    subst e
    obtain ⟨o2, k⟩ := L.J.base.there _ _ q hx
    rw [n1] at k
    cases k
  have J := L.J
  refine ⟨J6.ok, J6.os, J6.bare, ⟨J6.base.keep, J6.base.slot, fun b o q n hx => ?_, J6.base.there, fun b xs q => ?_, fun b o u q => ?_, fun b ps q => ?_⟩, J6.loc, J6.cell, ?_, fun x c q => ?_, fun p hp => ?_, ?_, J6.len⟩
  · rw [upd_ne (n0 b o q hx)]; exact J6.base.free b o q n hx
  · have k := J6.base.tups b xs q
    rw [upd_ne (ne_of_none k pn)]; exact k
  · have k := J6.base.frzs b o u q
    rw [upd_ne (ne_of_none k pn)]; exact k
  · obtain ⟨m, k⟩ := J6.base.tbls b ps q
    exact ⟨m, by rw [upd_ne (ne_of_none k pn)]; exact k⟩
  · rw [upd_ne (fun e => pl e.symm)]; exact J6.free
  · have ne : c ≠ a := fun e => by
      subst e
      obtain ⟨v, k⟩ := J.cell x c q
      obtain ⟨o, k1, _⟩ := k
      rw [n1] at k1
      cases k1
    rw [upd_ne ne]; exact J6.freeC x c q
  · obtain ⟨k1, k2, k3, k4, k5⟩ := J6.pin p hp
    obtain ⟨m1, _⟩ := J.pin p hp
    have ne : p.1 ≠ a := fun e => by
      rw [e, n1] at m1
      cases m1
    exact ⟨k1, by rw [upd_ne ne]; exact k2, k3, k4, k5⟩
  · obtain ⟨vs, hv⟩ := hv
    intro b u e
    by_cases hb : b = a
    · subst hb
      rw [upd_same] at e
      cases e
      exact ⟨⟨oe, vs, pa, z, hv⟩, ⟨oe, pa⟩, fun h1 h2 k q => by
        obtain ⟨o2, vs2, k1, k2, k3⟩ := k
        exact ⟨o2, vs2, q _ k1, k2, k3⟩⟩
    · rw [upd_ne hb] at e
      exact (J6.hok b u e).stay (fun c v _ q => q) (fun c q => by rw [upd_ne (ne_of_none q pn)]; exact q) fun c xs q => by rw [upd_ne (ne_of_none q pn)]; exact q
end
theorem EnvOk.drop {K : PySem.W.Frag} {F H : Hp} {σ : L2.St} {G : Env} {fps : Nat → List Addr} {i : Nat} (e : EnvOk K F H σ G fps) : EnvOk K F H (σ.set i none) (G.set i none) (put fps i []) := by
  have sub : ∀ {j a}, a ∈ put fps i [] j → j ≠ i ∧ a ∈ fps j := fun {j a} h => by
    by_cases hj : j = i
    · subst hj; rw [put_same] at h; cases h
    · rw [put_ne hj] at h; exact ⟨hj, h⟩
  refine ⟨e.sub, by rw [List.length_set, List.length_set, e.len], fun j c h => ?_, fun j a h => e.own j a (sub h).2, fun j k a h h' => e.dis j k a (sub h).2 (sub h').2, e.tab⟩
  by_cases hj : j = i
  · subst hj
    by_cases hl : j < G.length
    · rw [List.getElem?_set_self hl] at h; cases h
    · rw [List.getElem?_eq_none (by simpa using hl)] at h; cases h
  · rw [List.getElem?_set_ne (fun z => hj z.symm)] at h
    obtain ⟨v, h1, h2⟩ := e.ent j c h
    exact ⟨v, by rw [List.getElem?_set_ne (fun z => hj z.symm)]; exact h1, by rw [put_ne hj]; exact h2⟩

/-! ### the layer's rule -/
def tryS {S Z : Type} (r : Sum S Z) (xh : Z → S) : S := match r with
  | .inl s => s
  | .inr x => xh x
/-- x, raised at G, ends at G' by a clause -/
def Caught (X : Cx) (K : PySem.W.Frag) (sv : Sv) (hds : List ExceptHandler) (G : Env) (x : Xc) (G' : Env) : Prop := ∀ F H σ fps d (D : Ends), EnvOk K F H σ G fps → Slf sv σ → XRep K F d x.fs →
  (∀ F' H' σ' fps', EnvOk K F' H' σ' G' fps' → Slf sv σ' → Le (Owns fps) F H F' H' (Owns fps') → D.nx σ' H') → wHds X (fun _ _ _ _ => False) D hds (.ref (He.ga K x.cls)) d σ H
section
variable {X : Cx} {K : PySem.W.Frag} {W : WX} {sv : Sv} {G : Env} {rest : List Stmt} {pos : Pos}
/-! ### within a suite -/
/-- e gives d wherever F0 stands -/
def EXs (X : Cx) (K : PySem.W.Frag) (F0 : Hp) (G : Env) (e : Expr) (d : Dt) : Prop := ∀ F H σ fps (Q : VK), Ex F0 F → EnvOk K F H σ G fps → (∀ F' H' v, Up F H F' H' → Rep K F' v d → Q v H') → wpE (one X) e σ H Q
def EAs (X : Cx) (K : PySem.W.Frag) (F0 : Hp) (G : Env) (es : List Expr) (ds : List Dt) : Prop := ∀ F H σ fps (Q : List V → Hp → Prop), Ex F0 F → EnvOk K F H σ G fps → (∀ F' H' vs, Up F H F' H' → RepL K F' vs ds → Q vs H') → wpA (one X) es σ H Q
/-- a suite runs from G to G' wherever F0 stands -/
def RunS (X : Cx) (K : PySem.W.Frag) (sv : Sv) (F0 : Hp) (ss : List Stmt) (G G' : Env) : Prop := ∀ F H σ fps (D : Ends), Ex F0 F → EnvOk K F H σ G fps → Slf sv σ → (∀ F' H' σ' fps', EnvOk K F' H' σ' G' fps' → Slf sv σ' → Le (Owns fps) F H F' H' (Owns fps') → D.nx σ' H') → wpSs X ss D σ H
end
section
variable {X : Cx} {K : PySem.W.Frag} {sv : Sv} {G : Env}
def rIsX (K : PySem.W.Frag) (C a : Addr) (d : Option Addr) : List V → Hp → VK → Prop := fun xs H Q => ∃ (c : V) (cv : Value) (b : Bool), xs = [.ref a, c] ∧ (∃ dd fs, d = some dd ∧ H dd = some (.xd fs)) ∧ (∀ u, RelV c u → u = cv) ∧ PySem.W.kitOne K (.ref C) cv = some b ∧ Q (.bl b) H
def rIsXT (K : PySem.W.Frag) (C a : Addr) (d : Option Addr) : List V → Hp → VK → Prop := fun xs H Q => ∃ (tp : Addr) (cs : List V) (b : Bool), xs = [.ref a, .ref tp] ∧ (∃ dd fs, d = some dd ∧ H dd = some (.xd fs)) ∧ H tp = some (.tup cs) ∧ (∀ us, Vals cs us → PySem.W.kitAny K (.ref C) us = some b) ∧ Q (.bl b) H
section
variable {a : Addr} {oe : Obj} {d : Option Addr} {pn : List (Addr × Obj)} {F0 : Hp} {C f y : Str} {t : Dt} {i : Nat} {p p' p2 p3 p4 pos : Pos} {b : Bool}
end
end
end Vs

/-! Lists of whatever data, the same data: not unlike. -/
namespace Vs
open PySem PySem.Spec L2
section
open PySem.AutoSeq1 PySem.MeetsSeq PySem.MeetsSeq2 PySem.MeetsSeq3 PySem.SeqRoads2 PySem.SeqAt
variable {prog : Program} {w : World}
abbrev LstAt (h : Heap) (l : Addr) (xs : Array Value) (n : Nat) (dd : Option Addr) (sl : Array (Option Value)) : Prop := h.get? l = some { cls := .type "list", dict := dd, data := .seq xs n, slots := sl }
theorem alike_loop (p q : Addr) (xs ys : Array Value) (n m : Nat) (d1 d2 : Option Addr) (z1 z2 : Array (Option Value)) (hz : xs.size = ys.size) (k : Nat) : ∀ i : Nat, xs.size - i = k →
    MeetsIn prog w (Builtin.«list.__eq__.loop» ⟨[.ref p, .ref q, rawInt i, rawInt 3], []⟩) (fun A R s => LstAt s.heap p xs n d1 z1 ∧ LstAt s.heap q ys m d2 z2 ∧ (∀ j (h1 : j < xs.size) (h2 : j < ys.size), EqIn prog w A.in1 s xs[j] ys[j] true) ∧ R (.ok (.ret (.bool false))) s) := by
  induction k with
  | zero =>
    intro i hk A R ⟨hp, g, d, tk, os⟩ ⟨g1, g2, g3, g4⟩
    wp_walk using wpAny_loadPart' g1, wpAny_loadPart' g2
    have e1 : xs[((i : Nat) : Int).toNat]? = none := by simp; omega
    have e2 : ys[((i : Nat) : Int).toNat]? = none := by simp; omega
    rw [e1, e2]
    wp_walk using wpAny_loadPart' g1, wpAny_loadPart' g2
    show R (.ok (.ret (.bool (xs.size != ys.size)))) _
    rw [hz]
    simpa using g4
  | succ k ih =>
    intro i hk A R ⟨hp, g, d, tk, os⟩ ⟨g1, g2, g3, g4⟩
    wp_walk using wpAny_loadPart' g1, wpAny_loadPart' g2
    have l1 : i < xs.size := by omega
    have l2 : i < ys.size := by omega
    have e1 : xs[((i : Nat) : Int).toNat]? = some xs[i] := by simp [l1]
    have e2 : ys[((i : Nat) : Int).toNat]? = some ys[i] := by simp [l2]
    have e3 : ((i : Int) + 1) = ((i + 1 : Nat) : Int) := by push_cast; rfl
    rw [e1, e2]
    refine wpAny_bind (g3 i l1 l2 _ _ ?_)
    wp_walk
    rw [e3]
    refine ⟨plainId_quiet plain_eq_loop _, codeAny_builtin entry_eq_loop ?_⟩
    rw [Around.under_plainId plain_eq_loop _]
    exact ih (i + 1) (by omega) A R _ ⟨g1, g2, g3, g4⟩
theorem alike_ne (p q : Addr) (xs ys : Array Value) (n m : Nat) (d1 d2 : Option Addr) (z1 z2 : Array (Option Value)) (hz : xs.size = ys.size) :
    MeetsIn prog w (Builtin.«list.__ne__» ⟨[.ref p, .ref q], []⟩) (fun A R s => LstAt s.heap p xs n d1 z1 ∧ LstAt s.heap q ys m d2 z2 ∧ (∀ j (h1 : j < xs.size) (h2 : j < ys.size), EqIn prog w A.in1 s xs[j] ys[j] true) ∧ R (.ok (.ret (.bool false))) s) := by
  intro A R ⟨hp, g, d, tk, os⟩ ⟨g1, g2, g3, g4⟩
  have sub := AutoSeq1.sub_list_list
  have un : ¬ (xs.size != ys.size) = true := by simp [hz]
  wp_walk using wpAny_loadPart' g1, wpAny_loadPart' g2
  refine ⟨plainId_quiet plain_eq_loop _, codeAny_builtin entry_eq_loop ?_⟩
  rw [Around.under_plainId plain_eq_loop _]
  exact alike_loop p q xs ys n m d1 d2 z1 z2 hz _ 0 rfl A R _ ⟨g1, g2, g3, g4⟩
theorem rc_alike {A : Around} {s : Shared} {E Q : Value → Shared → Prop} {p q : Addr} {xs ys : Array Value} (h1 : s.heap.IsList p xs) (h2 : s.heap.IsList q ys) (hz : xs.size = ys.size) (hu : A.units < cLine)
    (he : ∀ j (h1 : j < xs.size) (h2 : j < ys.size), EqIn prog w A.in1 s xs[j] ys[j] true) (k : Q (.bool false) s) : wpAny (model prog w) A (richCompare .NotEq (.ref p) (.ref q)) Q E s := by
  obtain ⟨⟨c1, a1, b1, z1⟩, o1, t1, n, e1⟩ := id h1
  obtain ⟨⟨c2, a2, b2, z2⟩, o2, t2, m, e2⟩ := id h2
  simp only at t1 e1 t2 e2
  subst t1 e1 t2 e2
  have go := alike_ne (prog := prog) (w := w) p q xs ys n m a1 a2 z1 z2 hz
  exact wpAny_richCompare_same_room (T := "list") (op := .NotEq) ⟨_, o1, rfl⟩ ⟨_, o2, rfl⟩ F.slot_list_ne (call_meetsIn F.slot_list_ne ⟨_, o1, rfl⟩ F.entry_list_ne (F.args_list_ne_2 _ _) go
    ⟨o1, o2, he, show Value.bool false ≠ Value.notImplemented ∧ Q (.bool false) s from ⟨(fun x => nomatch x), k⟩⟩) hu
end

/-- data that is like itself -/
def dynK : List (Key × Dt) → Bool
  | [] => true
  | (_, d) :: r => (d.flat && decide (d.py.depth ≤ 60)) && dynK r
def dynOk : Dt → Bool
  | .dic kvs => dynK kvs
  | d => d.flat && decide (d.py.depth ≤ 60)
section
variable {X : Cx} {pins : List (Addr × Obj)} {σ : L2.St} {H F : Hp} {s : Shared}
theorem flat_same (I : Inv X pins σ H s) (sb : Sub F H) {A : Around} (hu : A.units + 61 < cLine) {d : Dt} (ok : (d.flat && decide (d.py.depth ≤ 60)) = true) {v w : V} {u z : Value} (rv : Rep X.K F v d) (rw : Rep X.K F w d) (hv : RelV v u) (hw : RelV w z) : SeqAt.EqAt A s u z true := by
  obtain ⟨o1, o2⟩ := Bool.and_eq_true_iff.mp ok
  have o2 := of_decide_eq_true o2
  obtain ⟨as, r1⟩ := Dp.reads I _ _ _ (rv.dp sb o1) hv
  obtain ⟨bs, r2⟩ := Dp.reads I _ _ _ (rw.dp sb o1) hw
  have := SeqAt.eqAt_reads _ _ A s _ _ as bs r1 r2 (rv.lay o1) (rw.lay o1) (by
    have h2 : min d.py.depth d.py.depth ≤ d.py.depth := Nat.min_le_left _ _
    omega)
  rwa [SeqAt.eqv_refl _ (rv.lay o1)] at this
theorem kv_find {K : PySem.W.Frag} : ∀ {kvs : List (Key × Dt)} {ws : List (Key × V)}, RepK K F ws kvs → (ws.map (·.1)).Nodup → ∀ k d, (k, d) ∈ kvs → ∃ w, valV ws k = some w ∧ Rep K F w d
  | _, _, .nil, _, k, d, h => nomatch h
  | _, _, .cons (k := k0) (v := v) o r rs, nd, k, d, h => by
    rw [List.map_cons, List.nodup_cons] at nd
    rcases List.mem_cons.mp h with e | h
    · cases e
      exact ⟨v, valV_pos rfl, r⟩
    · obtain ⟨w, e1, e2⟩ := kv_find rs nd.2 k d h
      have ne : k0 ≠ k := fun z => by
        subst z
        have : ∀ {l : List (Key × V)}, valV l k0 = some w → k0 ∈ l.map (·.1) := fun {l} q => by
          induction l with
          | nil => cases q
          | cons p l ih =>
            obtain ⟨pk, pv⟩ := p
            by_cases hp : pk = k0
            · subst hp; simp
            · rw [List.map_cons]
              rw [valV_neg hp] at q
              exact List.mem_cons_of_mem _ (ih q)
        exact nd.1 (this e1)
      exact ⟨w, by rw [valV_neg ne]; exact e1, e2⟩
theorem same_in (I : Inv X pins σ H s) (sb : Sub F H) (hu : X.A.units + 64 < cLine) {d : Dt} (ok : dynOk d = true) {v w : V} {u z : Value} (rv : Rep X.K F v d) (rw : Rep X.K F w d) (hv : RelV v u) (hw : RelV w z) : SeqAt.EqIn X.prog X.w X.A.in1 s u z true := by
  have in1 : X.A.in1.units = X.A.units + 1 := rfl
  have fl : ∀ {d : Dt}, (d.flat && decide (d.py.depth ≤ 60)) = true → Rep X.K F v d → Rep X.K F w d → SeqAt.EqIn X.prog X.w X.A.in1 s u z true := fun ok rv rw => (flat_same I sb (by omega) ok rv rw hv hw).inModel _ _
  cases d with
  | dic kvs =>
    cases rv with
    | dic h1 l1 r1 n1 =>
      rename_i a vs
      cases rw with
      | dic h2 l2 r2 n2 =>
        rename_i b ws
        obtain rfl : u = Value.ref a := hv
        obtain rfl : z = Value.ref b := hw
        by_cases hab : a = b
        · subst hab
          exact (SeqAt.EqAt.same _).inModel _ _
        · obtain ⟨_, ya, va, ra, da⟩ := dk_rd I.hok (sb.rd h1)
          obtain ⟨_, yb, vb, rb, db⟩ := dk_rd I.hok (sb.rd h2)
          have key : ∀ {kv : List (Key × Dt)} {vs1 : List (Key × V)} {va1 : List (Key × Value)}, dynK kv = true → (∀ x ∈ kv, x ∈ kvs) → RepK X.K F vs1 kv → KV vs1 va1 → PySem.W.KeqHitsIn X.prog X.w X.A.in1.in1 s vb va1 true := by
            intro kv
            induction kv with
            | nil => intro vs1 va1 _ _ r k; cases r; cases k; exact .nil
            | cons p kv ih =>
              intro vs1 va1 o m r k
              obtain ⟨pk, pd⟩ := p
              cases r with
              | cons ko h t =>
                unfold KV at k
                cases k with
                | cons hk kt =>
                  rename_i q va2
                  obtain ⟨k1, k2⟩ := hk
                  obtain ⟨bk, bv⟩ := q
                  dsimp only at k1 k2
                  subst k1
                  obtain ⟨o1, o2⟩ := Bool.and_eq_true_iff.mp o
                  obtain ⟨w1, e1, e2⟩ := kv_find r2 n2 _ _ (m _ (List.mem_cons_self ..))
                  have rv := rb.val pk
                  rw [e1] at rv
                  obtain ⟨y, hy, ry⟩ := rv.some_of
                  have e := PySem.W.KeqHitsIn.hit (prog := X.prog) (w := X.w) hy ((flat_same I sb (A := X.A.in1.in1) (show X.A.units + 1 + 1 + 61 < cLine by omega) o1 h e2 k2 ry).inModel _ _) (ih o2 (fun x hx => m x (List.mem_cons_of_mem _ hx)) t kt)
                  exact e
          refine SeqAt.EqIn.of_refs hab fun E Q q => PySem.W.keq_eqIn (knd := mixKind X.prog X.w) (r := true) ya yb da db (by omega) (fun _ => key ok (fun _ h => h) r1 ra) ?_
          have e : va.length = vb.length := by
            have q1 : ∀ {kv : List (Key × Dt)} {vs1 : List (Key × V)}, RepK X.K F vs1 kv → vs1.length = kv.length := fun {kv} => by
              induction kv with
              | nil => intro vs1 r; cases r; rfl
              | cons p kv ih => intro vs1 r; cases r with | cons _ _ t => simp [ih t]
            rw [← ra.length, ← rb.length, q1 r1, q1 r2]
          rw [e]
          simpa using q
  | non => exact fl (by simpa [dynOk] using ok) rv rw
  | bl _ => exact fl (by simpa [dynOk] using ok) rv rw
  | int _ => exact fl (by simpa [dynOk] using ok) rv rw
  | str _ => exact fl (by simpa [dynOk] using ok) rv rw
  | lst _ => exact fl (by simpa [dynOk] using ok) rv rw
  | tup _ => exact fl (by simpa [dynOk] using ok) rv rw
  | dit _ => exact fl (by simpa [dynOk] using ok) rv rw
  | ins _ _ => exact fl (by simpa [dynOk] using ok) rv rw
  | scr _ => exact fl (by simpa [dynOk] using ok) rv rw
  | xc _ _ => exact fl (by simpa [dynOk] using ok) rv rw
def dynL : List Dt → Bool
  | [] => true
  | d :: r => dynOk d && dynL r
theorem op_neSelf (K : PySem.W.Frag) (hK : X.K = K) (hu : X.A.units + 64 < cLine) : OpR X (compareOp .NotEq) (fun x y H Q => ∃ (F : Hp) (a b : Addr) (vs ws : List V) (ds : List Dt), x = .ref a ∧ y = .ref b ∧ Sub F H ∧ SqL K H a vs ∧ SqL K H b ws ∧ RepL K F vs ds ∧ RepL K F ws ds ∧ dynL ds = true ∧ Q (.bl false) H) := by
  intro pins s σ H x y v u Q I rx ry h
  obtain ⟨F, a, b, vs, ws, ds, rfl, rfl, sb, ea, eb, ra, rb, ok, q⟩ := h
  subst hK
  obtain rfl : v = Value.ref a := rx
  obtain rfl : u = Value.ref b := ry
  obtain ⟨us, r1, p1, _⟩ := I.list (a := a) (xs := vs) ea
  obtain ⟨zs, r2, p2, _⟩ := I.list (a := b) (xs := ws) eb
  have lens : us.length = zs.length := by rw [← r1.length, ← r2.length, ra.len, rb.len]
  have all : ∀ {ds : List Dt} {vs ws : List V} {us zs : List Value}, dynL ds = true → RepL X.K F vs ds → RepL X.K F ws ds → Vals vs us → Vals ws zs → ∀ j (h1 : j < us.length) (h2 : j < zs.length), SeqAt.EqIn X.prog X.w X.A.in1 s us[j] zs[j] true := by
    intro ds
    induction ds with
    | nil => intro vs ws us zs _ a b c d j h1; cases a; cases c; exact absurd h1 (Nat.not_lt_zero _)
    | cons d ds ih =>
      intro vs ws us zs o a b c e j h1 h2
      obtain ⟨o1, o2⟩ := Bool.and_eq_true_iff.mp o
      cases a with
      | cons a1 a2 =>
        cases b with
        | cons b1 b2 =>
          cases c with
          | cons c1 c2 =>
            cases e with
            | cons e1 e2 =>
              cases j with
              | zero => exact same_in I sb hu o1 a1 b1 c1 e1
              | succ j => exact ih o2 a2 b2 c2 e2 j (Nat.lt_of_succ_lt_succ h1) (Nat.lt_of_succ_lt_succ h2)
  exact rc_alike p1.isList p2.isList (by simpa using lens) (by omega) (fun j h1 h2 => by simpa using all ok ra rb r1 r2 j (by simpa using h1) (by simpa using h2)) ⟨.bl false, H, I, rfl, q⟩
end
section
variable {I : Type} {X : I → Cx} {K : PySem.W.Frag} {G : Env}
theorem EX.dis {e : Expr} (d : Dt) (h : EX X K G e d) : EX X K G e d := h
theorem EN.dis {e : Expr} (c : Cell) (h : EN X K G e c) : EN X K G e c := h
theorem says_neSelf {xs ys : List Dt} (hu : ∀ j, (X j).A.units + 64 < cLine) (hK : ∀ j, (X j).K = K) (h : xs = ys) (ok : dynL ys = true) : Says X K .NotEq (.lst (xs.map id)) (.lst (ys.map id)) false :=
  ⟨_, fun j => op_neSelf K (hK j) (hu j), fun F H v w Q u r1 r2 k => by
    subst h
    rw [List.map_id] at r1 r2
    cases r1 with
    | lst h1 _ l1 =>
      cases r2 with
      | lst h2 _ l2 => exact ⟨F, _, _, _, _, _, rfl, rfl, u, SqL.of (u.lst h1), SqL.of (u.lst h2), l1, l2, ok, k⟩⟩
end
end Vs

/-! d.copy(); a part of a display set anew; an own dict walked by a statement and own again behind. -/
namespace Vs
open PySem PySem.Spec L2
section
variable {I : Type} {X : I → Cx} {K : PySem.W.Frag} {G : Env}
def rCpy : V → List V → Hp → VK → Prop := fun x xs H Q => ∃ (a : Addr) (kvs : List (Key × V)), x = .ref a ∧ xs = [] ∧ Rd H a (.dK kvs) ∧ ∀ p, H p = none → Q (.ref p) (upd H p (.dK kvs))
end

/-! ### a part of a display -/
theorem RepCL.set {K : PySem.W.Frag} {F H : Hp} {fp : List Addr} {w : V} {c : Cell} (rw : RepC K F H fp w c) : ∀ {fq : List Addr} {vs : List V} {cs : List Cell}, RepCL K F H fq vs cs → (∀ a ∈ fp, a ∉ fq) → ∀ (j : Nat), j < cs.length →
    ∃ f2, RepCL K F H f2 (vs.set j w) (cs.set j c) ∧ ∀ a ∈ f2, a ∈ fq ∨ a ∈ fp
  | _, _, _, .nil, _, j, h => absurd h (Nat.not_lt_zero _)
  | _, _, _, .cons (fp := f0) (fq := f1) r rs dj, d, 0, _ => ⟨fp ++ f1, .cons rw rs (fun a ha z => d a ha (List.mem_append_right _ z)), fun a ha => (List.mem_append.mp ha).elim .inr fun z => .inl (List.mem_append_right _ z)⟩
  | _, _, _, .cons (fp := f0) (fq := f1) r rs dj, d, j + 1, h => by
    obtain ⟨f2, r2, m⟩ := RepCL.set rw rs (fun a ha z => d a ha (List.mem_append_right _ z)) j (Nat.lt_of_succ_lt_succ h)
    refine ⟨f0 ++ f2, .cons r r2 fun a ha z => ?_, fun a ha => ?_⟩
    · rcases m a z with y | y
      · exact dj a ha y
      · exact d a y (List.mem_append_left _ ha)
    · rcases List.mem_append.mp ha with z | z
      · exact .inl (List.mem_append_left _ z)
      · exact (m a z).imp (fun y => List.mem_append_right _ y) id
section
variable {X : Cx} {K : PySem.W.Frag} {W : WX} {sv : Sv} {G : Env} {rest : List Stmt} {o : Out} {pos : Pos}
/-! ### a look at own things, by a statement -/
/-- what is frozen stays, the i-th is frozen, other own things are out of sight -/
def lookG (i : Nat) (d : Dt) : Nat → Env → Env
  | _, [] => []
  | n, c :: G => (if n = i then some (.fz d) else match c with
    | some (.fz x) => some (.fz x)
    | _ => none) :: lookG i d (n + 1) G
/-- the names at ks alone -/
def keepG (ks : List Nat) : Nat → Env → Env
  | _, [] => []
  | n, c :: G => (if memN ks n then c else none) :: keepG ks (n + 1) G
def heldG (G : Env) (ks : List Nat) : Bool := ks.all fun j => match G[j]? with
  | some (some _) => true
  | _ => false
end
end Vs

/-! Plain laws: dicts as maps; loops as folds; what becomes sure, round by round. -/
namespace Vs
open PySem PySem.Spec L2
section
variable {κ A : Type} [DecidableEq κ]
theorem gets_puts_same (k : κ) (a : A) : ∀ d : List (κ × A), gets (puts d k a) k = some a
  | [] => by simp [puts, gets]
  | p :: r => by
    unfold puts
    split
    · rename_i e; simp [gets, e]
    · rename_i e; simp [gets, e, gets_puts_same k a r]
theorem gets_puts_ne {k j : κ} (a : A) (h : j ≠ k) : ∀ d : List (κ × A), gets (puts d k a) j = gets d j
  | [] => by simp [puts, gets, Ne.symm h]
  | p :: r => by
    unfold puts
    split
    · rename_i e
      have : ¬ p.1 = j := fun z => h (z.symm.trans e)
      simp [gets, this]
    · rename_i e
      simp [gets, gets_puts_ne a h r]
theorem gets_none_iff {k : κ} : ∀ {d : List (κ × A)}, gets d k = none ↔ k ∉ d.map (·.1)
  | [] => by simp [gets]
  | p :: r => by
    unfold gets
    split
    · rename_i e; simp [e]
    · rename_i e
      rw [gets_none_iff (d := r), List.map_cons, List.mem_cons, not_or]
      exact ⟨fun h => ⟨fun z => e z.symm, h⟩, fun h => h.2⟩
theorem hasK_iff {k : κ} {d : List (κ × A)} : hasK d k = true ↔ k ∈ d.map (·.1) := by
  unfold hasK
  cases e : gets d k with
  | none => simp [gets_none_iff.mp e]
  | some a =>
    have : k ∈ d.map (·.1) := by
      by_cases h : k ∈ d.map (·.1)
      · exact h
      · rw [gets_none_iff.mpr h] at e; cases e
    simp [this]
theorem puts_fst_out {k : κ} {a : A} : ∀ {d : List (κ × A)}, k ∉ d.map (·.1) → (puts d k a).map (·.1) = d.map (·.1) ++ [k]
  | [], _ => rfl
  | p :: r, h => by
    rw [List.map_cons, List.mem_cons, not_or] at h
    unfold puts
    rw [if_neg (fun z => h.1 z.symm), List.map_cons, List.map_cons, puts_fst_out h.2]
    rfl
/-- the keys are unlike, and among U -/
structure Kd (U : List κ) (d : List (κ × A)) : Prop where
  nd : (d.map (·.1)).Nodup
  sb : ∀ k ∈ d.map (·.1), k ∈ U
theorem Kd.nil {U : List κ} : Kd U ([] : List (κ × A)) := ⟨List.nodup_nil, fun k h => by simp at h⟩
theorem Kd.put {U : List κ} {d : List (κ × A)} (h : Kd U d) {k : κ} {a : A} (hk : k ∈ U) : Kd U (puts d k a) := by
  refine ⟨puts_nodup h.nd, fun j hj => ?_⟩
  obtain ⟨z, hz, rfl⟩ := List.mem_map.mp hj
  rcases mem_puts hz with rfl | hz
  · exact hk
  · exact h.sb _ (List.mem_map.mpr ⟨z, hz, rfl⟩)
theorem nodup_le : ∀ {l U : List κ}, l.Nodup → (∀ x ∈ l, x ∈ U) → l.length ≤ U.length
  | [], U, _, _ => Nat.zero_le _
  | x :: l, U, nd, h => by
    rw [List.nodup_cons] at nd
    have hx := h x (by simp)
    have := nodup_le (U := U.erase x) nd.2 fun y hy => (List.mem_erase_of_ne (fun z => nd.1 (by rw [← z]; exact hy))).mpr (h y (List.mem_cons_of_mem _ hy))
    rw [List.length_erase_of_mem hx] at this
    have h1 : 1 ≤ U.length := List.length_pos_of_mem hx
    rw [List.length_cons]
    omega
theorem Kd.len {U : List κ} {d : List (κ × A)} (h : Kd U d) : d.length ≤ U.length := by
  have := nodup_le h.nd h.sb
  rw [List.length_map] at this
  exact this
end
/-! loops as folds -/
/-! what becomes sure -/
abbrev Ru := Bool × Str × List Str
abbrev Th := List (Str × Bool)
abbrev Rk := List (Str × Int)
def okR (t : Th) (a : Ru) : Bool := a.1 && (!hasK t a.2.1 && a.2.2.all fun q => hasK t q)
/-- the heads that come in a round -/
def heads (rs : List Ru) (t : Th) : List Str := (rs.filter (okR t)).map fun a => a.2.1
def putT (d : Th) (h : Str) : Th := puts d h true
def putB (c : Int) (s : Th × Rk) (h : Str) : Th × Rk := (puts s.1 h true, puts s.2 h c)
def uniq (hs : List Str) : List Str := (hs.foldl putT []).map Prod.fst
/-- how many rules wait -/
def waits (rs : List Ru) (t : Th) : Nat := (rs.filter fun a => !hasK t a.2.1).length
/-- the rounds: so many at most, the next one's number, what is there and the ranks -/
def sureGo (rs : List Ru) : Nat → Int → Th × Rk → Th × Rk
  | 0, _, s => s
  | n + 1, c, s => cond (heads rs s.1 == []) s (sureGo rs n (c + 1) ((heads rs s.1).foldl (putB c) s))
def Same2 (s u : Th × Rk) : Prop := (∀ k, gets s.1 k = gets u.1 k) ∧ ∀ k, gets s.2 k = gets u.2 k
structure Kd2 (U V : List Str) (s : Th × Rk) : Prop where
  t : Kd U s.1
  r : Kd V s.2
theorem Kd2.put {U V : List Str} {s : Th × Rk} (h : Kd2 U V s) {x : Str} (h1 : x ∈ U) (h2 : x ∈ V) (c : Int) : Kd2 U V (putB c s x) := ⟨h.t.put h1, h.r.put h2⟩
theorem Kd2.fold {U V : List Str} {c : Int} : ∀ {hs : List Str} {s : Th × Rk}, Kd2 U V s → (∀ x ∈ hs, x ∈ U ∧ x ∈ V) → Kd2 U V (hs.foldl (putB c) s)
  | [], _, h, _ => h
  | x :: hs, s, h, hh => by
    rw [List.foldl_cons]
    exact Kd2.fold (hs := hs) (h.put (hh x (by simp)).1 (hh x (by simp)).2 c) fun y hy => hh y (List.mem_cons_of_mem _ hy)
end Vs

/-! Plain laws: what a ground keeps; searches. -/
namespace Vs
open PySem PySem.Spec L2 TL PySem.StrLaws
section
variable {κ A : Type} [DecidableEq κ]
end
end Vs

/-! Plain laws: all ways to give things to letters, the last letter fastest. -/
namespace Vs
open PySem PySem.Spec L2
abbrev Gv := List (Str × Str)
def waysP (L T : List Str) : List Gv := L.foldl (fun found l => found.flatMap fun g => T.map fun t => puts g l t) [[]]
/-- by the digits of a number, the first letter by the last digit -/
def digs (T : List Str) : List Str → Nat → Gv → Gv
  | [], _, d => d
  | l :: ls, i, d => digs T ls (i / T.length) (puts d l (T.getD (i % T.length) default))
end Vs

/-! Orders of (number, text); what becomes sure, as a least closure. -/
namespace Vs
open PySem PySem.Spec L2
theorem leIS_iff {p q : Int × Str} : leIS p q = true ↔ p.1 < q.1 ∨ (p.1 = q.1 ∧ leS p.2 q.2 = true) := by
  unfold leIS
  rw [Bool.or_eq_true, Bool.and_eq_true, decide_eq_true_iff, decide_eq_true_iff]
theorem leIS_trans (a b c : Int × Str) (h : leIS a b = true) (h' : leIS b c = true) : leIS a c = true := by
  rw [leIS_iff] at *
  rcases h with h | ⟨h, k⟩ <;> rcases h' with h' | ⟨h', k'⟩
  · exact .inl (by omega)
  · exact .inl (by omega)
  · exact .inl (by omega)
  · exact .inr ⟨by omega, leS_trans _ _ _ k k'⟩
theorem leIS_total (a b : Int × Str) : (leIS a b || leIS b a) = true := by
  rw [Bool.or_eq_true, leIS_iff, leIS_iff]
  have t := leS_total a.2 b.2
  rw [Bool.or_eq_true] at t
  rcases Int.lt_trichotomy a.1 b.1 with h | h | h
  · exact .inl (.inl h)
  · rcases t with t | t
    · exact .inl (.inr ⟨h, t⟩)
    · exact .inr (.inr ⟨h.symm, t⟩)
  · exact .inr (.inl h)
/-! ### what becomes sure -/
inductive Der (rs : List Ru) : Str → Prop
  | mk {a : Ru} : a ∈ rs → a.1 = true → (∀ p ∈ a.2.2, Der rs p) → Der rs a.2.1
theorem Der.mono {rs rs' : List Ru} (h : ∀ a ∈ rs, a ∈ rs') {q : Str} (d : Der rs q) : Der rs' q := by
  induction d with
  | mk ha hs _ ih => exact .mk (h _ ha) hs ih
theorem hasK_puts {κ A : Type} [DecidableEq κ] (d : List (κ × A)) (k : κ) (a : A) (j : κ) : hasK (puts d k a) j = (decide (j = k) || hasK d j) := by
  unfold hasK
  by_cases e : j = k
  · subst e; rw [gets_puts_same]; simp
  · rw [gets_puts_ne _ e]; simp [e]
end Vs

/-! Sure sets. -/
namespace Vs
open PySem PySem.Spec L2
def rstL (acc : List Str) (a : Ru) : Bool := a.2.2.all fun p => decide (p ∈ acc)
/-- each one has a sure rule whose premises stand ahead -/
def suppL (rs : List Ru) : List Str → List Str → Bool
  | _, [] => true
  | acc, q :: l => (rs.any fun a => a.1 && (decide (a.2.1 = q) && rstL acc a)) && suppL rs (acc ++ [q]) l
theorem rstL_iff {acc : List Str} {a : Ru} : rstL acc a = true ↔ ∀ p ∈ a.2.2, p ∈ acc := by
  unfold rstL
  rw [List.all_eq_true]
  exact ⟨fun h p hp => of_decide_eq_true (h p hp), fun h p hp => decide_eq_true (h p hp)⟩
/-- a list that holds just what can be derived, each once, each behind its premises -/
def SureSet (rs : List Ru) (l : List Str) : Prop := l.Nodup ∧ suppL rs [] l = true ∧ ∀ q, Der rs q → q ∈ l
end Vs

/-! What is held and what is refused, round by round. -/
namespace Vs
open PySem PySem.Spec L2
abbrev Mu := Bool × Str × Str × List Str
abbrev WR := List (Str × (Str × Int))
abbrev RS := Th × Th × WR
def oppS (q : Str) : Str := cond (Txt.startswith q (Str.ofString "-")) (cutS q (some (1 : Int)) none) ((Str.ofString "-") ++ q)
def stB (U : Th) (x : Mu) : Bool := x.2.2.2.all fun p => hasK U p
def faB (D : Th) (x : Mu) : Bool := x.2.2.2.any fun p => hasK D p
def beB (B : Str × Str → Bool) (x : Mu) (o : List Mu) : Bool := o.any fun y => B (y.2.1, x.2.1)
def forR (rs : List Mu) (q : Str) : List Mu := rs.filter fun x => decide (x.2.2.1 = q)
def holdsS (rs : List Mu) (B : Str × Str → Bool) (F : Str → Bool) (D : Th) (q : Str) (S : List Mu) : Bool := cond (S.isEmpty || F (oppS q)) false ((forR rs (oppS q)).all fun x => faB D x || beB B x S)
def holdsA (rs : List Mu) (B : Str × Str → Bool) (F : Str → Bool) (U D : Th) (q : Str) : Bool := cond (F q) true (holdsS rs B F D q ((forR rs q).filter fun x => x.1 && stB U x))
def refS (rs : List Mu) (B : Str × Str → Bool) (F : Str → Bool) (U : Th) (q : Str) (S : List Mu) : Bool := cond (S.isEmpty || F (oppS q)) true ((forR rs (oppS q)).any fun x => stB U x && !beB B x S)
def refA (rs : List Mu) (B : Str × Str → Bool) (F : Str → Bool) (U D : Th) (q : Str) : Bool := cond (F q) false (refS rs B F U q ((forR rs q).filter fun x => x.1 && !faB D x))
abbrev wH : Str := Str.ofString "held"
abbrev wR : Str := Str.ofString "refused"
def wordA (rs : List Mu) (B : Str × Str → Bool) (F : Str → Bool) (s : RS) (q : Str) : Option Str := cond (holdsA rs B F s.1 s.2.1 q) (some wH) (cond (refA rs B F s.1 s.2.1 q) (some wR) none)
def comA (rs : List Mu) (B : Str × Str → Bool) (F : Str → Bool) (s : RS) (l : List Str) : List (Str × Str) := l.filterMap fun q => (wordA rs B F s q).map fun w => (q, w)
def entA (c : Int) (s : RS) (z : Str × Str) : RS := cond (z.2 == wH) (puts s.1 z.1 true, s.2.1, puts s.2.2 z.1 (z.2, c)) (s.1, puts s.2.1 z.1 true, puts s.2.2 z.1 (z.2, c))
def leftA (all : List Str) (s : RS) : List Str := all.filter fun q => !hasK s.2.2 q
def mostGo (rs : List Mu) (B : Str × Str → Bool) (F : Str → Bool) (all : List Str) : Nat → Int → RS → RS
  | 0, _, s => s
  | n + 1, c, s => cond (comA rs B F s (leftA all s)).isEmpty s (mostGo rs B F all n (c + 1) ((comA rs B F s (leftA all s)).foldl (entA c) s))
theorem entA_ranks (c : Int) (s : RS) (z : Str × Str) : (entA c s z).2.2 = puts s.2.2 z.1 (z.2, c) := by
  unfold entA
  cases z.2 == wH <;> rfl
theorem fold_ranks (c : Int) (q : Str) : ∀ (f : List (Str × Str)) (s : RS), hasK (f.foldl (entA c) s).2.2 q = (decide (q ∈ f.map (·.1)) || hasK s.2.2 q)
  | [], s => by simp
  | z :: f, s => by
    rw [List.foldl_cons, fold_ranks c q f, entA_ranks, hasK_puts, List.map_cons]
    by_cases e : q = z.1
    · simp [e]
    · have e' : (q == z.1) = false := by simpa using e
      simp [e, e']
theorem left_fold (all : List Str) (c : Int) (f : List (Str × Str)) (s : RS) : leftA all (f.foldl (entA c) s) = (leftA all s).filter fun q => !decide (q ∈ f.map (·.1)) := by
  unfold leftA
  rw [List.filter_filter]
  congr 1
  funext q
  rw [fold_ranks, Bool.not_or]
theorem word_is {rs : List Mu} {B : Str × Str → Bool} {F : Str → Bool} {s : RS} {q w : Str} (h : wordA rs B F s q = some w) : w = wH ∨ w = wR := by
  unfold wordA at h
  cases e1 : holdsA rs B F s.1 s.2.1 q with
  | true => rw [e1] at h; exact .inl (Option.some.inj h).symm
  | false =>
    rw [e1] at h
    cases e2 : refA rs B F s.1 s.2.1 q with
    | true => rw [e2] at h; exact .inr (Option.some.inj h).symm
    | false => rw [e2] at h; cases h
theorem com_mem {rs : List Mu} {B : Str × Str → Bool} {F : Str → Bool} {s : RS} {l : List Str} {z : Str × Str} (h : z ∈ comA rs B F s l) : z.1 ∈ l ∧ (z.2 = wH ∨ z.2 = wR) ∧ wordA rs B F s z.1 = some z.2 := by
  unfold comA at h
  obtain ⟨q, hq, e⟩ := List.mem_filterMap.mp h
  cases hw : wordA rs B F s q with
  | none => rw [hw] at e; cases e
  | some w =>
    rw [hw] at e
    have e' : (q, w) = z := Option.some.inj e
    subst e'
    exact ⟨hq, word_is hw, hw⟩
theorem left_lt {rs : List Mu} {B : Str × Str → Bool} {F : Str → Bool} {all : List Str} {c : Int} {s : RS} (h : (comA rs B F s (leftA all s)).isEmpty = false) : (leftA all ((comA rs B F s (leftA all s)).foldl (entA c) s)).length < (leftA all s).length := by
  rw [left_fold]
  cases e : comA rs B F s (leftA all s) with
  | nil => rw [e] at h; cases h
  | cons z f =>
    have hz : z ∈ comA rs B F s (leftA all s) := by rw [e]; exact List.mem_cons_self
    have hm := (com_mem hz).1
    refine List.length_filter_lt_length_iff_exists.mpr ⟨z.1, hm, ?_⟩
    simp
/-- what a state is -/
structure MI (all : List Str) (s : RS) : Prop where
  u : Kd all s.1
  d : Kd all s.2.1
  r : Kd all s.2.2
  w : ∀ q v, gets s.2.2 q = some v → v.1 = wH ∨ v.1 = wR
theorem MI.nil {all : List Str} : MI all ([], [], []) := ⟨Kd.nil, Kd.nil, Kd.nil, fun q v h => by cases h⟩
theorem MI.ent {all : List Str} {s : RS} (h : MI all s) {c : Int} {z : Str × Str} (hz : z.1 ∈ all) (hw : z.2 = wH ∨ z.2 = wR) : MI all (entA c s z) := by
  refine ⟨?_, ?_, by rw [entA_ranks]; exact h.r.put hz, fun q v e => ?_⟩
  · unfold entA
    cases z.2 == wH with
    | true => exact h.u.put hz
    | false => exact h.u
  · unfold entA
    cases z.2 == wH with
    | true => exact h.d
    | false => exact h.d.put hz
  · rw [entA_ranks] at e
    by_cases x : q = z.1
    · subst x
      rw [gets_puts_same] at e
      have e' := Option.some.inj e
      subst e'
      exact hw
    · rw [gets_puts_ne _ x] at e
      exact h.w q v e
theorem MI.fold {all : List Str} {c : Int} {f : List (Str × Str)} {s : RS} (h : MI all s) (hf : ∀ z ∈ f, z.1 ∈ all ∧ (z.2 = wH ∨ z.2 = wR)) : MI all (f.foldl (entA c) s) := by
  induction f generalizing s with
  | nil => exact h
  | cons z f ih =>
    rw [List.foldl_cons]
    exact ih (h.ent (hf z List.mem_cons_self).1 (hf z List.mem_cons_self).2) fun y hy => hf y (List.mem_cons_of_mem _ hy)
end Vs

/-! Held and refused: never both. -/
namespace Vs
open PySem PySem.Spec L2
/-- nothing is in both -/
def Apart (U D : Th) : Prop := ∀ p, hasK U p = true → hasK D p = false
theorem stands_falls {U D : Th} (h : Apart U D) {x : Mu} (s : stB U x = true) : faB D x = false := by
  cases e : faB D x with
  | false => rfl
  | true =>
    obtain ⟨p, hp, hd⟩ := List.any_eq_true.mp e
    have hu := List.all_eq_true.mp s p hp
    rw [h p hu] at hd; cases hd
theorem filter_sub {U D : Th} (h : Apart U D) (rs : List Mu) (q : Str) {x : Mu} (hx : x ∈ (forR rs q).filter fun x => x.1 && stB U x) : x ∈ (forR rs q).filter fun x => x.1 && !faB D x := by
  obtain ⟨a, b⟩ := List.mem_filter.mp hx
  obtain ⟨b1, b2⟩ := Bool.and_eq_true_iff.mp b
  exact List.mem_filter.mpr ⟨a, by rw [b1, stands_falls h b2]; rfl⟩
theorem beB_mono {B : Str × Str → Bool} {x : Mu} {S L : List Mu} (h : ∀ y ∈ S, y ∈ L) (e : beB B x S = true) : beB B x L = true := by
  obtain ⟨y, hy, hb⟩ := List.any_eq_true.mp e
  exact List.any_eq_true.mpr ⟨y, h y hy, hb⟩
/-- what holds next is not refused next -/
theorem holds_noref {rs : List Mu} {B : Str × Str → Bool} {F : Str → Bool} {U D : Th} (h : Apart U D) {q : Str} (e : holdsA rs B F U D q = true) : refA rs B F U D q = false := by
  unfold holdsA at e
  unfold refA
  cases hF : F q with
  | true => rfl
  | false =>
    rw [hF] at e
    show refS rs B F U q _ = false
    have e : holdsS rs B F D q ((forR rs q).filter fun x => x.1 && stB U x) = true := e
    unfold holdsS at e
    unfold refS
    have sub := fun (x : Mu) hx => filter_sub h rs q (x := x) hx
    generalize (forR rs q).filter (fun x => x.1 && stB U x) = S at e sub
    generalize (forR rs q).filter (fun x => x.1 && !faB D x) = L at sub
    cases c : (S.isEmpty || F (oppS q)) with
    | true => rw [c] at e; cases e
    | false =>
      rw [c] at e
      obtain ⟨c1, c2⟩ := Bool.or_eq_false_iff.mp c
      have hL : L.isEmpty = false := by
        cases S with
        | nil => cases c1
        | cons x S =>
          have := sub x List.mem_cons_self
          cases L with
          | nil => cases this
          | cons _ _ => rfl
      rw [hL, c2]
      show (forR rs (oppS q)).any _ = false
      have e : (forR rs (oppS q)).all (fun x => faB D x || beB B x S) = true := e
      refine List.any_eq_false.mpr fun x hx => ?_
      have ex := List.all_eq_true.mp e x hx
      intro z
      obtain ⟨z1, z2⟩ := Bool.and_eq_true_iff.mp z
      rw [stands_falls h z1] at ex
      have ex : beB B x S = true := by simpa using ex
      rw [beB_mono sub ex] at z2
      cases z2
/-- a relation without a ring on labels: something grows along it -/
def NoRing (B : Str × Str → Bool) : Prop := ∃ h : Str → Nat, ∀ a b, B (a, b) = true → h a < h b
end Vs

/-! The states of the rounds, and what a rank tells. -/
namespace Vs
open PySem PySem.Spec L2
section
variable (rs : List Mu) (B : Str × Str → Bool) (F : Str → Bool) (all : List Str)
def it : Nat → RS
  | 0 => ([], [], [])
  | n + 1 => (comA rs B F (it n) (leftA all (it n))).foldl (entA ((n : Int) + 1)) (it n)
theorem it_stay {n : Nat} (h : comA rs B F (it rs B F all n) (leftA all (it rs B F all n)) = []) : ∀ m, it rs B F all (n + m) = it rs B F all n
  | 0 => rfl
  | m + 1 => by
    show (comA rs B F (it rs B F all (n + m)) (leftA all (it rs B F all (n + m)))).foldl _ (it rs B F all (n + m)) = _
    rw [it_stay h m, h]
    rfl
end
theorem fold_gets_out (c : Int) {q : Str} : ∀ (f : List (Str × Str)) (s : RS), q ∉ f.map (·.1) → gets (f.foldl (entA c) s).2.2 q = gets s.2.2 q
  | [], s, _ => rfl
  | z :: f, s, h => by
    rw [List.map_cons, List.mem_cons, not_or] at h
    rw [List.foldl_cons, fold_gets_out c f _ h.2, entA_ranks, gets_puts_ne _ h.1]
theorem fold_gets_in (c : Int) {q w : Str} : ∀ (f : List (Str × Str)) (s : RS), (f.map (·.1)).Nodup → (q, w) ∈ f → gets (f.foldl (entA c) s).2.2 q = some (w, c)
  | [], s, _, h => by cases h
  | z :: f, s, hn, h => by
    rw [List.map_cons, List.nodup_cons] at hn
    rw [List.foldl_cons]
    rcases List.mem_cons.mp h with rfl | h
    · rw [fold_gets_out c f _ hn.1, entA_ranks, gets_puts_same]
    · exact fold_gets_in c f _ hn.2 h
theorem com_nodup {rs : List Mu} {B : Str × Str → Bool} {F : Str → Bool} {s : RS} : ∀ {l : List Str}, l.Nodup → ((comA rs B F s l).map (·.1)).Nodup
  | [], _ => List.nodup_nil
  | q :: l, h => by
    rw [List.nodup_cons] at h
    have ih := com_nodup (rs := rs) (B := B) (F := F) (s := s) h.2
    cases hw : wordA rs B F s q with
    | none =>
      have e : comA rs B F s (q :: l) = comA rs B F s l := by unfold comA; rw [List.filterMap_cons, hw]; rfl
      rw [e]; exact ih
    | some w =>
      have e : comA rs B F s (q :: l) = (q, w) :: comA rs B F s l := by unfold comA; rw [List.filterMap_cons, hw]; rfl
      rw [e, List.map_cons, List.nodup_cons]
      refine ⟨fun z => ?_, ih⟩
      obtain ⟨y, hy, e⟩ := List.mem_map.mp z
      have e : y.1 = q := e
      have := (com_mem hy).1
      rw [e] at this
      exact h.1 this
/-- what a rank tells -/
theorem rank_tells (rs : List Mu) (B : Str × Str → Bool) (F : Str → Bool) {all : List Str} (hn : all.Nodup) : ∀ (n : Nat) (q w : Str) (c : Int), gets (it rs B F all n).2.2 q = some (w, c) →
    ∃ k : Nat, c = (k : Int) + 1 ∧ k < n ∧ q ∈ all ∧ wordA rs B F (it rs B F all k) q = some w ∧ hasK (it rs B F all k).2.2 q = false
  | 0, q, w, c, h => by cases h
  | n + 1, q, w, c, h => by
    have h : gets ((comA rs B F (it rs B F all n) (leftA all (it rs B F all n))).foldl (entA ((n : Int) + 1)) (it rs B F all n)).2.2 q = some (w, c) := h
    have nd : ((comA rs B F (it rs B F all n) (leftA all (it rs B F all n))).map (·.1)).Nodup := com_nodup (hn.filter _)
    by_cases m : q ∈ (comA rs B F (it rs B F all n) (leftA all (it rs B F all n))).map (·.1)
    · obtain ⟨⟨q', w'⟩, hz, e⟩ := List.mem_map.mp m
      have e : q' = q := e
      subst e
      rw [fold_gets_in _ _ _ nd hz] at h
      have h := Option.some.inj h
      obtain ⟨a1, a2, a3⟩ := com_mem hz
      obtain ⟨b1, b2⟩ := List.mem_filter.mp a1
      have e1 : w' = w := (Prod.mk.inj h).1
      have e2 : (n : Int) + 1 = c := (Prod.mk.inj h).2
      subst e1
      exact ⟨n, e2.symm, by omega, b1, a3, by simpa using b2⟩
    · rw [fold_gets_out _ _ _ m] at h
      obtain ⟨k, k1, k2, k3, k4, k5⟩ := rank_tells rs B F hn n q w c h
      exact ⟨k, k1, by omega, k3, k4, k5⟩
theorem gets_hasK {A : Type} {d : List (Str × A)} {q : Str} {v : A} (h : gets d q = some v) : hasK d q = true := by
  unfold hasK; rw [h]; rfl
theorem hasK_none {A : Type} {d : List (Str × A)} {q : Str} (h : hasK d q = false) : gets d q = none := by
  cases e : gets d q with
  | none => rfl
  | some v => rw [gets_hasK e] at h; cases h
/-- a rank stays -/
theorem rank_stays (rs : List Mu) (B : Str × Str → Bool) (F : Str → Bool) (all : List Str) {q : Str} {v : Str × Int} {n : Nat} (h : gets (it rs B F all n).2.2 q = some v) : ∀ m, gets (it rs B F all (n + m)).2.2 q = some v
  | 0 => h
  | m + 1 => by
    have ih := rank_stays rs B F all h m
    show gets ((comA rs B F (it rs B F all (n + m)) (leftA all (it rs B F all (n + m)))).foldl (entA (((n + m : Nat) : Int) + 1)) (it rs B F all (n + m))).2.2 q = some v
    rw [fold_gets_out]
    · exact ih
    · intro z
      obtain ⟨y, hy, e⟩ := List.mem_map.mp z
      have e : y.1 = q := e
      have h2 := (List.mem_filter.mp (com_mem hy).1).2
      rw [e, gets_hasK ih] at h2
      cases h2
theorem wH_ne : wH ≠ wR := by decide +kernel
/-- up and down are what the ranks tell -/
structure UD (s : RS) : Prop where
  u : ∀ p, hasK s.1 p = true ↔ ∃ c, gets s.2.2 p = some (wH, c)
  d : ∀ p, hasK s.2.1 p = true ↔ ∃ c, gets s.2.2 p = some (wR, c)
theorem UD.ent {s : RS} (h : UD s) {c : Int} {z : Str × Str} (hw : z.2 = wH ∨ z.2 = wR) (hz : hasK s.2.2 z.1 = false) : UD (entA c s z) := by
  obtain ⟨q, w⟩ := z
  have g0 := hasK_none hz
  have u0 : hasK s.1 q = false := by
    cases e : hasK s.1 q with
    | false => rfl
    | true =>
      obtain ⟨c', e'⟩ := (h.u q).mp e
      rw [g0] at e'; cases e'
  have d0 : hasK s.2.1 q = false := by
    cases e : hasK s.2.1 q with
    | false => rfl
    | true =>
      obtain ⟨c', e'⟩ := (h.d q).mp e
      rw [g0] at e'; cases e'
  have e1 : (wH == wH) = true := beq_self_eq_true _
  have e2 : (wR == wH) = false := by decide +kernel
  rcases hw with hw | hw
  · have hw : w = wH := hw
    subst hw
    have ee : entA c s (q, wH) = (puts s.1 q true, s.2.1, puts s.2.2 q (wH, c)) := by
      unfold entA
      rw [show ((q, wH) : Str × Str).2 = wH from rfl, e1]; rfl
    rw [ee]
    refine ⟨fun p => ?_, fun p => ?_⟩
    · show hasK (puts s.1 q true) p = true ↔ ∃ c', gets (puts s.2.2 q (wH, c)) p = some (wH, c')
      by_cases x : p = q
      · subst x
        rw [hasK_puts, gets_puts_same]
        exact ⟨fun _ => ⟨c, rfl⟩, fun _ => by simp⟩
      · rw [hasK_puts, gets_puts_ne _ x, ← h.u p]
        simp [x]
    · show hasK s.2.1 p = true ↔ ∃ c', gets (puts s.2.2 q (wH, c)) p = some (wR, c')
      by_cases x : p = q
      · subst x
        rw [gets_puts_same, d0]
        exact ⟨fun z => (by cases z), fun ⟨c', z⟩ => absurd (Prod.mk.inj (Option.some.inj z)).1 wH_ne⟩
      · rw [gets_puts_ne _ x]
        exact h.d p
  · have hw : w = wR := hw
    subst hw
    have ee : entA c s (q, wR) = (s.1, puts s.2.1 q true, puts s.2.2 q (wR, c)) := by
      unfold entA
      rw [show ((q, wR) : Str × Str).2 = wR from rfl, e2]; rfl
    rw [ee]
    refine ⟨fun p => ?_, fun p => ?_⟩
    · show hasK s.1 p = true ↔ ∃ c', gets (puts s.2.2 q (wR, c)) p = some (wH, c')
      by_cases x : p = q
      · subst x
        rw [gets_puts_same, u0]
        exact ⟨fun z => (by cases z), fun ⟨c', z⟩ => absurd (Prod.mk.inj (Option.some.inj z)).1.symm wH_ne⟩
      · rw [gets_puts_ne _ x]
        exact h.u p
    · show hasK (puts s.2.1 q true) p = true ↔ ∃ c', gets (puts s.2.2 q (wR, c)) p = some (wR, c')
      by_cases x : p = q
      · subst x
        rw [hasK_puts, gets_puts_same]
        exact ⟨fun _ => ⟨c, rfl⟩, fun _ => by simp⟩
      · rw [hasK_puts, gets_puts_ne _ x, ← h.d p]
        simp [x]
theorem UD.fold {c : Int} : ∀ {f : List (Str × Str)} {s : RS}, UD s → (f.map (·.1)).Nodup → (∀ z ∈ f, (z.2 = wH ∨ z.2 = wR) ∧ hasK s.2.2 z.1 = false) → UD (f.foldl (entA c) s)
  | [], s, h, _, _ => h
  | z :: f, s, h, hn, hf => by
    rw [List.map_cons, List.nodup_cons] at hn
    rw [List.foldl_cons]
    obtain ⟨a, b⟩ := hf z List.mem_cons_self
    refine UD.fold (h.ent a b) hn.2 fun y hy => ⟨(hf y (List.mem_cons_of_mem _ hy)).1, ?_⟩
    rw [entA_ranks, hasK_puts, (hf y (List.mem_cons_of_mem _ hy)).2, Bool.or_false]
    refine decide_eq_false fun e => hn.1 ?_
    rw [← e]
    exact List.mem_map.mpr ⟨y, hy, rfl⟩
theorem it_ud (rs : List Mu) (B : Str × Str → Bool) (F : Str → Bool) {all : List Str} (hn : all.Nodup) : ∀ n, UD (it rs B F all n)
  | 0 => ⟨fun p => ⟨fun z => (by cases z), fun ⟨_, z⟩ => (by cases z)⟩, fun p => ⟨fun z => (by cases z), fun ⟨_, z⟩ => (by cases z)⟩⟩
  | n + 1 => (it_ud rs B F hn n).fold (com_nodup (hn.filter _)) fun z hz => ⟨(com_mem hz).2.1, by
      have := (List.mem_filter.mp (com_mem hz).1).2
      simpa using this⟩
/-- what is held at one time is refused at none -/
theorem it_apart (rs : List Mu) (B : Str × Str → Bool) (F : Str → Bool) {all : List Str} (hn : all.Nodup) (n m : Nat) : Apart (it rs B F all n).1 (it rs B F all m).2.1 := fun p hp => by
  cases e : hasK (it rs B F all m).2.1 p with
  | false => rfl
  | true =>
    obtain ⟨c, h1⟩ := ((it_ud rs B F hn n).u p).mp hp
    obtain ⟨c', h2⟩ := ((it_ud rs B F hn m).d p).mp e
    have a := rank_stays rs B F all h1 m
    have b := rank_stays rs B F all h2 n
    rw [Nat.add_comm m n, a] at b
    exact absurd (Prod.mk.inj (Option.some.inj b)).1 wH_ne
theorem it_wait (rs : List Mu) (B : Str × Str → Bool) (F : Str → Bool) (all : List Str) : ∀ n, comA rs B F (it rs B F all n) (leftA all (it rs B F all n)) = [] ∨ (leftA all (it rs B F all n)).length + n ≤ all.length
  | 0 => .inr (by have := List.length_filter_le (fun q => !hasK (it rs B F all 0).2.2 q) all; exact this)
  | n + 1 => by
    cases e : (comA rs B F (it rs B F all n) (leftA all (it rs B F all n))).isEmpty with
    | true =>
      have h := List.isEmpty_iff.mp e
      have e2 := it_stay rs B F all h 1
      rw [e2]
      exact .inl h
    | false =>
      rcases it_wait rs B F all n with h | h
      · rw [h] at e; cases e
      · have lt := left_lt (rs := rs) (B := B) (F := F) (all := all) (s := it rs B F all n) (c := (n : Int) + 1) e
        have lt : (leftA all (it rs B F all (n + 1))).length < (leftA all (it rs B F all n)).length := lt
        exact .inr (by omega)
/-- what is not ranked at the end has no word -/
theorem it_end (rs : List Mu) (B : Str × Str → Bool) (F : Str → Bool) {all : List Str} {q : Str} (hq : q ∈ all) (hr : hasK (it rs B F all (all.length + 1)).2.2 q = false) : wordA rs B F (it rs B F all (all.length + 1)) q = none := by
  have h : comA rs B F (it rs B F all (all.length + 1)) (leftA all (it rs B F all (all.length + 1))) = [] := by
    rcases it_wait rs B F all (all.length + 1) with h | h
    · exact h
    · omega
  cases e : wordA rs B F (it rs B F all (all.length + 1)) q with
  | none => rfl
  | some w =>
    have : (q, w) ∈ comA rs B F (it rs B F all (all.length + 1)) (leftA all (it rs B F all (all.length + 1))) := List.mem_filterMap.mpr ⟨q, List.mem_filter.mpr ⟨hq, by rw [hr]; rfl⟩, by rw [e]; rfl⟩
    rw [h] at this; cases this
/-! ### only premises are looked at -/
theorem all_cong {A : Type} {p q : A → Bool} : ∀ {l : List A}, (∀ x ∈ l, p x = q x) → l.all p = l.all q
  | [], _ => rfl
  | x :: l, h => by rw [List.all_cons, List.all_cons, h x List.mem_cons_self, all_cong fun y hy => h y (List.mem_cons_of_mem _ hy)]
theorem any_cong {A : Type} {p q : A → Bool} : ∀ {l : List A}, (∀ x ∈ l, p x = q x) → l.any p = l.any q
  | [], _ => rfl
  | x :: l, h => by rw [List.any_cons, List.any_cons, h x List.mem_cons_self, any_cong fun y hy => h y (List.mem_cons_of_mem _ hy)]
section
variable {rs : List Mu} {B : Str × Str → Bool} {F F' : Str → Bool} {U U' D D' : Th} (hu : ∀ x ∈ rs, ∀ p ∈ x.2.2.2, hasK U p = hasK U' p) (hd : ∀ x ∈ rs, ∀ p ∈ x.2.2.2, hasK D p = hasK D' p) {q : Str} (f1 : F q = F' q) (f2 : F (oppS q) = F' (oppS q))
include hu hd f1 f2
theorem holdsA_cong : holdsA rs B F U D q = holdsA rs B F' U' D' q := by
  have es : (forR rs q).filter (fun x => x.1 && stB U x) = (forR rs q).filter (fun x => x.1 && stB U' x) := List.filter_congr fun x hx => by
    have : stB U x = stB U' x := all_cong (hu x (List.mem_filter.mp hx).1)
    rw [this]
  unfold holdsA holdsS
  rw [es, f1, f2]
  congr 2
  refine all_cong fun x hx => ?_
  have : faB D x = faB D' x := any_cong (hd x (List.mem_filter.mp hx).1)
  rw [this]
theorem refA_cong : refA rs B F U D q = refA rs B F' U' D' q := by
  have es : (forR rs q).filter (fun x => x.1 && !faB D x) = (forR rs q).filter (fun x => x.1 && !faB D' x) := List.filter_congr fun x hx => by
    have : faB D x = faB D' x := any_cong (hd x (List.mem_filter.mp hx).1)
    rw [this]
  unfold refA refS
  rw [es, f1, f2]
  congr 2
  refine any_cong fun x hx => ?_
  have : stB U x = stB U' x := all_cong (hu x (List.mem_filter.mp hx).1)
  rw [this]
end
end Vs

/-! The rounds grow; their end is the least closed state; rounds that begin with what is known. -/
namespace Vs
open PySem PySem.Spec L2
section
variable {rs : List Mu} {B : Str × Str → Bool} {F : Str → Bool} {U U' D D' : Th} (hu : ∀ x ∈ rs, ∀ p ∈ x.2.2.2, hasK U p = true → hasK U' p = true) (hd : ∀ x ∈ rs, ∀ p ∈ x.2.2.2, hasK D p = true → hasK D' p = true) {q : Str}
theorem stB_mono {x : Mu} (hu : ∀ p ∈ x.2.2.2, hasK U p = true → hasK U' p = true) (h : stB U x = true) : stB U' x = true :=
  List.all_eq_true.mpr fun p hp => hu p hp (List.all_eq_true.mp h p hp)
theorem faB_mono {x : Mu} (hd : ∀ p ∈ x.2.2.2, hasK D p = true → hasK D' p = true) (h : faB D x = true) : faB D' x = true := by
  obtain ⟨p, hp, e⟩ := List.any_eq_true.mp h
  exact List.any_eq_true.mpr ⟨p, hp, hd p hp e⟩
theorem forR_mem {x : Mu} (h : x ∈ forR rs q) : x ∈ rs := (List.mem_filter.mp h).1
include hu hd
theorem holdsA_mono (h : holdsA rs B F U D q = true) : holdsA rs B F U' D' q = true := by
  unfold holdsA at h ⊢
  cases hF : F q with
  | true => rfl
  | false =>
    rw [hF] at h
    have h : holdsS rs B F D q ((forR rs q).filter fun x => x.1 && stB U x) = true := h
    show holdsS rs B F D' q ((forR rs q).filter fun x => x.1 && stB U' x) = true
    unfold holdsS at h ⊢
    have sub : ∀ y ∈ (forR rs q).filter (fun x => x.1 && stB U x), y ∈ (forR rs q).filter fun x => x.1 && stB U' x := fun y hy => by
      obtain ⟨a, b⟩ := List.mem_filter.mp hy
      obtain ⟨b1, b2⟩ := Bool.and_eq_true_iff.mp b
      exact List.mem_filter.mpr ⟨a, by rw [b1, stB_mono (hu y (forR_mem a)) b2]; rfl⟩
    generalize (forR rs q).filter (fun x => x.1 && stB U x) = S at h sub
    generalize (forR rs q).filter (fun x => x.1 && stB U' x) = S' at sub ⊢
    cases c : (S.isEmpty || F (oppS q)) with
    | true => rw [c] at h; cases h
    | false =>
      rw [c] at h
      obtain ⟨c1, c2⟩ := Bool.or_eq_false_iff.mp c
      have hS : S'.isEmpty = false := by
        cases S with
        | nil => cases c1
        | cons x S =>
          have := sub x List.mem_cons_self
          cases S' with
          | nil => cases this
          | cons _ _ => rfl
      rw [hS, c2]
      have h : (forR rs (oppS q)).all (fun x => faB D x || beB B x S) = true := h
      show (forR rs (oppS q)).all (fun x => faB D' x || beB B x S') = true
      refine List.all_eq_true.mpr fun x hx => ?_
      have := List.all_eq_true.mp h x hx
      rcases Bool.or_eq_true_iff.mp this with z | z
      · rw [faB_mono (hd x (forR_mem hx)) z]; rfl
      · rw [beB_mono sub z, Bool.or_true]
theorem refA_mono (h : refA rs B F U D q = true) : refA rs B F U' D' q = true := by
  unfold refA at h ⊢
  cases hF : F q with
  | true => rw [hF] at h; cases h
  | false =>
    rw [hF] at h
    have h : refS rs B F U q ((forR rs q).filter fun x => x.1 && !faB D x) = true := h
    show refS rs B F U' q ((forR rs q).filter fun x => x.1 && !faB D' x) = true
    unfold refS at h ⊢
    have sub : ∀ y ∈ (forR rs q).filter (fun x => x.1 && !faB D' x), y ∈ (forR rs q).filter fun x => x.1 && !faB D x := fun y hy => by
      obtain ⟨a, b⟩ := List.mem_filter.mp hy
      obtain ⟨b1, b2⟩ := Bool.and_eq_true_iff.mp b
      refine List.mem_filter.mpr ⟨a, ?_⟩
      rw [b1]
      cases e : faB D y with
      | false => rfl
      | true => rw [faB_mono (hd y (forR_mem a)) e] at b2; cases b2
    generalize (forR rs q).filter (fun x => x.1 && !faB D x) = S at h sub
    generalize (forR rs q).filter (fun x => x.1 && !faB D' x) = S' at sub ⊢
    cases c : (S'.isEmpty || F (oppS q)) with
    | true => rfl
    | false =>
      obtain ⟨c1, c2⟩ := Bool.or_eq_false_iff.mp c
      have hS : S.isEmpty = false := by
        cases S' with
        | nil => cases c1
        | cons x S' =>
          have := sub x List.mem_cons_self
          cases S with
          | nil => cases this
          | cons _ _ => rfl
      rw [hS, c2] at h
      have h : (forR rs (oppS q)).any (fun x => stB U x && !beB B x S) = true := h
      show (forR rs (oppS q)).any (fun x => stB U' x && !beB B x S') = true
      obtain ⟨x, hx, z⟩ := List.any_eq_true.mp h
      obtain ⟨z1, z2⟩ := Bool.and_eq_true_iff.mp z
      refine List.any_eq_true.mpr ⟨x, hx, ?_⟩
      rw [stB_mono (hu x (forR_mem hx)) z1]
      cases e : beB B x S' with
      | false => rfl
      | true => rw [beB_mono sub e] at z2; cases z2
end
/-- closed over a list -/
structure ClosedA (rs : List Mu) (B : Str × Str → Bool) (F : Str → Bool) (all : List Str) (U D : Th) : Prop where
  h : ∀ q ∈ all, holdsA rs B F U D q = true → hasK U q = true
  r : ∀ q ∈ all, refA rs B F U D q = true → hasK D q = true
theorem word_h {rs : List Mu} {B : Str × Str → Bool} {F : Str → Bool} {s : RS} {q : Str} (h : wordA rs B F s q = some wH) : holdsA rs B F s.1 s.2.1 q = true := by
  unfold wordA at h
  cases e : holdsA rs B F s.1 s.2.1 q with
  | true => rfl
  | false =>
    rw [e] at h
    cases e2 : refA rs B F s.1 s.2.1 q with
    | true => rw [e2] at h; exact absurd (Option.some.inj h).symm wH_ne
    | false => rw [e2] at h; cases h
theorem word_r {rs : List Mu} {B : Str × Str → Bool} {F : Str → Bool} {s : RS} {q : Str} (h : wordA rs B F s q = some wR) : refA rs B F s.1 s.2.1 q = true := by
  unfold wordA at h
  cases e : holdsA rs B F s.1 s.2.1 q with
  | true => rw [e] at h; exact absurd (Option.some.inj h) wH_ne
  | false =>
    rw [e] at h
    cases e2 : refA rs B F s.1 s.2.1 q with
    | true => rfl
    | false => rw [e2] at h; cases h
theorem word_none_h {rs : List Mu} {B : Str × Str → Bool} {F : Str → Bool} {s : RS} {q : Str} (h : wordA rs B F s q = none) : holdsA rs B F s.1 s.2.1 q = false ∧ refA rs B F s.1 s.2.1 q = false := by
  unfold wordA at h
  cases e : holdsA rs B F s.1 s.2.1 q with
  | true => rw [e] at h; cases h
  | false =>
    rw [e] at h
    cases e2 : refA rs B F s.1 s.2.1 q with
    | true => rw [e2] at h; cases h
    | false => exact ⟨rfl, rfl⟩
theorem it_upto (rs : List Mu) (B : Str × Str → Bool) (F : Str → Bool) {all : List Str} (hn : all.Nodup) (n m : Nat) (p : Str) : (hasK (it rs B F all n).1 p = true → hasK (it rs B F all (n + m)).1 p = true) ∧ (hasK (it rs B F all n).2.1 p = true → hasK (it rs B F all (n + m)).2.1 p = true) := by
  refine ⟨fun h => ?_, fun h => ?_⟩
  · obtain ⟨c, g⟩ := ((it_ud rs B F hn n).u p).mp h
    exact ((it_ud rs B F hn (n + m)).u p).mpr ⟨c, rank_stays rs B F all g m⟩
  · obtain ⟨c, g⟩ := ((it_ud rs B F hn n).d p).mp h
    exact ((it_ud rs B F hn (n + m)).d p).mpr ⟨c, rank_stays rs B F all g m⟩
/-- the end is closed -/
theorem it_closed (rs : List Mu) (B : Str × Str → Bool) (F : Str → Bool) {all : List Str} (hn : all.Nodup) : ClosedA rs B F all (it rs B F all (all.length + 1)).1 (it rs B F all (all.length + 1)).2.1 := by
  have ap := it_apart rs B F hn (all.length + 1) (all.length + 1)
  have ud := it_ud rs B F hn (all.length + 1)
  have key : ∀ q ∈ all, ∀ (hw : wordA rs B F (it rs B F all (all.length + 1)) q ≠ none), ∃ j, j < all.length + 1 ∧ ∃ w c, gets (it rs B F all (all.length + 1)).2.2 q = some (w, c) ∧ wordA rs B F (it rs B F all j) q = some w := fun q hq hw => by
    cases g : gets (it rs B F all (all.length + 1)).2.2 q with
    | none => exact absurd (it_end rs B F hq (by unfold hasK; rw [g]; rfl)) hw
    | some v =>
      obtain ⟨w, c⟩ := v
      obtain ⟨j, j1, j2, j3, j4, j5⟩ := rank_tells rs B F hn _ q w c g
      exact ⟨j, j2, w, c, rfl, j4⟩
  refine ⟨fun q hq h => ?_, fun q hq h => ?_⟩
  · obtain ⟨j, hj, w, c, g, hw⟩ := key q hq (fun z => by rw [(word_none_h z).1] at h; cases h)
    rcases word_is hw with rfl | rfl
    · exact (ud.u q).mpr ⟨c, g⟩
    · have r := refA_mono (U' := (it rs B F all (all.length + 1)).1) (D' := (it rs B F all (all.length + 1)).2.1) (fun x _ p _ z => by
        have := (it_upto rs B F hn j (all.length + 1 - j) p).1 z
        rwa [Nat.add_sub_cancel' (by omega)] at this) (fun x _ p _ z => by
        have := (it_upto rs B F hn j (all.length + 1 - j) p).2 z
        rwa [Nat.add_sub_cancel' (by omega)] at this) (word_r hw)
      rw [holds_noref ap h] at r; cases r
  · obtain ⟨j, hj, w, c, g, hw⟩ := key q hq (fun z => by rw [(word_none_h z).2] at h; cases h)
    rcases word_is hw with rfl | rfl
    · have r := holdsA_mono (U' := (it rs B F all (all.length + 1)).1) (D' := (it rs B F all (all.length + 1)).2.1) (fun x _ p _ z => by
        have := (it_upto rs B F hn j (all.length + 1 - j) p).1 z
        rwa [Nat.add_sub_cancel' (by omega)] at this) (fun x _ p _ z => by
        have := (it_upto rs B F hn j (all.length + 1 - j) p).2 z
        rwa [Nat.add_sub_cancel' (by omega)] at this) (word_h hw)
      rw [holds_noref ap r] at h; cases h
    · exact (ud.d q).mpr ⟨c, g⟩
/-- the step of a rank -/
theorem it_step (rs : List Mu) (B : Str × Str → Bool) (F : Str → Bool) {all : List Str} (hn : all.Nodup) (n : Nat) (q : Str) :
    gets (it rs B F all (n + 1)).2.2 q = (gets (it rs B F all n).2.2 q).or (if q ∈ all then (wordA rs B F (it rs B F all n) q).map (fun w => (w, (n : Int) + 1)) else none) := by
  cases g : gets (it rs B F all n).2.2 q with
  | some v => exact rank_stays rs B F all g 1
  | none =>
    show gets ((comA rs B F (it rs B F all n) (leftA all (it rs B F all n))).foldl (entA ((n : Int) + 1)) (it rs B F all n)).2.2 q = if q ∈ all then _ else none
    have nd : ((comA rs B F (it rs B F all n) (leftA all (it rs B F all n))).map (·.1)).Nodup := com_nodup (hn.filter _)
    by_cases m : q ∈ all
    · rw [if_pos m]
      have hl : q ∈ leftA all (it rs B F all n) := List.mem_filter.mpr ⟨m, by unfold hasK; rw [g]; rfl⟩
      cases w : wordA rs B F (it rs B F all n) q with
      | some w' =>
        have hm : (q, w') ∈ comA rs B F (it rs B F all n) (leftA all (it rs B F all n)) := List.mem_filterMap.mpr ⟨q, hl, by rw [w]; rfl⟩
        exact fold_gets_in _ _ _ nd hm
      | none =>
        refine (fold_gets_out _ _ _ fun z => ?_).trans g
        obtain ⟨y, hy, e⟩ := List.mem_map.mp z
        have e : y.1 = q := e
        have := (com_mem hy).2.2
        rw [e, w] at this; cases this
    · rw [if_neg m]
      refine (fold_gets_out _ _ _ fun z => ?_).trans g
      obtain ⟨y, hy, e⟩ := List.mem_map.mp z
      have e : y.1 = q := e
      exact m (e ▸ (List.mem_filter.mp (com_mem hy).1).1)
/-! ### rounds from a start -/
section
variable (rs : List Mu) (B : Str × Str → Bool) (F : Str → Bool) (all : List Str) (s0 : RS)
def jt : Nat → RS
  | 0 => s0
  | n + 1 => (comA rs B F (jt n) (leftA all (jt n))).foldl (entA ((n : Int) + 1)) (jt n)
end
/-- what an entry keeps and brings -/
theorem entA_up (c : Int) (s : RS) (z : Str × Str) (p : Str) : hasK (entA c s z).1 p = (hasK s.1 p || (decide (p = z.1) && (z.2 == wH))) ∧ hasK (entA c s z).2.1 p = (hasK s.2.1 p || (decide (p = z.1) && !(z.2 == wH))) := by
  unfold entA
  cases z.2 == wH with
  | true =>
    refine ⟨?_, by simp⟩
    show hasK (puts s.1 z.1 true) p = _
    rw [hasK_puts, Bool.and_true, Bool.or_comm]
  | false =>
    refine ⟨by simp, ?_⟩
    show hasK (puts s.2.1 z.1 true) p = _
    rw [hasK_puts, Bool.not_false, Bool.and_true, Bool.or_comm]
theorem fold_up (c : Int) (p : Str) : ∀ (f : List (Str × Str)) (s : RS), (hasK (f.foldl (entA c) s).1 p = true ↔ hasK s.1 p = true ∨ ∃ z ∈ f, z.1 = p ∧ (z.2 == wH) = true) ∧ (hasK (f.foldl (entA c) s).2.1 p = true ↔ hasK s.2.1 p = true ∨ ∃ z ∈ f, z.1 = p ∧ (z.2 == wH) = false)
  | [], s => by simp
  | z :: f, s => by
    rw [List.foldl_cons]
    obtain ⟨a, b⟩ := fold_up c p f (entA c s z)
    obtain ⟨e1, e2⟩ := entA_up c s z p
    rw [a, b, e1, e2]
    simp only [List.mem_cons, exists_eq_or_imp, Bool.or_eq_true, Bool.and_eq_true, decide_eq_true_eq, Bool.not_eq_true']
    constructor
    · constructor
      · rintro ((h | ⟨h1, h2⟩) | h)
        · exact .inl h
        · exact .inr (.inl ⟨h1.symm, h2⟩)
        · exact .inr (.inr h)
      · rintro (h | ⟨h1, h2⟩ | h)
        · exact .inl (.inl h)
        · exact .inl (.inr ⟨h1.symm, h2⟩)
        · exact .inr h
    · constructor
      · rintro ((h | ⟨h1, h2⟩) | h)
        · exact .inl h
        · exact .inr (.inl ⟨h1.symm, h2⟩)
        · exact .inr (.inr h)
      · rintro (h | ⟨h1, h2⟩ | h)
        · exact .inl (.inl h)
        · exact .inl (.inr ⟨h1.symm, h2⟩)
        · exact .inr h
/-- what is ranked stands above or below -/
structure RU (all : List Str) (s : RS) : Prop where
  m : ∀ q v, gets s.2.2 q = some v → q ∈ all
  h : ∀ q v, gets s.2.2 q = some v → (v.1 = wH ∧ hasK s.1 q = true) ∨ (v.1 = wR ∧ hasK s.2.1 q = true)
theorem RU.ent {all : List Str} {s : RS} (I : RU all s) {c : Int} {z : Str × Str} (hz : z.1 ∈ all) (hw : z.2 = wH ∨ z.2 = wR) : RU all (entA c s z) := by
  refine ⟨fun q v g => ?_, fun q v g => ?_⟩
  · rw [entA_ranks] at g
    by_cases x : q = z.1
    · rw [x]; exact hz
    · rw [gets_puts_ne _ x] at g
      exact I.m q v g
  · rw [entA_ranks] at g
    obtain ⟨e1, e2⟩ := entA_up c s z q
    rw [e1, e2]
    by_cases x : q = z.1
    · subst x
      rw [gets_puts_same] at g
      have g := Option.some.inj g
      subst g
      rcases hw with hw | hw
      · exact .inl ⟨hw, by rw [hw]; simp⟩
      · refine .inr ⟨hw, ?_⟩
        have : (wR == wH) = false := by decide +kernel
        rw [hw, this]
        simp
    · rw [gets_puts_ne _ x] at g
      rcases I.h q v g with ⟨a, b⟩ | ⟨a, b⟩
      · exact .inl ⟨a, by rw [b]; rfl⟩
      · exact .inr ⟨a, by rw [b]; rfl⟩
theorem RU.fold {all : List Str} {c : Int} : ∀ {f : List (Str × Str)} {s : RS}, RU all s → (∀ z ∈ f, z.1 ∈ all ∧ (z.2 = wH ∨ z.2 = wR)) → RU all (f.foldl (entA c) s)
  | [], _, I, _ => I
  | z :: f, _, I, hf => by
    rw [List.foldl_cons]
    exact RU.fold (I.ent (hf z List.mem_cons_self).1 (hf z List.mem_cons_self).2) fun y hy => hf y (List.mem_cons_of_mem _ hy)
section
variable {rs : List Mu} {B : Str × Str → Bool} {F : Str → Bool} {all S : List Str} {U0 D0 : Th}
variable {U D : Th} (C : ClosedA rs B F all U D) (hS : ∀ q ∈ S, q ∈ all) (hu : ∀ p, hasK U0 p = true → hasK U p = true) (hd : ∀ p, hasK D0 p = true → hasK D p = true)
include C hS hu hd
end
section
variable {rs : List Mu} {B : Str × Str → Bool} {F : Str → Bool} {all S : List Str} {U0 D0 : Th} (hn : all.Nodup) (hS : ∀ q ∈ S, q ∈ all)
  (hu : ∀ p, hasK U0 p = true ↔ p ∉ S ∧ hasK (it rs B F all (all.length + 1)).1 p = true) (hd : ∀ p, hasK D0 p = true ↔ p ∉ S ∧ hasK (it rs B F all (all.length + 1)).2.1 p = true)
include hn hS hu hd
end
end Vs

/-! Rounds over a wider list; dicts made by conditional puts. -/
namespace Vs
open PySem PySem.Spec L2
def putIf {A : Type} (p : Str → Bool) (f : Str → A) (d : List (Str × A)) (x : Str) : List (Str × A) := cond (p x) (puts d x (f x)) d
theorem Kd.putIf {A : Type} {V : List Str} {p : Str → Bool} {f : Str → A} {d : List (Str × A)} (h : Kd V d) {x : Str} (hx : x ∈ V) : Kd V (Vs.putIf p f d x) := by
  unfold Vs.putIf
  cases p x with
  | true => exact h.put hx
  | false => exact h
theorem nodup_len {o V : List Str} (hn : o.Nodup) (h : ∀ q ∈ o, q ∈ V) : o.length ≤ V.length := by
  have e : ((fun x : Str × Bool => x.1) ∘ fun q : Str => (q, true)) = id := rfl
  have k : Kd V (o.map fun q => (q, true)) := ⟨by
    rw [List.map_map, e, List.map_id]; exact hn, fun k hk => by
    rw [List.map_map, e, List.map_id] at hk
    exact h k hk⟩
  have := k.len
  rw [List.length_map] at this
  exact this
section
variable {rs : List Mu} {B : Str × Str → Bool} {F : Str → Bool} {o V : List Str} (ho : o.Nodup) (hV : V.Nodup) (sub : ∀ q ∈ o, q ∈ V)
  (hp : ∀ x ∈ rs, ∀ p ∈ x.2.2.2, p ∈ o)
include ho hV sub hp
end
end Vs

/-! Papers of claims; sure ones gone through as lists. -/
namespace Vs
open PySem PySem.Spec L2
abbrev thL (l : List Str) : Th := l.map fun q => (q, true)
theorem hasK_thL (l : List Str) (q : Str) : hasK (thL l) q = List.elem q l := by
  induction l with
  | nil => rfl
  | cons x l ih =>
    by_cases e : x = q
    · subst e
      simp [hasK, gets]
    · have e' : (q == x) = false := by simpa using fun z : q = x => e z.symm
      have h1 : hasK (thL (x :: l)) q = hasK (thL l) q := by simp [hasK, gets, e]
      rw [h1, ih]
      show List.elem q l = (match q == x with | true => true | false => List.elem q l)
      rw [e']
theorem elem_dec (q : Str) (l : List Str) : List.elem q l = decide (q ∈ l) := by
  cases e : List.elem q l with
  | true => exact (decide_eq_true (List.mem_of_elem_eq_true e)).symm
  | false => exact (decide_eq_false fun z => by rw [List.elem_eq_true_of_mem z] at e; cases e).symm
theorem elem_app (q x : Str) (l : List Str) : List.elem q (l ++ [x]) = (decide (q = x) || List.elem q l) := by
  rw [elem_dec, elem_dec]
  by_cases e : q = x <;> by_cases z : q ∈ l <;> simp [e, z]
section
variable (rs : List Mu) (B : Str × Str → Bool) (F : Str → Bool)
/-- a claim follows by a state -/
def okC (t : Th × Th) (z : Str × Str) : Bool := cond (z.1 == wH) (holdsA rs B F t.1 t.2 z.2) (refA rs B F t.1 t.2 z.2)
def addC (t : Th × Th) (z : Str × Str) : Th × Th := cond (z.1 == wH) (puts t.1 z.2 true, t.2) (t.1, puts t.2 z.2 true)
/-- each claim follows from those ahead -/
def passes : List (Str × Str) → Th × Th → Bool
  | [], _ => true
  | z :: W, t => okC rs B F t z && passes W (addC t z)
def SameT (t u : Th × Th) : Prop := (∀ p, hasK t.1 p = hasK u.1 p) ∧ ∀ p, hasK t.2 p = hasK u.2 p
def LeT (t u : Th × Th) : Prop := (∀ p, hasK t.1 p = true → hasK u.1 p = true) ∧ ∀ p, hasK t.2 p = true → hasK u.2 p = true
theorem SameT.refl (t : Th × Th) : SameT t t := ⟨fun _ => rfl, fun _ => rfl⟩
theorem SameT.symm {t u : Th × Th} (h : SameT t u) : SameT u t := ⟨fun p => (h.1 p).symm, fun p => (h.2 p).symm⟩
theorem SameT.trans {t u v : Th × Th} (h : SameT t u) (h' : SameT u v) : SameT t v := ⟨fun p => (h.1 p).trans (h'.1 p), fun p => (h.2 p).trans (h'.2 p)⟩
theorem SameT.le {t u : Th × Th} (h : SameT t u) : LeT t u := ⟨fun p => by rw [h.1]; exact id, fun p => by rw [h.2]; exact id⟩
theorem addC_has (t : Th × Th) (z : Str × Str) (p : Str) : hasK (addC t z).1 p = ((z.1 == wH) && decide (p = z.2) || hasK t.1 p) ∧ hasK (addC t z).2 p = (!(z.1 == wH) && decide (p = z.2) || hasK t.2 p) := by
  unfold addC
  cases z.1 == wH with
  | true => exact ⟨by show hasK (puts t.1 z.2 true) p = _; rw [hasK_puts]; simp, by simp⟩
  | false => exact ⟨by simp, by show hasK (puts t.2 z.2 true) p = _; rw [hasK_puts]; simp⟩
theorem SameT.add {t u : Th × Th} (h : SameT t u) (z : Str × Str) : SameT (addC t z) (addC u z) :=
  ⟨fun p => by rw [(addC_has t z p).1, (addC_has u z p).1, h.1], fun p => by rw [(addC_has t z p).2, (addC_has u z p).2, h.2]⟩
theorem add_le (t : Th × Th) (z : Str × Str) : LeT t (addC t z) :=
  ⟨fun p h => by rw [(addC_has t z p).1, h, Bool.or_true], fun p h => by rw [(addC_has t z p).2, h, Bool.or_true]⟩
variable {rs B F}
theorem okC_same {t u : Th × Th} (h : SameT t u) (z : Str × Str) : okC rs B F t z = okC rs B F u z := by
  unfold okC
  rw [holdsA_cong (F' := F) (fun _ _ p _ => h.1 p) (fun _ _ p _ => h.2 p) rfl rfl, refA_cong (F' := F) (fun _ _ p _ => h.1 p) (fun _ _ p _ => h.2 p) rfl rfl]
theorem okC_mono {t u : Th × Th} (h : LeT t u) {z : Str × Str} (e : okC rs B F t z = true) : okC rs B F u z = true := by
  unfold okC at *
  cases c : z.1 == wH with
  | true =>
    rw [c] at e
    exact holdsA_mono (fun _ _ p _ => h.1 p) (fun _ _ p _ => h.2 p) e
  | false =>
    rw [c] at e
    exact refA_mono (fun _ _ p _ => h.1 p) (fun _ _ p _ => h.2 p) e
theorem passes_app : ∀ (W V : List (Str × Str)) (t : Th × Th), passes rs B F (W ++ V) t = (passes rs B F W t && passes rs B F V (W.foldl addC t))
  | [], V, t => by simp [passes]
  | z :: W, V, t => by
    show (okC rs B F t z && passes rs B F (W ++ V) (addC t z)) = ((okC rs B F t z && passes rs B F W (addC t z)) && passes rs B F V (W.foldl addC (addC t z)))
    rw [passes_app W V, Bool.and_assoc]
theorem passes_snoc (W : List (Str × Str)) (z : Str × Str) (t : Th × Th) : passes rs B F (W ++ [z]) t = (passes rs B F W t && okC rs B F (W.foldl addC t) z) := by
  rw [passes_app]
  show (_ && (okC rs B F _ z && true)) = _
  rw [Bool.and_true]
/-- lists of the held and the refused, as a state -/
def Lst (t : Th × Th) (H D : List Str) : Prop := (∀ p, hasK t.1 p = List.elem p H) ∧ ∀ p, hasK t.2 p = List.elem p D
theorem Lst.of (H D : List Str) : Lst (thL H, thL D) H D := ⟨hasK_thL H, hasK_thL D⟩
theorem Lst.up {t : Th × Th} {H D : List Str} (h : Lst t H D) (q : Str) : Lst (addC t (wH, q)) (H ++ [q]) D := by
  have e : (wH == wH) = true := beq_self_eq_true _
  refine ⟨fun p => ?_, fun p => ?_⟩
  · rw [(addC_has t _ p).1, elem_app, h.1]
    show ((wH == wH) && decide (p = q) || _) = _
    rw [e, Bool.true_and]
  · rw [(addC_has t _ p).2, h.2]
    show (!(wH == wH) && decide (p = q) || _) = _
    rw [e]; simp
theorem Lst.down {t : Th × Th} {H D : List Str} (h : Lst t H D) {w : Str} (hw : (w == wH) = false) (q : Str) : Lst (addC t (w, q)) H (D ++ [q]) := by
  refine ⟨fun p => ?_, fun p => ?_⟩
  · rw [(addC_has t _ p).1, h.1]
    show ((w == wH) && decide (p = q) || _) = _
    rw [hw]; simp
  · rw [(addC_has t _ p).2, elem_app, h.2]
    show (!(w == wH) && decide (p = q) || _) = _
    rw [hw]; simp
theorem Lst.same {t u : Th × Th} {H D : List Str} (h : Lst t H D) (h' : Lst u H D) : SameT t u := ⟨fun p => by rw [h.1, h'.1], fun p => by rw [h.2, h'.2]⟩
end
/-! ### the sure ones, gone through as lists -/
def stS (f : List Str) (a : Ru) : List Str := cond (a.1 && (!List.elem a.2.1 f && rstL f a)) (f ++ [a.2.1]) f
theorem suppL_snoc {rs : List Ru} (q : Str) : ∀ (l acc : List Str), suppL rs acc (l ++ [q]) = (suppL rs acc l && rs.any fun a => a.1 && (decide (a.2.1 = q) && rstL (acc ++ l) a))
  | [], acc => by
    show ((rs.any _) && true) = (true && _)
    rw [Bool.and_true, Bool.true_and, List.append_nil]
  | x :: l, acc => by
    rw [List.cons_append]
    unfold suppL
    rw [suppL_snoc q l, Bool.and_assoc, List.append_assoc]; rfl
structure SI (rs : List Ru) (f : List Str) : Prop where
  nd : f.Nodup
  su : suppL rs [] f = true
  sub : ∀ q ∈ f, q ∈ rs.map (·.2.1)
theorem SI.nil {rs : List Ru} : SI rs [] := ⟨List.nodup_nil, rfl, fun q h => nomatch h⟩
theorem SI.len {rs : List Ru} {f : List Str} (h : SI rs f) : f.length ≤ rs.length := by
  have := nodup_len h.nd h.sub
  rwa [List.length_map] at this
theorem SI.st {rs : List Ru} {f : List Str} (h : SI rs f) {a : Ru} (ha : a ∈ rs) : SI rs (stS f a) := by
  unfold stS
  cases c : (a.1 && (!List.elem a.2.1 f && rstL f a)) with
  | false => exact h
  | true =>
    obtain ⟨c1, c⟩ := Bool.and_eq_true_iff.mp c
    obtain ⟨c2, c3⟩ := Bool.and_eq_true_iff.mp c
    have no : a.2.1 ∉ f := fun z => by rw [List.elem_eq_true_of_mem z] at c2; cases c2
    refine ⟨List.nodup_append.mpr ⟨h.nd, by simp, fun p hp q hq => ?_⟩, ?_, fun q hq => ?_⟩
    · rw [List.mem_singleton.mp hq]
      exact fun z => no (z ▸ hp)
    · show suppL rs [] (f ++ [a.2.1]) = true
      rw [suppL_snoc, h.su, Bool.true_and, List.any_eq_true]
      exact ⟨a, ha, by rw [c1, decide_eq_true rfl]; exact c3⟩
    · rcases List.mem_append.mp hq with z | z
      · exact h.sub q z
      · rw [List.mem_singleton.mp z]; exact List.mem_map.mpr ⟨a, ha, rfl⟩
theorem stS_len (f : List Str) (a : Ru) : f.length ≤ (stS f a).length ∧ ((stS f a).length = f.length → stS f a = f) := by
  unfold stS
  cases (a.1 && (!List.elem a.2.1 f && rstL f a)) with
  | false => exact ⟨Nat.le_refl _, fun _ => rfl⟩
  | true =>
    refine ⟨by show _ ≤ (f ++ [a.2.1]).length; rw [List.length_append]; omega, fun z => ?_⟩
    have z : (f ++ [a.2.1]).length = f.length := z
    rw [List.length_append] at z
    have : ([a.2.1] : List Str).length = 1 := rfl
    omega
theorem SI.fold {rs : List Ru} : ∀ (l : List Ru) {f : List Str}, SI rs f → (∀ a ∈ l, a ∈ rs) → SI rs (l.foldl stS f) ∧ f.length ≤ (l.foldl stS f).length ∧ ((l.foldl stS f).length = f.length → l.foldl stS f = f ∧ ∀ a ∈ l, stS f a = f)
  | [], f, h, _ => ⟨h, Nat.le_refl _, fun _ => ⟨rfl, fun a ha => nomatch ha⟩⟩
  | a :: l, f, h, hl => by
    obtain ⟨x, y, z⟩ := SI.fold l (h.st (hl a List.mem_cons_self)) fun b hb => hl b (List.mem_cons_of_mem _ hb)
    obtain ⟨l1, l2⟩ := stS_len f a
    rw [List.foldl_cons]
    refine ⟨x, by omega, fun e => ?_⟩
    have e1 := l2 (by omega)
    rw [e1] at z e
    obtain ⟨z1, z2⟩ := z e
    refine ⟨by rw [e1]; exact z1, fun b hb => ?_⟩
    rcases List.mem_cons.mp hb with rfl | hb
    · exact e1
    · exact z2 b hb
/-- nothing more comes: the sure ones, all -/
theorem SI.all {rs : List Ru} {f : List Str} (h : SI rs f) (hc : ∀ a ∈ rs, stS f a = f) : SureSet rs f := by
  refine ⟨h.nd, h.su, fun q d => ?_⟩
  induction d with
  | @mk a ha hs _ ih =>
    by_cases z : a.2.1 ∈ f
    · exact z
    · have := hc a ha
      unfold stS at this
      have e : (a.1 && (!List.elem a.2.1 f && rstL f a)) = true := by
        rw [hs, elem_dec, decide_eq_false z, rstL_iff.mpr ih]; rfl
      rw [e] at this
      have this : f ++ [a.2.1] = f := this
      have := congrArg List.length this
      rw [List.length_append] at this
      have : ([a.2.1] : List Str).length = 1 := rfl
      omega
/-! ### all gone through again and again -/
section
variable (rs : List Mu) (B : Str × Str → Bool) (F : Str → Bool)
abbrev GS := List Str × List (Str × Str) × List Str
def gS (s : GS) (q : Str) : GS := cond (List.elem q s.1 || List.elem q s.2.2) s
  (cond (holdsA rs B F (thL s.1) (thL s.2.2) q) (s.1 ++ [q], s.2.1 ++ [(wH, q)], s.2.2) (cond (refA rs B F (thL s.1) (thL s.2.2) q) (s.1, s.2.1 ++ [(wR, q)], s.2.2 ++ [q]) s))
structure GI (E : List Str) (s : GS) : Prop where
  nd : (s.2.1.map (·.2)).Nodup
  mem : ∀ q, q ∈ s.2.1.map (·.2) ↔ q ∈ s.1 ∨ q ∈ s.2.2
  lst : Lst (s.2.1.foldl addC ([], [])) s.1 s.2.2
  pas : passes rs B F s.2.1 ([], []) = true
  wrd : ∀ z ∈ s.2.1, (z.1 = wH ∨ z.1 = wR) ∧ z.2 ∈ E
  hd : ∀ z ∈ s.2.1, (z.1 = wH → z.2 ∈ s.1) ∧ (z.1 = wR → z.2 ∈ s.2.2)
theorem GI.nil (E : List Str) : GI rs B F E ([], [], []) := ⟨List.nodup_nil, fun q => by simp, ⟨fun _ => rfl, fun _ => rfl⟩, rfl, fun z h => (nomatch h), fun z h => nomatch h⟩
variable {rs B F}
theorem GI.len {E : List Str} {s : GS} (h : GI rs B F E s) : s.2.1.length ≤ E.length := by
  have := nodup_len h.nd (V := E) fun q hq => by
    obtain ⟨z, hz, rfl⟩ := List.mem_map.mp hq
    exact (h.wrd z hz).2
  rwa [List.length_map] at this
theorem GI.okl {E : List Str} {s : GS} (h : GI rs B F E s) (z : Str × Str) : okC rs B F (s.2.1.foldl addC ([], [])) z = okC rs B F (thL s.1, thL s.2.2) z := okC_same (h.lst.same (Lst.of _ _)) z
theorem nodup_snoc {A : Type} {l : List A} {a : A} (h : l.Nodup) (n : a ∉ l) : (l ++ [a]).Nodup := List.nodup_append.mpr ⟨h, by simp, fun p hp q hq => by
  rw [List.mem_singleton.mp hq]
  exact fun z => n (z ▸ hp)⟩
theorem GI.st {E : List Str} {s : GS} (h : GI rs B F E s) {q : Str} (hq : q ∈ E) : GI rs B F E (gS rs B F s q) := by
  unfold gS
  cases c : (List.elem q s.1 || List.elem q s.2.2) with
  | true => exact h
  | false =>
    obtain ⟨c1, c2⟩ := Bool.or_eq_false_iff.mp c
    rw [elem_dec] at c1 c2
    have n1 := of_decide_eq_false c1
    have n2 := of_decide_eq_false c2
    have no : q ∉ s.2.1.map (·.2) := fun z => ((h.mem q).mp z).elim n1 n2
    have e2 : (wR == wH) = false := by decide +kernel
    cases a : holdsA rs B F (thL s.1) (thL s.2.2) q with
    | true =>
      show GI rs B F E (s.1 ++ [q], s.2.1 ++ [(wH, q)], s.2.2)
      refine ⟨by rw [List.map_append]; exact nodup_snoc h.nd no, fun y => ?_, ?_, ?_, fun z hz => ?_, fun z hz => ?_⟩
      · rw [List.map_append, List.mem_append, h.mem y]
        simp only [List.map_cons, List.map_nil, List.mem_singleton, List.mem_append]
        constructor
        · rintro ((z | z) | z)
          · exact .inl (.inl z)
          · exact .inr z
          · exact .inl (.inr z)
        · rintro ((z | z) | z)
          · exact .inl (.inl z)
          · exact .inr z
          · exact .inl (.inr z)
      · rw [List.foldl_append]; exact h.lst.up q
      · rw [passes_snoc, h.pas, Bool.true_and, h.okl]
        exact a
      · rcases List.mem_append.mp hz with z | z
        · exact h.wrd _ z
        · rw [List.mem_singleton.mp z]; exact ⟨.inl rfl, hq⟩
      · rcases List.mem_append.mp hz with z | z
        · exact ⟨fun y => List.mem_append_left _ ((h.hd _ z).1 y), (h.hd _ z).2⟩
        · rw [List.mem_singleton.mp z]; exact ⟨fun _ => by simp, fun y => absurd y wH_ne⟩
    | false =>
      cases b : refA rs B F (thL s.1) (thL s.2.2) q with
      | false => exact h
      | true =>
        show GI rs B F E (s.1, s.2.1 ++ [(wR, q)], s.2.2 ++ [q])
        refine ⟨by rw [List.map_append]; exact nodup_snoc h.nd no, fun y => ?_, ?_, ?_, fun z hz => ?_, fun z hz => ?_⟩
        · rw [List.map_append, List.mem_append, h.mem y]
          simp only [List.map_cons, List.map_nil, List.mem_singleton, List.mem_append]
          rw [or_assoc]
        · rw [List.foldl_append]; exact h.lst.down e2 q
        · rw [passes_snoc, h.pas, Bool.true_and, h.okl]
          show cond (wR == wH) _ _ = true
          rw [e2]
          exact b
        · rcases List.mem_append.mp hz with z | z
          · exact h.wrd _ z
          · rw [List.mem_singleton.mp z]; exact ⟨.inr rfl, hq⟩
        · rcases List.mem_append.mp hz with z | z
          · exact ⟨(h.hd _ z).1, fun y => List.mem_append_left _ ((h.hd _ z).2 y)⟩
          · rw [List.mem_singleton.mp z]; exact ⟨fun y => absurd y.symm wH_ne, fun _ => by simp⟩
theorem gS_len (s : GS) (q : Str) : s.2.1.length ≤ (gS rs B F s q).2.1.length ∧ ((gS rs B F s q).2.1.length = s.2.1.length → gS rs B F s q = s) := by
  unfold gS
  cases (List.elem q s.1 || List.elem q s.2.2) with
  | true => exact ⟨Nat.le_refl _, fun _ => rfl⟩
  | false =>
    cases holdsA rs B F (thL s.1) (thL s.2.2) q with
    | true =>
      refine ⟨by show _ ≤ (s.2.1 ++ [(wH, q)]).length; rw [List.length_append]; omega, fun z => ?_⟩
      have z : (s.2.1 ++ [(wH, q)]).length = s.2.1.length := z
      rw [List.length_append] at z
      have : ([(wH, q)] : List (Str × Str)).length = 1 := rfl
      omega
    | false =>
      cases refA rs B F (thL s.1) (thL s.2.2) q with
      | false => exact ⟨Nat.le_refl _, fun _ => rfl⟩
      | true =>
        refine ⟨by show _ ≤ (s.2.1 ++ [(wR, q)]).length; rw [List.length_append]; omega, fun z => ?_⟩
        have z : (s.2.1 ++ [(wR, q)]).length = s.2.1.length := z
        rw [List.length_append] at z
        have : ([(wR, q)] : List (Str × Str)).length = 1 := rfl
        omega
theorem GI.fold {E : List Str} : ∀ (l : List Str) {s : GS}, GI rs B F E s → (∀ q ∈ l, q ∈ E) → GI rs B F E (l.foldl (gS rs B F) s) ∧ s.2.1.length ≤ (l.foldl (gS rs B F) s).2.1.length ∧ ((l.foldl (gS rs B F) s).2.1.length = s.2.1.length → l.foldl (gS rs B F) s = s ∧ ∀ q ∈ l, gS rs B F s q = s)
  | [], s, h, _ => ⟨h, Nat.le_refl _, fun _ => ⟨rfl, fun a ha => nomatch ha⟩⟩
  | a :: l, s, h, hl => by
    obtain ⟨x, y, z⟩ := GI.fold l (h.st (hl a List.mem_cons_self)) fun b hb => hl b (List.mem_cons_of_mem _ hb)
    obtain ⟨l1, l2⟩ := gS_len (rs := rs) (B := B) (F := F) s a
    rw [List.foldl_cons]
    refine ⟨x, by omega, fun e => ?_⟩
    have e1 := l2 (by omega)
    rw [e1] at z e
    obtain ⟨z1, z2⟩ := z e
    refine ⟨by rw [e1]; exact z1, fun b hb => ?_⟩
    rcases List.mem_cons.mp hb with rfl | hb
    · exact e1
    · exact z2 b hb
/-- nothing more comes in -/
theorem gS_stop {s : GS} {q : Str} (h : gS rs B F s q = s) : q ∈ s.1 ∨ q ∈ s.2.2 ∨ (holdsA rs B F (thL s.1) (thL s.2.2) q = false ∧ refA rs B F (thL s.1) (thL s.2.2) q = false) := by
  by_cases n1 : q ∈ s.1
  · exact .inl n1
  · by_cases n2 : q ∈ s.2.2
    · exact .inr (.inl n2)
    · refine .inr (.inr ?_)
      unfold gS at h
      rw [elem_dec, elem_dec, decide_eq_false n1, decide_eq_false n2] at h
      cases a : holdsA rs B F (thL s.1) (thL s.2.2) q with
      | true =>
        rw [a] at h
        have h : (s.1 ++ [q], s.2.1 ++ [(wH, q)], s.2.2) = s := h
        have := congrArg (fun t : GS => t.1.length) h
        simp at this
      | false =>
        rw [a] at h
        cases b : refA rs B F (thL s.1) (thL s.2.2) q with
        | false => exact ⟨rfl, rfl⟩
        | true =>
          rw [b] at h
          have h : (s.1, s.2.1 ++ [(wR, q)], s.2.2 ++ [q]) = s := h
          have := congrArg (fun t : GS => t.2.2.length) h
          simp at this
end
end Vs

/-! A paper tells nothing but what comes in. -/
namespace Vs
open PySem PySem.Spec L2
section
variable {rs : List Mu} {B : Str × Str → Bool} {F : Str → Bool}
structure GX (s : GS) : Prop where
  h : ∀ q ∈ s.1, (wH, q) ∈ s.2.1
  d : ∀ q ∈ s.2.2, (wR, q) ∈ s.2.1
theorem fold_has : ∀ (W : List (Str × Str)) (t : Th × Th) (p : Str), (hasK (W.foldl addC t).1 p = true → hasK t.1 p = true ∨ ∃ z ∈ W, (z.1 == wH) = true ∧ p = z.2) ∧ (hasK (W.foldl addC t).2 p = true → hasK t.2 p = true ∨ ∃ z ∈ W, (z.1 == wH) = false ∧ p = z.2)
  | [], t, p => ⟨.inl, .inl⟩
  | z :: W, t, p => by
    obtain ⟨i1, i2⟩ := fold_has W (addC t z) p
    rw [List.foldl_cons]
    refine ⟨fun h => ?_, fun h => ?_⟩
    · rcases i1 h with y | ⟨y, y1, y2⟩
      · rw [(addC_has t z p).1] at y
        rcases Bool.or_eq_true_iff.mp y with y | y
        · obtain ⟨y1, y2⟩ := Bool.and_eq_true_iff.mp y
          exact .inr ⟨z, List.mem_cons_self, y1, of_decide_eq_true y2⟩
        · exact .inl y
      · exact .inr ⟨y, List.mem_cons_of_mem _ y1, y2⟩
    · rcases i2 h with y | ⟨y, y1, y2⟩
      · rw [(addC_has t z p).2] at y
        rcases Bool.or_eq_true_iff.mp y with y | y
        · obtain ⟨y1, y2⟩ := Bool.and_eq_true_iff.mp y
          exact .inr ⟨z, List.mem_cons_self, by simpa using y1, of_decide_eq_true y2⟩
        · exact .inl y
      · exact .inr ⟨y, List.mem_cons_of_mem _ y1, y2⟩
theorem GI.gx {E : List Str} {s : GS} (h : GI rs B F E s) : GX s := ⟨fun q hq => by
    have e : hasK (s.2.1.foldl addC ([], [])).1 q = true := by rw [h.lst.1, elem_dec]; exact decide_eq_true hq
    rcases (fold_has s.2.1 ([], []) q).1 e with y | ⟨⟨w, p⟩, y1, y2, y3⟩
    · cases y
    · have y3 : q = p := y3
      have y2 : w = wH := eq_of_beq y2
      subst y2 y3; exact y1, fun q hq => by
    have e : hasK (s.2.1.foldl addC ([], [])).2 q = true := by rw [h.lst.2, elem_dec]; exact decide_eq_true hq
    rcases (fold_has s.2.1 ([], []) q).2 e with y | ⟨⟨w, p⟩, y1, y2, y3⟩
    · cases y
    · have y3 : q = p := y3
      rcases (h.wrd _ y1).1 with z | z
      · have z : w = wH := z
        rw [z] at y2
        have y2 : (wH == wH) = false := y2
        rw [beq_self_eq_true] at y2; cases y2
      · have z : w = wR := z
        subst z y3; exact y1⟩
theorem nodup_one {W : List (Str × Str)} (h : (W.map (·.2)).Nodup) {a b q : Str} (ha : (a, q) ∈ W) (hb : (b, q) ∈ W) : a = b := by
  induction W with
  | nil => cases ha
  | cons z W ih =>
    rw [List.map_cons, List.nodup_cons] at h
    rcases List.mem_cons.mp ha with e | ha
    · rcases List.mem_cons.mp hb with e' | hb
      · rw [← e'] at e; exact (Prod.mk.inj e).1
      · exact absurd (List.mem_map.mpr ⟨_, hb, by rw [← e]⟩) h.1
    · rcases List.mem_cons.mp hb with e' | hb
      · exact absurd (List.mem_map.mpr ⟨_, ha, by rw [← e']⟩) h.1
      · exact ih h.2 ha hb
theorem thL_has {l : List Str} {q : Str} : hasK (thL l) q = true ↔ q ∈ l := by
  rw [hasK_thL, elem_dec]; exact decide_eq_true_iff
/-- each row of a paper follows by the whole -/
theorem passes_end : ∀ (W : List (Str × Str)) {t u : Th × Th}, LeT t u → LeT (W.foldl addC t) u → passes rs B F W t = true → ∀ z ∈ W, okC rs B F u z = true
  | [], _, _, _, _, _, z, h => nomatch h
  | y :: W, t, u, hl, hu, hp, z, hz => by
    obtain ⟨p1, p2⟩ := Bool.and_eq_true_iff.mp (show (okC rs B F t y && passes rs B F W (addC t y)) = true from hp)
    rcases List.mem_cons.mp hz with rfl | hz
    · exact okC_mono hl p1
    · refine passes_end W (t := addC t y) ?_ hu p2 z hz
      have up : ∀ (V : List (Str × Str)) (v : Th × Th), LeT v (V.foldl addC v) := by
        intro V
        induction V with
        | nil => exact fun v => ⟨fun p h => h, fun p h => h⟩
        | cons a V ih => exact fun v => ⟨fun p h => (ih _).1 p ((add_le v a).1 p h), fun p h => (ih _).2 p ((add_le v a).2 p h)⟩
      exact ⟨fun p h => hu.1 p ((up W _).1 p h), fun p h => hu.2 p ((up W _).2 p h)⟩
theorem GI.apart {E : List Str} {s : GS} (h : GI rs B F E s) (x : GX s) : Apart (thL s.1) (thL s.2.2) := fun p hp => by
  cases e : hasK (thL s.2.2) p with
  | false => rfl
  | true => exact absurd (nodup_one h.nd (x.h p (thL_has.mp hp)) (x.d p (thL_has.mp e))) wH_ne
/-- what a paper tells comes in -/
theorem paper_in {E : List Str} {s : GS} (h : GI rs B F E s) (x : GX s) (st : ∀ q ∈ E, gS rs B F s q = s) : ∀ (W : List (Str × Str)) {t : Th × Th}, LeT t (thL s.1, thL s.2.2) → passes rs B F W t = true → (∀ z ∈ W, (z.1 = wH ∨ z.1 = wR) ∧ z.2 ∈ E) → ∀ z ∈ W, z ∈ s.2.1
  | [], _, _, _, _, z, hz => nomatch hz
  | (w, q) :: W, t, hl, hp, hw, z, hz => by
    obtain ⟨p1, p2⟩ := Bool.and_eq_true_iff.mp (show (okC rs B F t (w, q) && passes rs B F W (addC t (w, q))) = true from hp)
    have ap := h.apart x
    have own := fun z hz => passes_end s.2.1 (t := ([], [])) (u := (thL s.1, thL s.2.2)) ⟨fun p e => (nomatch e), fun p e => (nomatch e)⟩ (h.lst.same (Lst.of _ _)).le h.pas z hz
    have e2 : (wR == wH) = false := by decide +kernel
    obtain ⟨w1, w2⟩ := hw _ List.mem_cons_self
    have w1 : w = wH ∨ w = wR := w1
    have c := okC_mono hl p1
    have me : (w, q) ∈ s.2.1 := by
      rcases w1 with rfl | rfl
      · have c : holdsA rs B F (thL s.1) (thL s.2.2) q = true := c
        rcases gS_stop (st q w2) with z | z | z
        · exact x.h q z
        · have r : cond (wR == wH) (holdsA rs B F (thL s.1) (thL s.2.2) q) (refA rs B F (thL s.1) (thL s.2.2) q) = true := own _ (x.d q z)
          rw [e2] at r
          have r : refA rs B F (thL s.1) (thL s.2.2) q = true := r
          rw [holds_noref ap c] at r; cases r
        · rw [z.1] at c; cases c
      · have c : cond (wR == wH) (holdsA rs B F (thL s.1) (thL s.2.2) q) (refA rs B F (thL s.1) (thL s.2.2) q) = true := c
        rw [e2] at c
        have c : refA rs B F (thL s.1) (thL s.2.2) q = true := c
        rcases gS_stop (st q w2) with z | z | z
        · have r : holdsA rs B F (thL s.1) (thL s.2.2) q = true := own _ (x.h q z)
          rw [holds_noref ap r] at c; cases c
        · exact x.d q z
        · rw [z.2] at c; cases c
    rcases List.mem_cons.mp hz with rfl | hz
    · exact me
    · refine paper_in h x st W (t := addC t (w, q)) ⟨fun p hp => ?_, fun p hp => ?_⟩ p2 (fun y hy => hw y (List.mem_cons_of_mem _ hy)) z hz
      · rw [(addC_has t _ p).1] at hp
        rcases Bool.or_eq_true_iff.mp hp with y | y
        · obtain ⟨y1, y2⟩ := Bool.and_eq_true_iff.mp y
          rw [of_decide_eq_true y2]
          exact thL_has.mpr ((h.hd _ me).1 (eq_of_beq y1))
        · exact hl.1 p y
      · rw [(addC_has t _ p).2] at hp
        rcases Bool.or_eq_true_iff.mp hp with y | y
        · obtain ⟨y1, y2⟩ := Bool.and_eq_true_iff.mp y
          rw [of_decide_eq_true y2]
          rcases w1 with rfl | rfl
          · exact absurd y1 (by show ¬ (!(wH == wH)) = true; rw [beq_self_eq_true]; exact Bool.false_ne_true)
          · exact thL_has.mpr ((h.hd _ me).2 rfl)
        · exact hl.2 p y
end
end Vs

/-! The order of the rules does not matter; all gone through again and again, as dicts. -/
namespace Vs
open PySem PySem.Spec L2
section
variable {rs rs' : List Mu} (h : ∀ x, x ∈ rs ↔ x ∈ rs') (B : Str × Str → Bool) (F : Str → Bool)
include h
end
theorem Der.set {rs rs' : List Ru} (h : ∀ x, x ∈ rs ↔ x ∈ rs') {q : Str} : Der rs q ↔ Der rs' q := ⟨Der.mono fun a ha => (h a).mp ha, Der.mono fun a ha => (h a).mpr ha⟩
/-! ### all gone through again and again -/
section
variable (rs : List Mu) (B : Str × Str → Bool) (F : Str → Bool)
def gD (s : Th × Th) (q : Str) : Th × Th := cond (!hasK s.1 q && !hasK s.2 q) (cond (holdsA rs B F s.1 s.2 q) (puts s.1 q true, s.2) (cond (refA rs B F s.1 s.2 q) (s.1, puts s.2 q true) s)) s
/-- whether something comes in -/
def gB (s : Th × Th) (q : Str) : Bool := (!hasK s.1 q && !hasK s.2 q) && (holdsA rs B F s.1 s.2 q || refA rs B F s.1 s.2 q)
/-- how many wait -/
def wtD (Q : List Str) (s : Th × Th) : Nat := (Q.filter fun q => !hasK s.1 q && !hasK s.2 q).length
structure GJ (Q : List Str) (s : Th × Th) : Prop where
  k1 : Kd Q s.1
  k2 : Kd Q s.2
  ap : Apart s.1 s.2
  hU : ∀ q, hasK s.1 q = true → holdsA rs B F s.1 s.2 q = true
  hD : ∀ q, hasK s.2 q = true → refA rs B F s.1 s.2 q = true
  le : ∀ q, (hasK s.1 q = true → hasK (it rs B F Q (Q.length + 1)).1 q = true) ∧ (hasK s.2 q = true → hasK (it rs B F Q (Q.length + 1)).2.1 q = true)
theorem GJ.nil (Q : List Str) : GJ rs B F Q ([], []) := ⟨Kd.nil, Kd.nil, fun q h => (by cases h), fun q h => (by cases h), fun q h => (by cases h), fun q => ⟨fun h => (by cases h), fun h => (by cases h)⟩⟩
variable {rs B F}
theorem gD_no {s : Th × Th} {q : Str} (h : gB rs B F s q = false) : gD rs B F s q = s := by
  unfold gB at h
  unfold gD
  cases c : (!hasK s.1 q && !hasK s.2 q) with
  | false => rfl
  | true =>
    rw [c, Bool.true_and] at h
    obtain ⟨a, b⟩ := Bool.or_eq_false_iff.mp h
    rw [a, b]; rfl
theorem GJ.st {Q : List Str} (hn : Q.Nodup) {s : Th × Th} (x : GJ rs B F Q s) {q : Str} (hq : q ∈ Q) : GJ rs B F Q (gD rs B F s q) ∧ (gB rs B F s q = true → wtD Q (gD rs B F s q) < wtD Q s) := by
  have cl := it_closed rs B F hn
  unfold gB gD
  cases c : (!hasK s.1 q && !hasK s.2 q) with
  | false => exact ⟨x, fun h => by cases h⟩
  | true =>
    obtain ⟨c1, c2⟩ := Bool.and_eq_true_iff.mp c
    have c1 : hasK s.1 q = false := by simpa using c1
    have c2 : hasK s.2 q = false := by simpa using c2
    have fewer : ∀ (t : Th × Th), (∀ p, hasK s.1 p = true → hasK t.1 p = true) → (∀ p, hasK s.2 p = true → hasK t.2 p = true) → (hasK t.1 q = true ∨ hasK t.2 q = true) → wtD Q t < wtD Q s := fun t u1 u2 u3 => by
      unfold wtD
      have : ∀ l : List Str, q ∈ l → (l.filter fun q => !hasK t.1 q && !hasK t.2 q).length < (l.filter fun q => !hasK s.1 q && !hasK s.2 q).length := by
        have le : ∀ l : List Str, (l.filter fun q => !hasK t.1 q && !hasK t.2 q).length ≤ (l.filter fun q => !hasK s.1 q && !hasK s.2 q).length := by
          intro l
          induction l with
          | nil => exact Nat.le_refl _
          | cons a l ih =>
            rw [List.filter_cons, List.filter_cons]
            cases e1 : (!hasK t.1 a && !hasK t.2 a) with
            | false =>
              rw [if_neg Bool.false_ne_true]
              cases (!hasK s.1 a && !hasK s.2 a) with
              | false => rw [if_neg Bool.false_ne_true]; exact ih
              | true => rw [if_pos rfl, List.length_cons]; omega
            | true =>
              obtain ⟨f1, f2⟩ := Bool.and_eq_true_iff.mp e1
              have g1 : hasK s.1 a = false := by
                cases e : hasK s.1 a with
                | false => rfl
                | true => rw [u1 a e] at f1; cases f1
              have g2 : hasK s.2 a = false := by
                cases e : hasK s.2 a with
                | false => rfl
                | true => rw [u2 a e] at f2; cases f2
              rw [g1, g2, if_pos rfl, if_pos (show (!false && !false) = true from rfl), List.length_cons, List.length_cons]; omega
        intro l
        induction l with
        | nil => intro h; cases h
        | cons a l ih =>
          intro h
          rw [List.filter_cons, List.filter_cons]
          by_cases e : a = q
          · subst e
            have e1 : (!hasK t.1 a && !hasK t.2 a) = false := by
              rcases u3 with z | z <;> rw [z] <;> simp
            rw [e1, c1, c2, if_neg Bool.false_ne_true, if_pos (show (!false && !false) = true from rfl), List.length_cons]
            have := le l
            omega
          · have ih := ih ((List.mem_cons.mp h).resolve_left fun z => e z.symm)
            have l1 := le [a]
            rw [List.filter_cons, List.filter_cons, List.filter_nil] at l1
            cases e1 : (!hasK t.1 a && !hasK t.2 a) with
            | false =>
              rw [if_neg Bool.false_ne_true]
              cases (!hasK s.1 a && !hasK s.2 a) with
              | false => rw [if_neg Bool.false_ne_true]; exact ih
              | true => rw [if_pos rfl, List.length_cons]; omega
            | true =>
              rw [e1, if_pos rfl] at l1
              cases e2 : (!hasK s.1 a && !hasK s.2 a) with
              | false => rw [e2] at l1; exact absurd l1 (by simp)
              | true => rw [if_pos rfl, if_pos rfl, List.length_cons, List.length_cons]; omega
      exact this Q hq
    cases a : holdsA rs B F s.1 s.2 q with
    | true =>
      have up : ∀ p, hasK s.1 p = true → hasK (puts s.1 q true) p = true := fun p e => by rw [hasK_puts, e, Bool.or_true]
      refine ⟨⟨x.k1.put hq, x.k2, fun p hp => ?_, fun p hp => ?_, fun p hp => ?_, fun p => ⟨fun hp => ?_, (x.le p).2⟩⟩, fun _ => fewer (puts s.1 q true, s.2) up (fun _ e => e) (.inl (by show hasK (puts s.1 q true) q = true; rw [hasK_puts]; simp))⟩
      · have hp : hasK (puts s.1 q true) p = true := hp
        rw [hasK_puts] at hp
        rcases Bool.or_eq_true_iff.mp hp with z | z
        · rw [of_decide_eq_true z]; exact c2
        · exact x.ap p z
      · have hp : hasK (puts s.1 q true) p = true := hp
        rw [hasK_puts] at hp
        refine holdsA_mono (U := s.1) (D := s.2) (fun _ _ p _ e => up p e) (fun _ _ p _ e => e) ?_
        rcases Bool.or_eq_true_iff.mp hp with z | z
        · rw [of_decide_eq_true z]; exact a
        · exact x.hU p z
      · exact refA_mono (U := s.1) (D := s.2) (fun _ _ p _ e => up p e) (fun _ _ p _ e => e) (x.hD p hp)
      · have hp : hasK (puts s.1 q true) p = true := hp
        rw [hasK_puts] at hp
        rcases Bool.or_eq_true_iff.mp hp with z | z
        · rw [of_decide_eq_true z]
          exact cl.h q hq (holdsA_mono (fun _ _ p _ e => (x.le p).1 e) (fun _ _ p _ e => (x.le p).2 e) a)
        · exact (x.le p).1 z
    | false =>
      cases b : refA rs B F s.1 s.2 q with
      | false => exact ⟨x, fun h => by cases h⟩
      | true =>
        have up : ∀ p, hasK s.2 p = true → hasK (puts s.2 q true) p = true := fun p e => by rw [hasK_puts, e, Bool.or_true]
        refine ⟨⟨x.k1, x.k2.put hq, fun p hp => ?_, fun p hp => ?_, fun p hp => ?_, fun p => ⟨(x.le p).1, fun hp => ?_⟩⟩, fun _ => fewer (s.1, puts s.2 q true) (fun _ e => e) up (.inr (by show hasK (puts s.2 q true) q = true; rw [hasK_puts]; simp))⟩
        · show hasK (puts s.2 q true) p = false
          rw [hasK_puts, x.ap p hp, Bool.or_false]
          exact decide_eq_false fun z => by
            have hp : hasK s.1 p = true := hp
            rw [z, c1] at hp; cases hp
        · exact holdsA_mono (U := s.1) (D := s.2) (fun _ _ p _ e => e) (fun _ _ p _ e => up p e) (x.hU p hp)
        · have hp : hasK (puts s.2 q true) p = true := hp
          rw [hasK_puts] at hp
          refine refA_mono (U := s.1) (D := s.2) (fun _ _ p _ e => e) (fun _ _ p _ e => up p e) ?_
          rcases Bool.or_eq_true_iff.mp hp with z | z
          · rw [of_decide_eq_true z]; exact b
          · exact x.hD p z
        · have hp : hasK (puts s.2 q true) p = true := hp
          rw [hasK_puts] at hp
          rcases Bool.or_eq_true_iff.mp hp with z | z
          · rw [of_decide_eq_true z]
            exact cl.r q hq (refA_mono (fun _ _ p _ e => (x.le p).1 e) (fun _ _ p _ e => (x.le p).2 e) b)
          · exact (x.le p).2 z
/-- once through all: the state, and whether something came in -/
theorem GJ.fold {Q : List Str} (hn : Q.Nodup) : ∀ (l : List Str) {s : Th × Th}, GJ rs B F Q s → (∀ q ∈ l, q ∈ Q) → ∀ m : Bool,
    ∃ t m', l.foldl (fun (z : (Th × Th) × Bool) q => (gD rs B F z.1 q, z.2 || gB rs B F z.1 q)) (s, m) = (t, m') ∧ GJ rs B F Q t ∧ wtD Q t ≤ wtD Q s ∧ (m = false → m' = true → wtD Q t < wtD Q s) ∧ (m' = false → t = s ∧ ∀ q ∈ l, gB rs B F s q = false)
  | [], s, x, _, m => ⟨s, m, rfl, x, Nat.le_refl _, fun a b => (by rw [a] at b; cases b), fun _ => ⟨rfl, fun q h => nomatch h⟩⟩
  | q :: l, s, x, hl, m => by
    obtain ⟨y1, y2⟩ := x.st hn (hl q List.mem_cons_self)
    obtain ⟨t, m', e, z1, z2, z3, z4⟩ := GJ.fold hn l y1 (fun p hp => hl p (List.mem_cons_of_mem _ hp)) (m || gB rs B F s q)
    rw [List.foldl_cons]
    refine ⟨t, m', e, z1, ?_, fun a b => ?_, fun a => ?_⟩
    · cases c : gB rs B F s q with
      | false => rw [gD_no c] at z2; exact z2
      | true => have := y2 c; omega
    · subst a
      cases c : gB rs B F s q with
      | false => rw [c] at z3; rw [gD_no c] at z3; exact z3 rfl b
      | true => have := y2 c; omega
    · obtain ⟨w1, w2⟩ := z4 a
      have mono : ∀ (l : List Str) (z : (Th × Th) × Bool), z.2 = true → (l.foldl (fun (z : (Th × Th) × Bool) q => (gD rs B F z.1 q, z.2 || gB rs B F z.1 q)) z).2 = true := by
        intro l
        induction l with
        | nil => exact fun z h => h
        | cons p l ih => exact fun z h => ih _ (by show (z.2 || _) = true; rw [h]; rfl)
      cases c : gB rs B F s q with
      | true =>
        have := mono l (gD rs B F s q, m || gB rs B F s q) (by show (m || gB rs B F s q) = true; rw [c, Bool.or_true])
        have e' := congrArg (·.2) e
        rw [this] at e'
        have e' : true = m' := e'
        rw [a] at e'; cases e'
      | false =>
        rw [gD_no c] at w1 w2
        refine ⟨w1, fun p hp => ?_⟩
        rcases List.mem_cons.mp hp with rfl | hp
        · exact c
        · exact w2 p hp
end
end Vs

/-! A part of the rules: those with a head among some statements that lean on no others. -/
namespace Vs
open PySem PySem.Spec L2
section
variable {rs rs' : List Mu} {B : Str × Str → Bool} {F : Str → Bool} {U D : Th} {q : Str} (h1 : forR rs' q = forR rs q) (h2 : forR rs' (oppS q) = forR rs (oppS q))
include h1 h2
end
section
variable {rs : List Mu} {B : Str × Str → Bool} {F F' : Str → Bool} {s : Str → Bool} (so : ∀ q, s q = true → s (oppS q) = true) (hb : ∀ x ∈ rs, s x.2.2.1 = true → ∀ p ∈ x.2.2.2, s p = true) (hF : ∀ q, s q = true → F' q = F q) {V : List Str} (hV : V.Nodup)
include so hb hF hV
end
theorem Der.part {rs : List Ru} {s : Str → Bool} (hb : ∀ x ∈ rs, s x.2.1 = true → ∀ p ∈ x.2.2, s p = true) {q : Str} (hq : s q = true) : Der (rs.filter fun x => s x.2.1) q ↔ Der rs q := by
  refine ⟨Der.mono fun a ha => (List.mem_filter.mp ha).1, fun d => ?_⟩
  induction d with
  | mk ha hs _ ih => exact .mk (List.mem_filter.mpr ⟨ha, hq⟩) hs fun p hp => ih p hp (hb _ ha hq p hp)
end Vs

/-! The order of the statements asked of does not matter. -/
namespace Vs
open PySem PySem.Spec L2
theorem com_in {rs : List Mu} {B : Str × Str → Bool} {F : Str → Bool} {s : RS} {l : List Str} {z : Str × Str} : z ∈ comA rs B F s l ↔ z.1 ∈ l ∧ wordA rs B F s z.1 = some z.2 := by
  refine ⟨fun h => ⟨(com_mem h).1, (com_mem h).2.2⟩, fun h => List.mem_filterMap.mpr ⟨z.1, h.1, ?_⟩⟩
  rw [h.2]; rfl
theorem fold_gets_fun (c : Int) {q w : Str} : ∀ (f : List (Str × Str)) (s : RS), (∀ z ∈ f, z.1 = q → z.2 = w) → (q, w) ∈ f → gets (f.foldl (entA c) s).2.2 q = some (w, c)
  | [], s, _, h => by cases h
  | z :: f, s, hu, h => by
    rw [List.foldl_cons]
    by_cases m : (q, w) ∈ f
    · exact fold_gets_fun c f _ (fun y hy => hu y (List.mem_cons_of_mem _ hy)) m
    · have hz : z = (q, w) := by
        rcases List.mem_cons.mp h with e | e
        · exact e.symm
        · exact absurd e m
      have out : q ∉ f.map (·.1) := fun y => by
        obtain ⟨x, hx, e⟩ := List.mem_map.mp y
        have e : x.1 = q := e
        have e2 := hu x (List.mem_cons_of_mem _ hx) e
        exact m (by rw [← e, ← e2]; exact hx)
      rw [fold_gets_out c f _ out, entA_ranks, hz]
      exact gets_puts_same _ _ _
/-- alike in all that is asked of a state -/
structure Alk (s t : RS) : Prop where
  u : ∀ q, hasK s.1 q = hasK t.1 q
  d : ∀ q, hasK s.2.1 q = hasK t.2.1 q
  r : ∀ q, gets s.2.2 q = gets t.2.2 q
theorem Alk.word {rs : List Mu} {B : Str × Str → Bool} {F : Str → Bool} {s t : RS} (h : Alk s t) (q : Str) : wordA rs B F s q = wordA rs B F t q := by
  unfold wordA
  rw [holdsA_cong (F := F) (F' := F) (fun _ _ p _ => h.u p) (fun _ _ p _ => h.d p) rfl rfl, refA_cong (F := F) (F' := F) (fun _ _ p _ => h.u p) (fun _ _ p _ => h.d p) rfl rfl]
section
variable {rs : List Mu} {B : Str × Str → Bool} {F : Str → Bool} {A C : List Str} (h : ∀ q, q ∈ A ↔ q ∈ C)
include h
theorem Alk.step {s t : RS} (a : Alk s t) (c : Int) : Alk ((comA rs B F s (leftA A s)).foldl (entA c) s) ((comA rs B F t (leftA C t)).foldl (entA c) t) := by
  have hl : ∀ q, q ∈ leftA A s ↔ q ∈ leftA C t := fun q => by
    unfold leftA
    rw [List.mem_filter, List.mem_filter, h q]
    have : hasK s.2.2 q = hasK t.2.2 q := by unfold hasK; rw [a.r q]
    rw [this]
  have hc : ∀ z, z ∈ comA rs B F s (leftA A s) ↔ z ∈ comA rs B F t (leftA C t) := fun z => by
    rw [com_in, com_in, hl, a.word]
  have ex : ∀ p b, (∃ z ∈ comA rs B F s (leftA A s), z.1 = p ∧ (z.2 == wH) = b) ↔ ∃ z ∈ comA rs B F t (leftA C t), z.1 = p ∧ (z.2 == wH) = b := fun p b =>
    ⟨fun ⟨z, hz, e⟩ => ⟨z, (hc z).mp hz, e⟩, fun ⟨z, hz, e⟩ => ⟨z, (hc z).mpr hz, e⟩⟩
  refine ⟨fun p => ?_, fun p => ?_, fun q => ?_⟩
  · rw [Bool.eq_iff_iff, (fold_up c p _ _).1, (fold_up c p _ _).1, a.u p, ex p true]
  · rw [Bool.eq_iff_iff, (fold_up c p _ _).2, (fold_up c p _ _).2, a.d p, ex p false]
  · by_cases m : q ∈ (comA rs B F s (leftA A s)).map (·.1)
    · obtain ⟨z, hz, e⟩ := List.mem_map.mp m
      have e : z.1 = q := e
      subst e
      have w := (com_in.mp hz).2
      have f1 : ∀ y ∈ comA rs B F s (leftA A s), y.1 = z.1 → y.2 = z.2 := fun y hy e => by
        have := (com_in.mp hy).2
        rw [e, w] at this
        exact (Option.some.inj this).symm
      rw [fold_gets_fun c _ _ f1 hz, fold_gets_fun c _ _ (fun y hy => f1 y ((hc y).mpr hy)) ((hc z).mp hz)]
    · rw [fold_gets_out c _ _ m, fold_gets_out c _ _ (fun y => m (by
        obtain ⟨z, hz, e⟩ := List.mem_map.mp y
        exact List.mem_map.mpr ⟨z, (hc z).mpr hz, e⟩)), a.r q]
end
end Vs

/-! sorted(set(xs)), xs a list of texts. -/
namespace Vs
open PySem PySem.Spec L2 PyProof.Rows PySem.W PySem.Froz
/-! ### plain -/
def setT (xs : List Str) : List Str := xs.foldl (fun l x => cond (List.elem x l) l (x :: l)) []
theorem setT_go (xs : List Str) : ∀ l : List Str, l.Nodup → (xs.foldl (fun l x => cond (List.elem x l) l (x :: l)) l).Nodup ∧ ∀ q, q ∈ xs.foldl (fun l x => cond (List.elem x l) l (x :: l)) l ↔ q ∈ l ∨ q ∈ xs := by
  induction xs with
  | nil => intro l h; exact ⟨h, fun q => by simp⟩
  | cons x xs ih =>
    intro l h
    rw [List.foldl_cons]
    by_cases e : x ∈ l
    · have e2 : List.elem x l = true := by simpa using e
      rw [e2]
      obtain ⟨a, b⟩ := ih l h
      refine ⟨a, fun q => ?_⟩
      rw [show cond true l (x :: l) = l from rfl, b q, List.mem_cons]
      constructor
      · rintro (z | z)
        · exact .inl z
        · exact .inr (.inr z)
      · rintro (z | z | z)
        · exact .inl z
        · exact .inl (z ▸ e)
        · exact .inr z
    · have e2 : List.elem x l = false := by simpa using e
      rw [e2]
      obtain ⟨a, b⟩ := ih (x :: l) (List.nodup_cons.mpr ⟨e, h⟩)
      refine ⟨a, fun q => ?_⟩
      rw [show cond false l (x :: l) = x :: l from rfl, b q, List.mem_cons, List.mem_cons]
      constructor
      · rintro ((z | z) | z)
        · exact .inr (.inl z)
        · exact .inl z
        · exact .inr (.inr z)
      · rintro (z | z | z)
        · exact .inl (.inr z)
        · exact .inl (.inl z)
        · exact .inr z
theorem setT_nodup (xs : List Str) : (setT xs).Nodup := (setT_go xs [] List.nodup_nil).1
theorem mem_setT {xs : List Str} {q : Str} : q ∈ setT xs ↔ q ∈ xs := by
  unfold setT
  rw [(setT_go xs [] List.nodup_nil).2 q]
  simp
/-! ### the set's payload -/
def txOf (v : Value) : Str := match v with
  | .str k _ => k
  | _ => Str.ofString ""
structure TxR (P : Program) (w : World) (D : SD) (l : List Str) : Prop where
  ok : TxOk P w D l
  pm : (D.1.toList.map fun e => txOf e.2).Perm l
  st : ∀ e ∈ D.1.toList, ∃ k u, e.2 = Value.str k u
  ri : Ris D.2.2.place.toList
  le : w.params.followText "set-order" = true ∨ D.2.2.led = true
theorem TxR.tail {P : Program} {w : World} {ep : Nat} {es1 : Array (Int × Value)} {t2 : SetTable} {b : Bool} {l : List Str} (F : TxR P w (es1, ep, t2) l) : TxR P w (tailTx ep es1 t2 b) l := by
  have h := tail_ok (wasDummy := b) F.ok
  unfold tailTx at h ⊢
  by_cases c : (!b && t2.tooFull) = true
  · rw [if_pos c] at h ⊢
    have pm := relayAll_perm t2 es1 (SetTable.grown es1.size)
    exact ⟨h, (pm.map _).trans F.pm, fun e he => F.st e (pm.mem_iff.mp he), relayAll_ris t2 es1 _, F.le.imp id fun z => (relayAll_led t2 es1 _).trans z⟩
  · rw [if_neg c] at h ⊢
    exact ⟨h, F.pm, F.st, F.ri, F.le⟩
theorem TxR.add {P : Program} {w : World} {D : SD} {l : List Str} {k : Str} (u : Tok) (F : TxR P w D l) : TxR P w (addTx (hashStr w k) (.str k u) D) (k :: l) := by
  obtain ⟨es, ep, t⟩ := D
  have hp := layNew_perm t es (hashStr w k) (.str k u)
  have hf := layNew_fits t es (hashStr w k) (.str k u)
  have hr := layNew_ris t es (hashStr w k) (.str k u) F.ri
  have hl := layNew_led t es (hashStr w k) (.str k u)
  have ok2 : TxOk P w ((layNew t es (hashStr w k) (.str k u)).1, ep, (if (layNew t es (hashStr w k) (.str k u)).2.1.plain = true then { (layNew t es (hashStr w k) (.str k u)).2.1 with plain := false } else (layNew t es (hashStr w k) (.str k u)).2.1)) (k :: l) := by
    refine F.ok.push hp ?_
    by_cases c : (layNew t es (hashStr w k) (.str k u)).2.1.plain = true
    · rw [if_pos c]; exact SetTable.fits_plain_off hf
    · rw [if_neg c]; exact hf
  rw [Array.toList_push] at hp
  have pc := hp.trans (List.perm_append_singleton _ _)
  refine TxR.tail (ep := ep) ⟨ok2, ?_, fun e he => ?_, ?_, ?_⟩
  · exact (pc.map fun e : Int × Value => txOf e.2).trans (F.pm.cons k)
  · rcases List.mem_cons.mp (pc.mem_iff.mp he) with z | z
    · exact ⟨k, u, by rw [z]⟩
    · exact F.st e z
  · show Ris (if (layNew t es (hashStr w k) (.str k u)).2.1.plain = true then ({ (layNew t es (hashStr w k) (.str k u)).2.1 with plain := false } : SetTable) else (layNew t es (hashStr w k) (.str k u)).2.1).place.toList
    by_cases c : (layNew t es (hashStr w k) (.str k u)).2.1.plain = true
    · rw [if_pos c]; exact hr
    · rw [if_neg c]; exact hr
  · refine F.le.imp id fun z => ?_
    show (if (layNew t es (hashStr w k) (.str k u)).2.1.plain = true then ({ (layNew t es (hashStr w k) (.str k u)).2.1 with plain := false } : SetTable) else (layNew t es (hashStr w k) (.str k u)).2.1).led = true
    by_cases c : (layNew t es (hashStr w k) (.str k u)).2.1.plain = true
    · rw [if_pos c]; exact hl.trans z
    · rw [if_neg c]; exact hl.trans z
section
variable {P : Program} {w : World} {A : Around} {E : Value → Shared → Prop} {s : Shared}
end
end Vs

/-! set(xs), sorted(set(xs)), len(set(xs)) as expressions; xs a list of texts. -/
namespace Vs
open PySem PySem.Spec L2 PyProof.Rows PySem.W PySem.Froz
def setObj0 (w : World) : Obj := sObj "set" (#[], 0, .fresh 0 0 (!w.params.followText "set-order"))
section
variable {prog : Program} {w : World} {A : Around} {E : Value → Shared → Prop} {s : Shared}
end
/-- the set of texts at a -/
def TxS (P : Program) (w : World) (a : Addr) (l : List Str) : HO := .ext fun h => ∃ D : SD, h.get? a = some (sObj "set" D) ∧ TxR P w D l
section
variable {X : Cx}
def rSetT (P : Program) (w : World) (K : PySem.W.Frag) : List V → Hp → VK → Prop := fun vs H Q => ∃ (F : Hp) (a : Addr) (us : List V) (xs : List Str), vs = [V.ref a] ∧ SqL K H a us ∧ RepL K F us (xs.map Dt.str) ∧ (setT xs).length < scanBound ∧
  ∀ D, H D = none → Q (.ref D) (upd H D (TxS P w D (setT xs)))
def rSortSet (P : Program) (w : World) (K : PySem.W.Frag) : List V → Hp → VK → Prop := fun vs H Q => ∃ (F : Hp) (a : Addr) (l : List Str), vs = [V.ref a] ∧ Sub F H ∧ H a = some (TxS P w a l) ∧ l.length < scanBound ∧ (∀ x ∈ l, goodB x = true) ∧
  ∀ D ys, H D = none → RepL K F ys ((sortT l).map Dt.str) → Q (.ref D) (upd H D (.lst ys))
end
section
variable {I : Type} {X : I → Cx} {K : PySem.W.Frag} {G : Env} {e : Expr} {p p2 pos pos2 : Pos} {xs : List Str}
end
/-- how many range(a, b, c) has -/
def rng3N (a b c : Int) : Nat := (Builtin.Range.rangeSize a b c).toNat
section
variable {I : Type} {X : I → Cx} {K : PySem.W.Frag} {G : Env} {tg : Expr}
end
end Vs

/-! for over an own list of a def's own name, that stays as it is. -/
namespace Vs
open PySem PySem.Spec L2
section
variable {X : Cx} {K : PySem.W.Frag} {W : WX} {sv : Sv} {G : Env} {rest : List Stmt} {o : Out} {pos : Pos} {A S T R : Type}
end
section
variable {I : Type} {X : I → Cx} {K : PySem.W.Frag}
end
end Vs

/-! min of a list of texts; a def that answers None or a new list. -/
namespace Vs
open PySem PySem.Spec L2 PyProof.Rows
/-- None, or an own list -/
def optC {A : Type} (f : A → Dt) : Option (List A) → Cell
  | none => .fz .non
  | some xs => .ol (xs.map f)
/-! ### min -/
def minG : Str → List Str → Str
  | m, [] => m
  | m, x :: xs => minG (cond (ltS x m) x m) xs
def minT : List Str → Str
  | [] => Str.ofString ""
  | x :: xs => minG x xs
/-- the place of the least, as min finds it -/
def ltAt (xs : List Str) (i j : Nat) : Bool := decide ((xs.getD i (Str.ofString "")).cps.toList < (xs.getD j (Str.ofString "")).cps.toList)
section
variable {prog : Program} {w : World} {A : Around} {E : Value → Shared → Prop} {s : Shared}
end
section
variable {X : Cx}
def rMinT (K : PySem.W.Frag) : List V → Hp → VK → Prop := fun vs H Q => ∃ (F : Hp) (a : Addr) (us : List V) (xs : List Str), vs = [V.ref a] ∧ SqL K H a us ∧ RepL K F us (xs.map Dt.str) ∧ 0 < xs.length ∧ Q (.str (minT xs)) H
end
section
variable {I : Type} {X : I → Cx} {K : PySem.W.Frag} {G : Env} {e : Expr} {p pos : Pos} {xs : List Str}
end
end Vs

/-! More of dicts: their values summed and listed, the keys of a dict of tuples listed, pop, a display with text keys read. -/
namespace Vs
open PySem PySem.Spec L2 PyProof.Rows
/-! ### a literal key of a display -/
section
variable {I : Type} {X : I → Cx} {K : PySem.W.Frag} {G : Env}
end
/-! ### d.values() -/
def valsO (p d : Addr) : HO := .ext fun h => h.IsValuesView p d
section
variable {X : Cx}
def tView (td : TE) : TE := fun σ H Q => td σ H fun x H1 => ∃ a kvs, x = V.ref a ∧ Rd H1 a (.dK kvs) ∧ ∀ p, H1 p = none → Q (.ref p) (upd H1 p (valsO p a))
end
section
variable {I : Type} {X : I → Cx} {K : PySem.W.Frag} {G : Env}
end
end Vs

/-! The keys of a dict of tuples listed; pop. -/
namespace Vs
open PySem PySem.Spec L2 PyProof.Rows
section
variable {X : Cx}
/-- d.pop(k) -/
def rPopK : V → List V → Hp → VK → Prop := fun x xs H Q => ∃ (a : Addr) (kvs : List (Key × V)) (k : Key) (v : V), x = .ref a ∧ xs = [kV k] ∧ H a = some (.dK kvs) ∧ valV kvs k = some v ∧ Q v (upd H a (.dK (dropK kvs k)))
def rPopT1 : V → List V → Hp → VK → Prop := fun x xs H Q => ∃ (a : Addr) (kvs : List (List Key × V)) (k : List Key) (b : Addr) (v : V), x = .ref a ∧ xs = [.ref b] ∧ H a = some (.dT kvs) ∧ H b = some (.tup (k.map kV)) ∧ valV kvs k = some v ∧ Q v (upd H a (.dT (dropK kvs k)))
end
/-! ### what stays -/
def dels {κ A : Type} [DecidableEq κ] (d : List (κ × A)) (k : κ) : List (κ × A) := d.filter fun p => decide (p.1 ≠ k)
section
variable {κ A : Type} [DecidableEq κ] {K : PySem.W.Frag} {F : Hp} {f : A → Dt}
end
section
variable {X : Cx} {K : PySem.W.Frag} {G : Env}
end
/-! ### the keys listed -/
section
variable {I : Type} {X : I → Cx} {K : PySem.W.Frag} {G : Env}
end
end Vs

/-! len of a dict of tuples; displays compared; a new list cleared at once. -/
namespace Vs
open PySem PySem.Spec L2 PyProof.Rows
section
variable {I : Type} {X : I → Cx} {K : PySem.W.Frag} {G : Env}
end
section
variable {X : Cx} {K : PySem.W.Frag} {W : WX} {sv : Sv} {G : Env} {rest : List Stmt} {o : Out} {pos : Pos}
end
end Vs

/-! An own object handed to an expression that tells objects of other families: told apart by the first field's name. -/
namespace Vs
open PySem PySem.Spec L2
/-- a list, a dict, or an object whose first field is f0 -/
def isCJ (f0 : Str) : HO → Bool
  | .lst _ => true
  | .dK _ => true
  | .dT _ => true
  | .ins _ _ ((g, _) :: _) => g == f0
  | _ => false
def hdNe (f0 : Str) : List (Str × Dt) → Bool
  | [] => true
  | (g, _) :: _ => !(g == f0)
mutual
def noJ (f0 : Str) : Dt → Bool
  | .non => true
  | .bl _ => true
  | .int _ => true
  | .str _ => true
  | .tup xs => noJs f0 xs
  | .ins _ fs => hdNe f0 fs && noJf f0 fs
  | _ => false
def noJs (f0 : Str) : List Dt → Bool
  | [] => true
  | d :: ds => noJ f0 d && noJs f0 ds
def noJf (f0 : Str) : List (Str × Dt) → Bool
  | [] => true
  | (_, d) :: ds => noJ f0 d && noJf f0 ds
end
def noJk (f0 : Str) : List (Key × Dt) → Bool
  | [] => true
  | (_, d) :: ds => noJ f0 d && noJk f0 ds
theorem isCJ_ins {f0 : Str} {K : PySem.W.Frag} {F : Hp} {p dx : Addr} {vs : List (Str × V)} {fs : List (Str × Dt)} (r : RepF K F vs fs) (h : hdNe f0 fs = true) : isCJ f0 (.ins p dx vs) = false := by
  cases r with
  | nil => rfl
  | cons _ _ => exact (Bool.not_eq_true' _).mp h
section
variable {f0 : Str} {K : PySem.W.Frag} {F F' : Hp} (e : ∀ a o, F a = some o → isCJ f0 o = false → F' a = some o)
include e
mutual
theorem Rep.noJ : ∀ {v : V} {d : Dt}, Rep K F v d → noJ f0 d = true → Rep K F' v d
  | _, _, .non, _ => .non
  | _, _, .bl b, _ => .bl b
  | _, _, .int i, _ => .int i
  | _, _, .str s h, _ => .str s h
  | _, _, .tup h l r, n => .tup (e _ _ h rfl) l (RepL.noJ r (by unfold Vs.noJ at n; exact n))
  | _, _, .ins h r, n => by
    unfold Vs.noJ at n
    obtain ⟨n1, n2⟩ := Bool.and_eq_true_iff.mp n
    exact .ins (e _ _ h (isCJ_ins r n1)) (RepF.noJ r n2)
  | _, _, .lst _ _ _, n => by unfold Vs.noJ at n; cases n
  | _, _, .dic _ _ _ _, n => by unfold Vs.noJ at n; cases n
  | _, _, .dit _ _ _ _, n => by unfold Vs.noJ at n; cases n
  | _, _, .scr _ _ _, n => by unfold Vs.noJ at n; cases n
  | _, _, .xc _ _ _, n => by unfold Vs.noJ at n; cases n
theorem RepL.noJ : ∀ {v : List V} {d : List Dt}, RepL K F v d → noJs f0 d = true → RepL K F' v d
  | _, _, .nil, _ => .nil
  | _, _, .cons h r, n => by
    unfold Vs.noJs at n
    obtain ⟨n1, n2⟩ := Bool.and_eq_true_iff.mp n
    exact .cons (Rep.noJ h n1) (RepL.noJ r n2)
theorem RepF.noJ : ∀ {v : List (Str × V)} {d : List (Str × Dt)}, RepF K F v d → noJf f0 d = true → RepF K F' v d
  | _, _, .nil, _ => .nil
  | _, _, .cons h r, n => by
    unfold Vs.noJf at n
    obtain ⟨n1, n2⟩ := Bool.and_eq_true_iff.mp n
    exact .cons (Rep.noJ h n1) (RepF.noJ r n2)
end
theorem RepK.noJ : ∀ {v : List (Key × V)} {d : List (Key × Dt)}, RepK K F v d → noJk f0 d = true → RepK K F' v d
  | _, _, .nil, _ => .nil
  | _, _, .cons o h r, n => by
    unfold noJk at n
    obtain ⟨n1, n2⟩ := Bool.and_eq_true_iff.mp n
    exact .cons o (Rep.noJ e h n1) (RepK.noJ r n2)
end
section
variable {f0 : Str}
end
/-- an own object of data, own lists, own dicts, its first field f0 -/
def flatO3 (f0 : Str) : Cell → Bool
  | .ob _ ((g, c) :: fs) => (g == f0) && flatF ((g, c) :: fs)
  | _ => false
section
variable {f0 : Str} {K : PySem.W.Frag} {F H : Hp}
variable {σ : L2.St} {G : Env} {fps : Nat → List Addr} {i : Nat} {π : List Nat} {c : Cell} {d0 : Dt}
end
section
variable {f0 : Str} {I : Type} {X : I → Cx} {K : PySem.W.Frag} {G G' : Env}
end
end Vs

/-! A dict in a field of an object is walked: it is locked meanwhile. -/
namespace Vs
open PySem PySem.Spec L2
/-- a dict's contents -/
def isDi : HO → Bool
  | .dK _ => true
  | .dT _ => true
  | _ => false
/-- the dict in the field f of the object that the name's slot holds is locked -/
def LckF (i : Nat) (f : Str) (F H : Hp) (σ : L2.St) : Prop := ∃ p C dx vs a o u, σ[i]? = some (some (V.ref p)) ∧ F p = some (.ins C dx vs) ∧ vs.lookup f = some (.ref a) ∧ F a = some u ∧ H a = some (.frz o u)
section
variable {K : PySem.W.Frag} {G : Env} {i : Nat} {fl : Str}
end
section
variable {K : PySem.W.Frag} {G : Env} {κ A : Type} {f : A → Dt} {tg : Expr} {fl : Str} {C : Str} {fs : List (Str × Dt)} {I : Type} {X : I → Cx} {x : Str} {p ap apos cpos : Pos}
end
end Vs

/-! isinstance(x, (A, B, C)) of own classes; a try whose body never raises. -/
namespace Vs
open PySem PySem.Spec L2
section
variable {I : Type} {X : I → Cx} {K : PySem.W.Frag} {G : Env}
end
/-! x in a list of truths -/
section
variable {I : Type} {X : I → Cx} {K : PySem.W.Frag} {G : Env}
end
section
variable {X : Cx} {K : PySem.W.Frag} {W : WX} {sv : Sv} {G : Env} {rest : List Stmt} {pos : Pos} {o : Out}
end
end Vs

/-! Methods that raise on frozen objects, o.f += n, xs.reverse(), own things made in a call. -/
namespace Vs
open PySem PySem.Spec L2
/-- o.m(e, ..) in a body that lets exceptions out -/
def tMethZ (C : Addr) (m : Str) (sp : Sp) (E : L2.St → XK) (ta : TE) (t : TA) : TE := fun σ H Q => ta σ H fun x H1 => ∃ a dx fs, x = .ref a ∧ H1 a = some (.ins C dx fs) ∧ fs.lookup m = none ∧ t σ H1 fun vs H2 => sp (x :: vs) H2 Q (E σ)
section
variable {X : Cx} {K : PySem.W.Frag} {W : WX} {sv : Sv} {G : Env} {rest : List Stmt} {pos : Pos} {o : Out} {P : Program} {w : World} {mg : Str → Option Value} {base : Heap}
end
section
variable {I : Type} {X : I → Cx} {K : PySem.W.Frag} {G : Env} {P : Program} {w : World} {mg : Str → Option Value} {base : Heap}
end
/-! ### an own object of data alone, handed to one expression -/
def isIns : HO → Bool
  | .ins _ _ _ => true
  | _ => false
mutual
/-- no object in it -/
def noP : Dt → Bool
  | .non => true
  | .bl _ => true
  | .int _ => true
  | .str _ => true
  | .lst xs => noPs xs
  | .tup xs => noPs xs
  | .dic kvs => noPk kvs
  | _ => false
def noPs : List Dt → Bool
  | [] => true
  | d :: ds => noP d && noPs ds
def noPk : List (Key × Dt) → Bool
  | [] => true
  | (_, d) :: ds => noP d && noPk ds
end
section
variable {K : PySem.W.Frag} {F F' : Hp} (e : ∀ a o, F a = some o → isIns o = false → F' a = some o)
include e
mutual
theorem Rep.noP : ∀ {v : V} {d : Dt}, Rep K F v d → noP d = true → Rep K F' v d
  | _, _, .non, _ => .non
  | _, _, .bl b, _ => .bl b
  | _, _, .int i, _ => .int i
  | _, _, .str s h, _ => .str s h
  | _, _, .tup h l r, n => .tup (e _ _ h rfl) l (RepL.noP r (by unfold Vs.noP at n; exact n))
  | _, _, .lst h l r, n => .lst (e _ _ h rfl) l (RepL.noP r (by unfold Vs.noP at n; exact n))
  | _, _, .dic h l r d, n => .dic (e _ _ h rfl) l (RepK.noP r (by unfold Vs.noP at n; exact n)) d
  | _, _, .ins _ _, n => by unfold Vs.noP at n; cases n
  | _, _, .dit _ _ _ _, n => by unfold Vs.noP at n; cases n
  | _, _, .scr _ _ _, n => by unfold Vs.noP at n; cases n
  | _, _, .xc _ _ _, n => by unfold Vs.noP at n; cases n
theorem RepL.noP : ∀ {v : List V} {d : List Dt}, RepL K F v d → noPs d = true → RepL K F' v d
  | _, _, .nil, _ => .nil
  | _, _, .cons h r, n => by
    unfold Vs.noPs at n
    obtain ⟨n1, n2⟩ := Bool.and_eq_true_iff.mp n
    exact .cons (Rep.noP h n1) (RepL.noP r n2)
theorem RepK.noP : ∀ {v : List (Key × V)} {d : List (Key × Dt)}, RepK K F v d → noPk d = true → RepK K F' v d
  | _, _, .nil, _ => .nil
  | _, _, .cons o h r, n => by
    unfold Vs.noPk at n
    obtain ⟨n1, n2⟩ := Bool.and_eq_true_iff.mp n
    exact .cons o (Rep.noP h n1) (RepK.noP r n2)
end
end
def plainF : List (Str × Cell) → Bool
  | [] => true
  | (_, .fz _) :: fs => plainF fs
  | _ => false
def plainO : Cell → Bool
  | .ob _ fs => plainF fs
  | _ => false
section
variable {K : PySem.W.Frag} {F H : Hp} {σ : L2.St} {G : Env} {fps : Nat → List Addr} {i : Nat} {π : List Nat} {c : Cell} {d0 : Dt}
end
section
variable {I : Type} {X : I → Cx} {K : PySem.W.Frag} {G G' : Env}
end
end Vs

/-! Calls that are handed own things and raise; exceptions without a field. -/
namespace Vs
open PySem PySem.Spec L2
section
variable {X : Cx} {K : PySem.W.Frag} {W : WX} {sv : Sv} {G : Env} {rest : List Stmt} {pos : Pos} {P : Program} {w : World} {mg : Str → Option Value} {base : Heap}
/-- e raises x; the names' cells are then G' -/
def EVZ (X : Cx) (K : PySem.W.Frag) (W : WX) (G : Env) (e : Expr) (x : Xc) (G' : Env) : Prop :=
  ∀ F H σ fps (Q : VK), EnvOk K F H σ G fps → (∀ F' H' d fps', EnvOk K F' H' σ G' fps' → Le (Owns fps) F H F' H' (Owns fps') → XRep K F' d x.fs → W (.ref (He.ga K x.cls)) d σ H') → wpE (one X) e σ H Q
theorem EZ.ev {e : Expr} {x : Xc} (h : EZ X K W G e x) : EVZ X K W G e x G := fun F H σ fps Q E q => h F H σ fps Q E fun F' H' d u xr => q F' H' d fps (E.up u) u.le xr
/-! ### the statement -/
end
/-- the things at the end -/
def rzU {T Z : Type} (f : T → List Cell) (o : List Cell) : Sum T Z → List Cell
  | .inl v => f v
  | .inr _ => o
/-! ### raised by a frozen method of an own object -/
def noPf : List (Str × Dt) → Bool
  | [] => true
  | (_, d) :: fs => noP d && noPf fs
def noIf : List (Str × Dt) → Bool
  | [] => true
  | (_, d) :: fs => noI d && noIf fs
section
variable {K : PySem.W.Frag} {F F' : Hp}
theorem RepF.noP (e : ∀ a o, F a = some o → isIns o = false → F' a = some o) : ∀ {v : List (Str × V)} {d : List (Str × Dt)}, RepF K F v d → noPf d = true → RepF K F' v d
  | _, _, .nil, _ => .nil
  | _, _, .cons h r, n => by
    unfold noPf at n
    obtain ⟨n1, n2⟩ := Bool.and_eq_true_iff.mp n
    exact .cons (Rep.noP e h n1) (RepF.noP e r n2)
theorem RepF.noO (e : ∀ a o, F a = some o → isC2 o = false → F' a = some o) : ∀ {v : List (Str × V)} {d : List (Str × Dt)}, RepF K F v d → noIf d = true → RepF K F' v d
  | _, _, .nil, _ => .nil
  | _, _, .cons h r, n => by
    unfold noIf at n
    obtain ⟨n1, n2⟩ := Bool.and_eq_true_iff.mp n
    exact .cons (Rep.noO e h n1) (RepF.noO e r n2)
end
section
variable {X : Cx} {K : PySem.W.Frag} {W : WX} {G G' : Env}
end
section
variable {X : Cx} {K : PySem.W.Frag} {W : WX} {sv : Sv} {G : Env} {rest : List Stmt} {pos : Pos}
end
/-! ### exceptions without a field -/
theorem mk_end0N {X : Cx} {pins : List (Addr × Obj)} {σ : L2.St} {H1 H2 : Hp} {hp hp2 h2 : Heap} {g1 g2 : Array GenState} {d1 d2 : Drawn} {t1 t2 : Nat} {os1 os2 : OsState} {a C : Addr} (I1 : Inv X pins σ H1 ⟨hp, g1, d1, t1, os1⟩)
    (ha : hp.objs.size ≤ a) (k : ∀ b o, hp.get? b = some o → hp2.get? b = some o) (un : Un (frs X.stack) [] (upd H1 a (exo a C none)) H2 hp2 h2) (hok : HOk X.prog X.w H2 h2) (ho : os2 = os1) (hb : PyProof.Rows.AllBare g2)
    (ea : H2 a = some (exo a C none)) :
    ∃ (t0 : Addr) (G : Heap), Inv X pins σ (del H2 a) ⟨G, g2, d2, t2, os2⟩ ∧ (∀ b o, G.get? b = some o → h2.get? b = some o) ∧ G.get? a = none ∧
      h2.get? a = some ({ cls := .ref C, dict := none, data := .fields #[.ref t0, .none, .none, .none, .bool false, .none] } : Obj) ∧ (del H2 a) a = none := by
  obtain ⟨t0, hoe⟩ := exo_at hok ea
  have hn : H1 a = none := I1.hok.fresh ha
  obtain ⟨G, g1', g2'⟩ := restrict h2 fun b => decide (b ≠ a)
  have gk : ∀ b, b ≠ a → G.get? b = h2.get? b := fun b hb => g1' b (decide_eq_true hb)
  have ge : G.get? a = none := g2' a (by simp)
  have nha : ∀ {b : Addr} {o : Obj}, hp.get? b = some o → b ≠ a := fun {b o} z => Nat.ne_of_lt (Nat.lt_of_lt_of_le (Heap.lt_size z) ha)
  have up : ∀ {b : Addr}, b ≠ a → H1 b = none → upd H1 a (exo a C none) b = none := fun {b} hb n => by rw [upd_ne hb]; exact n
  have U : Un (frs X.stack) [] H1 (del H2 a) hp G := {
    keep := fun b o z n hf hx => by
      rw [gk b (nha z)]
      exact un.keep b o (k b o z) (up (nha z) n) hf hx
    slot := fun b o z n hf hx => by
      rw [gk b (nha z)]
      exact un.slot b o (k b o z) (up (nha z) n) hf hx
    free := fun b o z n hx => by
      rw [del_ne (nha z)]
      exact un.free b o (k b o z) (up (nha z) n) hx
    there := fun b o z hx => by
      rw [gk b (nha z)]
      exact un.there b o (k b o z) hx
    tups := fun b xs z => by
      rw [del_ne (ne_of_none z hn)]
      exact un.tups b xs (by rw [upd_ne (ne_of_none z hn)]; exact z)
    frzs := fun b o v z => by
      rw [del_ne (ne_of_none z hn)]
      exact un.frzs b o v (by rw [upd_ne (ne_of_none z hn)]; exact z)
    tbls := fun b ps z => by
      rw [del_ne (ne_of_none z hn)]
      exact un.tbls b ps (by rw [upd_ne (ne_of_none z hn)]; exact z) }
  have hok3 : HOk X.prog X.w (del H2 a) G := fun b o z => by
    have hba : b ≠ a := fun e => by
      rw [e, del_same] at z
      cases z
    rw [del_ne hba] at z
    have noa : ∀ {c : Addr}, H2 c = some (.own b) → c ≠ a := fun {c} hc => at_ne ea hc exo_own
    exact (hok b o z).stay (fun c v hc y => by
        have hca : c ≠ a := by
          rcases hc with hc | hc
          · rw [hc]
            exact hba
          · exact noa hc
        rw [gk c hca]
        exact y)
      (fun c hc => by rw [del_ne (noa hc)]; exact hc) (fun c xs hc => by rw [del_ne (at_ne ea hc exo_tup)]; exact hc)
  have J : Inv X pins σ (del H2 a) ⟨G, g2, d2, t2, os2⟩ := I1.call' (ch := []) ho U hok3 hb (fun b z => absurd z (by simp))
  refine ⟨t0, G, J, fun b o z => ?_, ge, hoe, del_same⟩
  by_cases hba : b = a
  · rw [hba, ge] at z
    cases z
  · exact (gk b hba).symm.trans z
/-- C(), C's own __init__ keeping sp, which sets nothing -/
def tMkN (C : Addr) (sp : Sp) : L2.St → Hp → XK → Prop := fun _ H1 Q => ∀ a, H1 a = none → sp [.ref a] (upd H1 a (exo a C none))
  (fun v H2 => v = .non ∧ H2 a = some (exo a C none) ∧ Q (.ref C) none (del H2 a)) (fun _ _ _ => False)
theorem pmk_oexN {X : Cx} {p pos : Pos} {CX : CXT} {x : Str} {C fI : Addr} {k : Nat} {fd : FuncData} {ps : List Str} {sp : Sp} (T : OexC X.K C) (iC : PySem.W.findIn X.K (.ref C) "__init__" = some (some (.ref fI))) (tI : PySem.W.typeIn X.K (.ref fI) = some (.type "function"))
    (F1 : FnOk X.prog X.w X.K X.mg X.base CX k fI fd ps sp) (hr : Room (k + 1) X.A) (hb : Binds X.K fd ps []) (hx : Passes CX X (fun _ _ _ => False)) (hg : Gl X x) (hm : X.mg x = some (.ref C))
    (hdb : (x == ("__debug__" : Str)) = false := by decide) :
    PMk X (.Call (.Name x p) [] [] pos) (tMkN C sp) := by
  intro pins s σ H Q I h
  obtain ⟨nm, q, N, bs, bm, sn, sub, ab, col, dd, k0, k1, k2, k3, k5, hC, hbm⟩ := T.cls
  refine wpAny_Call_Name_kw (ld_glob I hg hm ?_ hdb)
  refine PySem.W.callWith_K0 (first := []) I.kIn T.kC ?_
  show wpAny _ _ (call (.ref C) []) _ _ _
  obtain ⟨hp, g, dr, tk, os⟩ := s
  have hsz : hp.objs.size ≤ hp.objs.size + 1 := Nat.le_succ _
  have hn : H (hp.objs.size + 1) = none := I.hok.fresh hsz
  have hq := h (hp.objs.size + 1) hn
  have kk : ∀ b o, hp.get? b = some o → ((hp.push (PySem.W.kdv_tup [])).push (PySem.HandSPX.excO C hp.objs.size)).get? b = some o := fun b o e => Heap.get?_push_of_some _ (Heap.get?_push_of_some _ e)
  have hget : ((hp.push (PySem.W.kdv_tup [])).push (PySem.HandSPX.excO C hp.objs.size)).get? (hp.objs.size + 1) = some (PySem.HandSPX.excO C hp.objs.size) := by heap_get
  have I2 : Inv X pins σ (upd H (hp.objs.size + 1) (exo (hp.objs.size + 1) C none)) ⟨(hp.push (PySem.W.kdv_tup [])).push (PySem.HandSPX.excO C hp.objs.size), g, dr, tk, os⟩ :=
    I.laid (t' := tk) (a := hp.objs.size + 1) (o := exo (hp.objs.size + 1) C none) (h' := (hp.push (PySem.W.kdv_tup [])).push (PySem.HandSPX.excO C hp.objs.size)) kk hsz (exo_ok hget)
  have r2 : Vals [V.ref (hp.objs.size + 1)] [Value.ref (hp.objs.size + 1)] := .cons rfl .nil
  have hl : ([Value.ref (hp.objs.size + 1)] ++ ([] : List Value)).length = ps.length := by
    have e := r2.length
    rw [F1.len _ _ _ _ hq] at e
    exact e.symm
  refine wpAny_call (PySem.HandSPX.call_own F.excBase_ValueError (fun Y => PySem.HandSPX.refsVE_contains Y bm hbm) (I.kIn _ _ hC) (PySem.W.looks_findIn I.kIn iC) (fun self => PySem.W.bind_fn I.kIn self tI) (Nat.zero_le _)
    (codeAny_mono (F1.run _ X.stack _ _ ⟨[Value.ref (hp.objs.size + 1)], []⟩ [Value.ref (hp.objs.size + 1)] _ _ (fun _ _ _ => False) (hr.make C [] []) (I2.env0.make C [] []) (hb _ [Value.ref (hp.objs.size + 1)] I2.kIn hl) r2 hq) fun r s' hq' => ?_))
  cases r with
  | error er => exact hx pins σ _ _ er s' I2 hq'
  | ok fl =>
    cases fl with
    | ret u =>
      obtain ⟨v, H2, os2, bare2, un2, hok2, rv, ev, ea, q2⟩ := hq'
      subst ev
      obtain ⟨h2, g2, d2, t2, os'⟩ := s'
      obtain ⟨t0, G, J, kG, ge, hoe, na⟩ := mk_end0N (d2 := d2) (t2 := t2) I hsz kk un2 hok2 os2 bare2 ea
      exact ⟨rv, _, _, _, ⟨G, g2, d2, t2, os'⟩, _, .ref C, none, rfl, J, kG, ge, hoe, ⟨rfl, rfl⟩, rfl, rfl, na, rfl, bare2, raises_own T.exC T.tyC, q2⟩
    | next => exact False.elim hq'
    | brk => exact False.elim hq'
    | cont => exact False.elim hq'
/-- what such an __init__ does -/
def spIN (K : PySem.W.Frag) : Sp := fun vs H Q _ => ∃ (a C : Addr), vs = [.ref a] ∧ OexC K C ∧ H a = some (exo a C none) ∧ Q .non H
structure CalleeXN (P : Program) (w : World) (K : PySem.W.Frag) (mg : Str → Option Value) (base : Heap) (C : Str) : Prop where
  ex : ∃ fd ps, FnOk P w K mg base (L2.CX P w) 1 (He.ma K (He.ga K C) "__init__") fd ps (spIN K) ∧ Binds K fd ps []
/-- def __init__(self): B.__init__(self, 'm') -/
theorem init_okN {P : Program} {w : World} {K : PySem.W.Frag} {mg : Str → Option Value} {base : Heap} {qual B m : Str} {params : Arguments} {body : List Stmt} {scope : Scope} {fi : Addr} {fd : FuncData} {self : Str}
    {p1 p2 p3 p4 p5 p6 : Pos} {j} (F : FunD K "__init__" qual params body scope [] [] fi fd) (S : FnScope [self] [self] scope) (Z : BviF K B) (gB : mg B = some (.ref (He.ga K B)))
    (hb : body = [.Expr (.Call (.Attribute (.Name B p1) "__init__" p2) [.Name self p3, .Constant (.str m) j p4] [] p5) p6])
    (hgl : ∀ (cdv : Value) (A : Around) (outer : List PySem.Env) (s : Shared) (H : Hp) (E : XK), Gl (cxOf (L2.CX P w) P w K mg base [self] qual scope fi cdv A outer s H E) B)
    (hv1 : Vis scope self) (hd1 : (self == ("__debug__" : Str)) = false) (hc1 : (self == ("__classdict__" : Str)) = false) (hdB : (B == ("__debug__" : Str)) = false)
    (ht : ∀ (cdv : Value) (A : Around) (outer : List PySem.Env) (s : Shared) (H : Hp) (E : XK), ∃ pl, eval (.Call (.Attribute (.Name B p1) "__init__" p2) [.Name self p3, .Constant (.str m) j p4] [] p5) (cxOf (L2.CX P w) P w K mg base [self] qual scope fi cdv A outer s H E).env = (do
      let ov ← eval (.Name B p1) (cxOf (L2.CX P w) P w K mg base [self] qual scope fi cdv A outer s H E).env
      standAt p2.atName
      let (f, first) ← holding [ov] (getMethod ov "__init__" pl)
      callWith p5 f first (backTo p5 (starEach [.Name self p3, .Constant (.str m) j p4] (cxOf (L2.CX P w) P w K mg base [self] qual scope fi cdv A outer s H E).env)) (backToKw p5 (keywordEach [] (cxOf (L2.CX P w) P w K mg base [self] qual scope fi cdv A outer s H E).env)))) :
    FnOk P w K mg base (L2.CX P w) 1 fi fd [self] (spIN K) := by
  subst hb
  refine F.ok S (fun vs H Q E ⟨a, C, e, _⟩ => by rw [e]; rfl) fun cdv A outer s H vs Q E hr ⟨a, C, e, T, ha, q⟩ => ?_
  subst e
  obtain ⟨pl, ht⟩ := ht cdv A outer s H E
  refine ⟨_, pss_cons (ps_expr (pe_bvi (pl := pl) (hgl cdv A outer s H E) gB Z.rd Z.at_ (pa_cons (pe_var (i := 0) rfl hv1 hd1 hc1) (pa_cons pe_str pa_nil rfl) rfl) hdB rfl rfl ht) rfl) pss_nil, ?_⟩
  exact ⟨.ref a, rfl, a, C, [.str m], rfl, (show 1 ≤ 1000 by decide), T, ha, q⟩
section
variable {X : Cx} {K : PySem.W.Frag} {W : WX} {sv : Sv} {G : Env} {rest : List Stmt} {pos : Pos} {P : Program} {w : World} {mg : Str → Option Value} {base : Heap}
end
end Vs

/-! Values of any kind; tests that change own things. -/
namespace Vs
open PySem PySem.Spec L2
/-! ### values of any kind -/
instance : Inhabited Dt := ⟨.non⟩
def toI : Dt → Int
  | .int i => i
  | _ => 0
def isI : Dt → Bool
  | .int _ => true
  | _ => false
def isT_int : Dt → Bool
  | .int _ => true
  | .bl _ => true
  | _ => false
def isT_tuple : Dt → Bool
  | .tup _ => true
  | _ => false
def isT_list : Dt → Bool
  | .lst _ => true
  | .scr _ => true
  | _ => false
def dynEq (a b : Dt) : Bool := PyData.eqv a.py b.py
def dynQ (a : Dt) : Bool := a.flat && decide (a.py.depth ≤ 64)
/-- the place n of a tuple -/
def tupAt (d : Dt) (n : Nat) : Dt := match d with
  | .tup ds => (ds[n]?).getD .non
  | _ => .non
def isTupN (d : Dt) (n : Nat) : Bool := match d with
  | .tup ds => Nat.blt n ds.length
  | _ => false
section
variable {I : Type} {X : I → Cx} {K : PySem.W.Frag} {G : Env}
theorem EX.toI {e : Expr} {d : Dt} (h : EX X K G e d) (k : isI d = true) : EX X K G e (.int (toI d)) := by
  cases d with
  | int i => exact h
  | _ => cases k
end
/-! ### an expression that changes own things, within another one -/
section
variable {X : Cx} {K : PySem.W.Frag} {G : Env}
/-- a test that changes own things -/
def EVB (X : Cx) (K : PySem.W.Frag) (G : Env) (c : Expr) (b : Bool) (G1 : Env) : Prop :=
  ∀ F H σ fps (Q : Bool → Hp → Prop), EnvOk K F H σ G fps → (∀ F' H' fps', EnvOk K F' H' σ G1 fps' → Le (Owns fps) F H F' H' (Owns fps') → Q b H') → wpT (one X) c σ H Q
def EVW (X : Cx) (K : PySem.W.Frag) (G : Env) (c : Expr) (b : Bool) (G1 : Env) : Prop :=
  ∀ F H σ fps (Q : Bool → Hp → Prop), EnvOk K F H σ G fps → (∀ F' H' fps', EnvOk K F' H' σ G1 fps' → Le (Owns fps) F H F' H' (Owns fps') → Q b H') → wpW (one X) c σ H Q
variable {W : WX} {sv : Sv} {rest : List Stmt} {pos : Pos}
end
end Vs

/-! A dict under a literal key of a frozen display is walked: it is locked meanwhile. -/
namespace Vs
open PySem PySem.Spec L2
def LckK (i : Nat) (s : Str) (F H : Hp) (σ : L2.St) : Prop := ∃ p vs a o u, σ[i]? = some (some (V.ref p)) ∧ F p = some (.dK vs) ∧ ((Sum.inr s, V.ref a) : Key × V) ∈ vs ∧ F a = some u ∧ H a = some (.frz o u)
section
variable {K : PySem.W.Frag} {G : Env} {i : Nat} {s : Str}
end
section
variable {K : PySem.W.Frag} {G : Env} {κ A : Type} {f : A → Dt} {tg : Expr} {I : Type} {X : I → Cx} {x s : Str} {p ap apos cpos tpos kpos : Pos} {kvs : List (Key × Dt)} {jj}
end
end Vs

/-! A part of an own display with text keys is set. -/
namespace Vs
open PySem PySem.Spec L2
section
variable {X : Cx} {K : PySem.W.Frag} {W : WX} {sv : Sv} {G : Env} {rest : List Stmt} {o : Out} {pos : Pos}
end
end Vs

/-! Tests that compare what a call tells that changes own things. -/
namespace Vs
open PySem PySem.Spec L2
section
variable {X : Cx} {K : PySem.W.Frag} {G : Env}
end
end Vs

/-! Displays with keys that may be alike, xs.index(x), xs.insert(i, x), data in order: < and sorted. -/
namespace Vs
open PySem PySem.Spec L2 PySem.W PyProof.Rows
/-- a dict's display, key by key -/
def dispS {A : Type} (kvs : List (Str × A)) : List (Str × A) := kvs.foldl (fun d p => puts d p.1 p.2) []
section
variable {I : Type} {X : I → Cx} {K : PySem.W.Frag} {G : Env}
/-- the first place of a text -/
def idxS (x : Str) : List Str → Nat
  | [] => 0
  | y :: ys => if y = x then 0 else idxS x ys + 1
end
/-! data in order -/
def rLtD (K : PySem.W.Frag) : R2 := fun x y H Q => ∃ d e, Dp K H x d ∧ Dp K H y e ∧ alike d e = true ∧ d ≠ .none ∧ d.depth ≤ 64 ∧ Q (.bl (dataLt d e)) H
/-- a whole number, then a row of them -/
def ltIL (a b : Int × List Int) : Bool := decide (a.1 < b.1) || (decide (a.1 = b.1) && decide (a.2 < b.2))
section
variable {X : Cx} {K : PySem.W.Frag} {W : WX} {sv : Sv} {G : Env} {rest : List Stmt} {o : Out} {pos : Pos}
def rInsert : V → List V → Hp → VK → Prop := fun x vs H Q => ∃ (l : Addr) (xs : List V) (i : Int) (y : V), x = .ref l ∧ vs = [.int i, y] ∧ H l = some (.lst xs) ∧ xs.length < sizeLine ∧ 0 ≤ i ∧ i < 2 ^ 63 ∧
    Q .non (upd H l (.lst (xs.take i.toNat ++ [y] ++ xs.drop i.toNat)))
def insAt {A : Type} (xs : List A) (i : Int) (y : A) : List A := xs.take i.toNat ++ [y] ++ xs.drop i.toNat
end
end Vs

/-! sorted(xs, key=lambda _law_some: (len(_law_some), _law_some)), xs a list of lists of whole numbers: the second lambda. -/
namespace Vs
open PySem PySem.Spec L2 PyProof.Rows PySem.W
abbrev lam2Args (ap : Pos) : Arguments := { posonlyargs := [], args := [{ arg := "_law_some", annotation := none, pos := ap : PySem.Arg }], vararg := none, kwonlyargs := [], kw_defaults := [], kwarg := none, defaults := [] : PySem.Arguments }
abbrev lam2Sc : Scope := { kind := PySem.ScopeKind.function, names := [(PySem.Str.ofString "_law_some", PySem.NameKind.local), (PySem.Str.ofString "len", PySem.NameKind.globalImplicit)], isGenerator := false, isCoroutine := false, more := [] : PySem.Scope }
abbrev lam2Body (p1 p2 p3 p4 p5 : Pos) (x1 : Nat) : Expr := .Tuple [.Call (.Name "len" p1) [.Name "_law_some" p2] [] p3, .Name "_law_some" p4] x1 p5
/-- a list's key -/
def keyLL (xs : List Int) : Int × List Int := ((xs.length : Int), xs)
def leLL (a b : List Int) : Bool := !ltIL (keyLL b) (keyLL a)
abbrev encLI (xs : List Int) : Dt := .lst (xs.map Dt.int)
abbrev pyLL (xs : List Int) : PyData := .tuple [.int (xs.length : Int), .list (xs.map .int)]
/-! ### sorted by a key that is read off lists: the keys may hold lists that stood before the call -/
/-- v reads as d, off lists that lie below n -/
def RdB (n : Nat) (h : Heap) (v : Value) (d : PyData) : Prop := ∃ as, Reads h v d as ∧ ∀ x ∈ as, x < n
theorem RdB.keep {n : Nat} {h g : Heap} {v : Value} {d : PyData} (k : ∀ b o, h.get? b = some o → g.get? b = some o) : RdB n h v d → RdB n g v d := fun ⟨as, r, l⟩ => ⟨as, PyProof.Rows.Reads.keeps k r, l⟩
/-- a list behind n may grow -/
theorem RdB.grown {n c e : Nat} {h : Heap} {xs : Array Value} {v : Value} {d : PyData} (f : Array Value → Array Value) (al : alike d d = true) (hc : h.get? c = some (seqObj "list" xs e)) (hn : n ≤ c) : RdB n h v d → RdB n (h.update c (Obj.mapSeq f)) v d := fun ⟨as, r, l⟩ =>
  ⟨as, Reads.keepBut (a := c) (fun b o ne q => ((Heap.SameBut.update h c (Obj.mapSeq f)).2 b ne).trans q) (fun o q => by rw [hc] at q; cases q; rfl) d v as al r fun m => absurd (l _ m) (Nat.not_lt.mpr hn), l⟩
/-- a call that keeps all that stood and gives the key k -/
def KeyOff (n : Nat) (k : PyData) (s₁ : Shared) (v : Value) (s₂ : Shared) : Prop := ∃ g t, s₂ = { s₁ with heap := g, toks := t } ∧ (∀ b o, s₁.heap.get? b = some o → g.get? b = some o) ∧ RdB n g v k
/-- the keys of the first i items lie in the list kS, and the list a is empty meanwhile -/
structure KeyLoop (h₁ : Heap) (a kS n e1 : Nat) (kz : List PyData) (i : Nat) (h : Heap) : Prop where
  stay : KeepsBut a h₁ h
  void : h.get? a = some (seqObj "list" #[] e1)
  keys : ∃ ks e, h.get? kS = some (seqObj "list" ks e) ∧ EachIs (fun v d => RdB n h v d ∧ alike d d = true) ks.toList (kz.take i)
theorem KeyLoop.step {h₁ h g : Heap} {a kS n e1 i : Nat} {kz : List PyData} {d : PyData} {v : Value} (L : KeyLoop h₁ a kS n e1 kz i h) (new : h₁.get? kS = none) (hn : n ≤ kS) (ne : kS ≠ a) (hd : kz[i]? = some d) (al : alike d d = true)
    (up : ∀ b o, h.get? b = some o → g.get? b = some o) (r : RdB n g v d) : ∃ ks e, g.get? kS = some (seqObj "list" ks e) ∧ ks.size ≤ i ∧ KeyLoop h₁ a kS n e1 kz (i + 1) (g.update kS (Obj.mapSeq (·.push v))) := by
  obtain ⟨st, vo, ks, e, hk, ea⟩ := L
  have at_ := up _ _ hk
  have len := ea.length
  rw [Array.length_toList, List.length_take] at len
  have S := Heap.SameBut.update g kS (Obj.mapSeq (·.push v))
  refine ⟨ks, e, at_, by omega, ⟨(st.trans_all up).same S (.inr new), (S.2 a ne.symm).trans (up _ _ vo), ks.push v, _, get?_update_seq at_ (·.push v), ?_⟩⟩
  rw [List.take_add_one, hd, Array.toList_push]
  exact each_snoc (R := fun u d => RdB n (g.update kS (Obj.mapSeq (·.push v))) u d ∧ alike d d = true) ⟨r.grown _ al at_ hn, al⟩ (ea.mono fun u d' q => ⟨(q.1.keep up).grown _ q.2 at_ hn, q.2⟩)
section
variable {prog : Program} {w : World} {A : Around} {E : Value → Shared → Prop} {s : Shared} {a kS n e1 m : Nat} {vs : List Value} {P : PySem.Fin → Shared → Prop} {kz : List PyData} {f : Value}
end
section
variable {prog : Program} {w : World} {A : Around} {E : Value → Shared → Prop} {s : Shared} {β : Type} {vs : List Value} {bs : List β} {R : Value → β → Prop} {l : Addr} {f : Value} {kw : List (Str × Value)} {Q : Value → Shared → Prop}
end
section
variable {prog : Program} {w : World} {A : Around} {E : Value → Shared → Prop} {s : Shared}
end
section
variable {X : Cx} {e : Expr} {te : TE}
def tSortLL (K : PySem.W.Frag) (P : Addr) (te : TE) : TE := fun σ H Q => te σ H fun v H1 => ∃ (F : Hp) (a : Addr) (vs : List V) (xs : List (List Int)), v = .ref a ∧ Sub F H1 ∧ SqL K H1 a vs ∧ RepL K F vs (xs.map encLI) ∧ xs.length ≤ big ∧ F P = none ∧ NdefX.TabN H1 P nmQ ∧
  ∀ H2 D ys, ExH H1 H2 → Sub F H2 → H2 D = none → RepL K F ys ((xs.mergeSort leLL).map encLI) → Q (.ref D) (upd H2 D (.lst ys))
end
section
variable {I : Type} {X : I → Cx} {K : PySem.W.Frag} {G : Env}
end
end Vs

/-! own lists of own things: append of an own thing, clear. -/
namespace Vs
open PySem PySem.Spec L2
section
variable {X : Cx} {K : PySem.W.Frag} {W : WX} {sv : Sv} {G : Env} {rest : List Stmt} {o : Out} {pos : Pos}
end
theorem RepCL.at_ {K : PySem.W.Frag} {F H : Hp} : ∀ {fp : List Addr} {vs : List V} {cs : List Cell}, RepCL K F H fp vs cs → ∀ {m : Nat} {c : Cell}, cs[m]? = some c → ∃ v fq, vs[m]? = some v ∧ RepC K F H fq v c
  | _, _, _, .nil, m, c, h => by simp at h
  | _, _, _, .cons (v := v) r rs _, 0, c, h => by
    obtain rfl : _ = c := by simpa using h
    exact ⟨v, _, rfl, r⟩
  | _, _, _, .cons r rs _, m + 1, c, h => by
    obtain ⟨v, fq, h1, h2⟩ := rs.at_ (m := m) (by simpa using h)
    exact ⟨v, fq, by simpa using h1, h2⟩
section
variable {X : Cx} {K : PySem.W.Frag} {W : WX} {sv : Sv} {G : Env} {rest : List Stmt} {o : Out} {pos : Pos} {A : Type}
/-- the rows of which the first i have grown -/
def rowsG (fs : A → List Cell) (ds : A → List Dt) (d : Dt) (k : Nat) (xs : List A) (i : Nat) : List Cell := (xs.take i).map (fun y => Cell.tc ((fs y).set k (.ol (ds y ++ [d])))) ++ (xs.drop i).map fun y => Cell.tc (fs y)
end
/-! ### rows: an own list whose items are own tuples -/
section
variable {X : Cx} {K : PySem.W.Frag} {W : WX} {sv : Sv} {G : Env} {rest : List Stmt} {o : Out} {pos : Pos} {A : Type}
end
end Vs

/-! Answers of two shapes; displays of own things unpacked into names; own things put into an answered display. -/
namespace Vs
open PySem PySem.Spec L2

section
variable {K : PySem.W.Frag} {G G' G'' : Env}
/-- g puts what v holds (c, at fp) into the names js -/
def BdC (K : PySem.W.Frag) (g : TG) (js : List Nat) (c : Cell) (G G' : Env) : Prop :=
  ∀ F H σ fps fp v (Q : L2.St → Hp → Prop), EnvOk K F H σ G fps → RepC K F H fp v c → (∀ a ∈ fp, (F a = none ∧ H a ≠ none) ∧ ¬ Owns fps a) →
    (∀ σ' fps', EnvOk K F H σ' G' fps' → (∀ i, i ∉ js → σ'[i]? = σ[i]?) → (∀ a, Owns fps' a → a ∈ fp ∨ Owns fps a) → Q σ' H) → g v σ H Q
def BdLC (K : PySem.W.Frag) (g : TGs) (js : List Nat) (cs : List Cell) (G G' : Env) : Prop :=
  ∀ F H σ fps fp vs (Q : L2.St → Hp → Prop), EnvOk K F H σ G fps → RepCL K F H fp vs cs → (∀ a ∈ fp, (F a = none ∧ H a ≠ none) ∧ ¬ Owns fps a) →
    (∀ σ' fps', EnvOk K F H σ' G' fps' → (∀ i, i ∉ js → σ'[i]? = σ[i]?) → (∀ a, Owns fps' a → a ∈ fp ∨ Owns fps a) → Q σ' H) → g vs σ H Q
end
section
variable {X : Cx} {K : PySem.W.Frag} {W : WX} {sv : Sv} {G : Env} {rest : List Stmt} {o : Out} {pos : Pos}
end

/-! ### what is put into an answered display -/
section
variable {X : Cx} {K : PySem.W.Frag} {W : WX} {sv : Sv} {G : Env} {rest : List Stmt} {o : Out} {pos : Pos}
/-- the expressions give the cells, new ones and those of the names js -/
def EAR (X : Cx) (K : PySem.W.Frag) (G : Env) (es : List Expr) (cs : List Cell) (js : List Nat) : Prop :=
  ∀ F H σ fps (Q : List V → Hp → Prop), EnvOk K F H σ G fps → (∀ F' H' vs fp, Up F H F' H' → RepCL K F' H' fp vs cs → (∀ a ∈ fp, F' a = none ∧ H' a ≠ none ∧ (H a = none ∨ ∃ j ∈ js, a ∈ fps j)) → Q vs H') → wpA (one X) es σ H Q
end
end Vs

/-! Own tuples answered, walked and cleared; pairs of texts in order. -/
namespace Vs
open PySem PySem.Spec L2 PyProof.Rows PySem.W

section
variable {X : Cx} {K : PySem.W.Frag} {W : WX} {sv : Sv} {G : Env} {rest : List Stmt} {o : Out} {pos : Pos}
/-! ### the lists of an own tuple are cleared one by one -/
def clrC : Cell → Cell
  | .ol _ => .ol []
  | c => c
def clrG (cs : List Cell) (i : Nat) : List Cell := (cs.take i).map clrC ++ cs.drop i
end
/-! ### pairs of texts in order -/
def leSS (p q : Str × Str) : Bool := (!leS q.1 p.1) || (decide (p.1 = q.1) && leS p.2 q.2)
end Vs

/-! A def that is handed a lambda last, and raises before it asks it. -/
namespace Vs
open PySem PySem.Spec L2 PyProof.Rows PySem.W

instance (priority := low) {A B : Type} [Inhabited A] : Inhabited (Sum A B) := ⟨.inl default⟩
/-! ### a def's promise over data and one thing of any kind behind them -/
def spRx (K : PySem.W.Frag) (n : Nat) (r : List Dt → Sum Cell Xc → Prop) : Sp := fun vs H Q E => ∃ F us vl ds a, vs = us ++ [vl] ∧ (Sub F H ∧ Tb K F H) ∧ RepL K F us ds ∧ ds.length + 1 = n ∧ r ds a ∧ (match a with
  | .inl c => ∀ F' H' v fp, Up F H F' H' → RepC K F' H' fp v c → (∀ a ∈ fp, H a = none ∧ F' a = none ∧ H' a ≠ none) → Q v H'
  | .inr x => ∀ F' H' d, Up F H F' H' → XRep K F' d x.fs → E (.ref (He.ga K x.cls)) d H')
structure CalleeL (P : Program) (w : World) (K : PySem.W.Frag) (mg : Str → Option Value) (base : Heap) (x : Str) (k n : Nat) (r : List Dt → Sum Cell Xc → Prop) : Prop where
  ex : ∃ f fd ps, FnOk P w K mg base (L2.CX P w) k f fd ps (spRx K n r) ∧ mg x = some (.ref f) ∧ PySem.W.keepIn K (.ref f) = true ∧ Binds K fd ps []
section
variable {P : Program} {w : World} {K : PySem.W.Frag} {mg : Str → Option Value} {base : Heap}
end

/-! ### a lambda as a value -/
def tLam (P : Addr) : TE := fun _ H Q => NdefX.TabN H P nmQ ∧ ∀ v H', ExH H H' → (∀ b o, b ≠ P → H b = some o → H' b = some o) → (∀ b o, H' b = some o → Pt o → H b = some o) → Q v H'
section
variable {X : Cx} {K : PySem.W.Frag} {G : Env} {W : WX} {P : Program} {w : World} {mg : Str → Option Value} {base : Heap}
/-- data, and one thing of any kind behind them -/
def EAX (X : Cx) (K : PySem.W.Frag) (G : Env) (es : List Expr) (ds : List Dt) : Prop :=
  ∀ F H σ fps (Q : List V → Hp → Prop), EnvOk K F H σ G fps → (∀ F' H' us vl, Up F H F' H' → RepL K F' us ds → Q (us ++ [vl]) H') → wpA (one X) es σ H Q
end
/-! ### a clause of four classes -/
section
variable {X : Cx} {K : PySem.W.Frag} {W : WX} {sv : Sv} {G : Env} {rest : List Stmt} {o : Out} {pos : Pos}
end
section
variable {I : Type} {X : I → Cx} {K : PySem.W.Frag} {G : Env} {κ A : Type} [DecidableEq κ] {g : κ → List Key} {kvs : List (κ × A)} {k : κ} (f : A → Dt) (hgi : ∀ a b, g a = g b → a = b) (fk : κ → Dt) (hk : ∀ p F v, Rep K F v (fk p) → ∃ b, v = .ref b ∧ F b = some (.tup ((g p).map kV)) ∧ (g p).all kOk = true)
include hgi hk
end
section
variable {X : Cx} {K : PySem.W.Frag} {W : WX} {sv : Sv} {G : Env} {rest : List Stmt} {o : Out} {pos : Pos}
end
end Vs

/-! Exceptions that were caught and are kept: data. -/
namespace Vs
open PySem PySem.Spec L2
/-- what is asked of a class whose exceptions are kept -/
structure XcK (K : PySem.W.Frag) (C : Str) : Prop where
  xf : XfC K (He.ga K C)
  cl : (PySem.W.clsIn K (He.ga K C)).isSome = true
  ca : PySem.W.findIn K (.ref (He.ga K C)) "__class__" = some (some (.builtin "object.__class__"))
  cn : PySem.W.specialIn K (.builtin "object.__class__") "__get__" = some (some (.builtin "getset_descriptor.__get__"))
  ct : PySem.W.takesIn K (.builtin "object.__class__") = some true
  mr : PySem.W.mroIn K (He.ga K C) (.type "object") = some true
theorem XcF.k {K : PySem.W.Frag} {C f : Str} (Z : XcF K C f) : XcK K C := ⟨Z.xf, Z.cl, Z.ca, Z.cn, Z.ct, Z.mr⟩
def NoF (K : PySem.W.Frag) (C f : Str) : Prop := PySem.W.findIn K (.ref (He.ga K C)) f = some none
theorem XcF.nof {K : PySem.W.Frag} {C f : Str} (Z : XcF K C f) : NoF K C f := Z.no
def IsN (K : PySem.W.Frag) (T : String) (D : Str) : Prop := PySem.W.kitOne K (.type T) (.ref (He.ga K D)) = some false
section
variable {X : Cx} {pins : List (Addr × Obj)} {σ : L2.St} {H : Hp} {s : Shared}
theorem exK_obj (I : Inv X pins σ H s) {a C : Addr} {d : Option Addr} (h : H a = some (exK a C d)) : ∃ oe vs, s.heap.get? a = some oe ∧ Zc (.ref C) d oe ∧ oe.data = .fields vs :=
  (show ObjOk X.prog X.w H s.heap a (.ext fun h => ∃ oe vs, h.get? a = some oe ∧ Zc (.ref C) d oe ∧ oe.data = .fields vs) from I.hok a _ h).1
/-- its dict, if it has one -/
def XDic (H : Hp) (d : Option Addr) (vs : List (Str × V)) : Prop := (vs = [] ∧ d = none) ∨ ∃ dx, d = some dx ∧ H dx = some (.xd vs)
theorem exK_inst (I : Inv X pins σ H s) {a C : Addr} {d : Option Addr} {vs : List (Str × V)} (h : H a = some (exK a C d)) (k : XDic H d vs) : ∃ oe od, PySem.W.InstAt s.heap a oe C od := by
  obtain ⟨oe, ws, e1, e2, e3⟩ := exK_obj I h
  have nc : PySem.W.notCls oe = true := by
    unfold PySem.W.notCls
    rw [e3] <;> rfl
  rcases k with ⟨rfl, rfl⟩ | ⟨dx, rfl, hx⟩
  · exact ⟨oe, none, e1, e2.1, nc, by rw [e2.2]; trivial⟩
  · obtain ⟨mA, hns, hr⟩ := (show ObjOk X.prog X.w H s.heap dx (.xd vs) from I.hok dx _ hx)
    obtain ⟨od, ho, hl⟩ := lookIn_ns hns
    exact ⟨oe, some od, e1, e2.1, nc, by rw [e2.2]; exact ho⟩
/-- e.n of a kept one -/
def tXk (K : PySem.W.Frag) (n : Str) (te : TE) : TE := fun σ H Q => te σ H fun x H1 => ∃ (a C dd : Addr) (vs : List (Str × V)) (v : V), x = .ref a ∧ H1 a = some (exK a C (some dd)) ∧ H1 dd = some (.xd vs) ∧ XfC K C ∧ PySem.W.findIn K (.ref C) n = some none ∧ vs.lookup n = some v ∧ Q v H1
theorem pe_xk {e : Expr} {te : TE} {pos : Pos} {n : Str} (he : PE X e te) (hb : attributeBase e n X.env (eval e X.env) = eval e X.env) : PE X (.Attribute e n pos) (tXk X.K n te) := by
  refine ⟨fun pins s σ H Q I h => attr_of hb (thn (he.run pins s σ H _ I h) fun u s1 hh => ?_)⟩
  obtain ⟨x, H1, I1, rx, a, C, dd, vs, v, ex, hk, hx, T, no, l, q⟩ := hh
  subst ex
  obtain rfl : u = Value.ref a := rx
  obtain ⟨oe, od, J⟩ := exK_inst I1 hk (.inr ⟨dd, rfl, hx⟩)
  obtain ⟨mA, hns, hr⟩ := (show ObjOk X.prog X.w H1 s1.heap dd (.xd vs) from I1.hok dd _ hx)
  obtain ⟨o2, ho, hl⟩ := lookIn_ns hns
  obtain ⟨oe2, ws, e1, e2, e3⟩ := exK_obj I1 hk
  have J : PySem.W.InstAt s1.heap a oe2 C (some o2) := ⟨e1, e2.1, by unfold PySem.W.notCls; rw [e3] <;> rfl, by rw [e2.2]; exact ho⟩
  obtain ⟨w, hw, rw_⟩ := RelO.some_of (v := v) (o := mA n) (by rw [← l]; exact hr n)
  exact HandSPX.exc_get I1.kIn J T.ga T.gg T.exC (PySem.W.findObj_own T.hdC no rfl (by rw [hl, hw])) (handed_of rw_) ⟨v, H1, I1.tok _, rw_, q⟩
def rIsK (K : PySem.W.Frag) : List V → Hp → VK → Prop := fun xs H Q => ∃ (a : Addr) (C : Str) (d : Option Addr) (vs : List (Str × V)) (c : V) (u : Value) (b : Bool), xs = [.ref a, c] ∧ ClsV c u ∧ H a = some (exK a (He.ga K C) d) ∧ XDic H d vs ∧ XcK K C ∧ PySem.W.kitOne K (.ref (He.ga K C)) u = some b ∧ Q (.bl b) H
theorem call_isK : CallR X (.builtin "isinstance") (rIsK X.K) := by
  intro pins s σ H xs us Q I r h
  obtain ⟨a, C, d, vs, c, u, b, rfl, k, hk, hx, Z, e, q⟩ := h
  cases r with
  | cons rx rr =>
    cases rr with
    | cons rt rr =>
      cases rr
      cases rx
      have e2 := k.eq rt
      subst e2
      obtain ⟨oe, od, J⟩ := exK_inst I hk hx
      exact PySem.W.kia_one (PySem.W.kitx_exc Z.cl Z.xf.ga Z.xf.gg Z.xf.exC Z.ca Z.cn Z.ct Z.mr) I.kIn J e (fun z => nomatch z) fun tk => ⟨.bl b, H, I.tok tk, rfl, q⟩
end
def toS : Dt → Str
  | .str s => s
  | _ => default
/-- of what may be None -/
def anyO {A : Type} (b : A → Bool) : Option A → Bool
  | none => false
  | some z => b z
section
variable {I : Type} {X : I → Cx} {K : PySem.W.Frag} {G : Env}
theorem ex_xk {o : Expr} {f C : Str} {fs : List (Str × Dt)} {d : Dt} {pos : Pos} (hK : ∀ j, (X j).K = K) (T : XcK K C) (n : NoF K C f) (ho : EX X K G o (.xc C fs)) (hl : fs.lookup f = some d)
    (hb : ∀ j, attributeBase o f (X j).env (eval o (X j).env) = eval o (X j).env := by intro _; rfl) : EX X K G (.Attribute o f pos) d := fun F H σ fps Q k q =>
  ⟨tXk K f (wpE X o), fun j => hK j ▸ pe_xk (pe_wp j) (hb j), ho F H σ fps _ k fun F1 H1 v u r => by
    cases r with
    | xc h1 h2 r =>
      obtain ⟨w, e, rw_⟩ := repF_get r hl
      rcases h2 with ⟨rfl, rfl⟩ | ⟨dx, rfl, hx⟩
      · cases e
      · exact ⟨_, _, _, _, w, rfl, u.sb.at h1 (by intro k z; cases z) (by intro k z; cases z), u.sb.at hx (by intro k z; cases z) (by intro k z; cases z), T.xf, n, e, q F1 H1 w u rw_⟩⟩
theorem xk_dic {F H : Hp} (s : Sub F H) {d : Option Addr} {vs : List (Str × V)} (h : (vs = [] ∧ d = none) ∨ ∃ dx, d = some dx ∧ F dx = some (.xd vs)) : XDic H d vs :=
  h.imp id fun ⟨dx, e1, e2⟩ => ⟨dx, e1, s.at e2 (by intro k z; cases z) (by intro k z; cases z)⟩
theorem ex_isXc {o : Expr} {C D : Str} {fs : List (Str × Dt)} {b : Bool} {p p2 pos : Pos} (hK : ∀ j, (X j).K = K) (T : XcK K C) (hi : IsF K C D b) (ho : EX X K G o (.xc C fs)) (hg : ∀ j, Gl (X j) "isinstance") (hm : ∀ j, (X j).mg "isinstance" = none)
    (hgD : ∀ j, Gl (X j) D) (hmD : ∀ j, (X j).mg D = some (.ref (He.ga K D))) (hTd : (D == ("__debug__" : Str)) = false := by decide)
    (he : ∀ j, starEach [o, .Name D p2] (X j).env = (false, eval o (X j).env) :: starEach [.Name D p2] (X j).env := by intro _; rfl) (he2 : ∀ j, starEach [.Name D p2] (X j).env = [(false, eval (.Name D p2) (X j).env)] := by intro _; rfl)
    (hpl : ∀ j, (backTo pos (starEach [.Name D p2] (X j).env)).any (·.1) = false := by intro _; rfl) : EX X K G (.Call (.Name "isinstance" p) [o, .Name D p2] [] pos) (.bl b) := fun F H σ fps Q k q =>
  ⟨tCB (rIsK K) (tCons (wpE X o) (tCons (tC (.ref (He.ga K D))) tNil)), fun j => by
      have c : CallR (X j) (.builtin "isinstance") (rIsK K) := hK j ▸ call_isK
      exact pe_callB c (hg j) (hm j) (by decide +kernel) (pa_cons (pe_wp j) (pa_cons (pe_glob (hgD j) (hmD j) rfl hTd) pa_nil (he2 j)) (he j)) (by decide) (by decide) (he j) (hpl j),
    ho F H σ fps _ k fun F1 H1 v u r => by
      cases r with
      | xc h1 h2 r => exact ⟨_, C, _, _, .ref (He.ga K D), _, b, rfl, .own _, u.sb.at h1 (by intro k z; cases z) (by intro k z; cases z), xk_dic u.sb h2, T, hi, q F1 H1 _ u (.bl b)⟩⟩
theorem ex_isXcV {o : Expr} {C T : Str} {n : String} {fs : List (Str × Dt)} {b : Bool} {p p2 pos : Pos} (hK : ∀ j, (X j).K = K) (TC : XcK K C) (hi : IsV K C n b) (ho : EX X K G o (.xc C fs)) (hg : ∀ j, Gl (X j) "isinstance") (hm : ∀ j, (X j).mg "isinstance" = none)
    (hgT : ∀ j, Gl (X j) T) (hmT : ∀ j, (X j).mg T = none) (hvT : bootBuiltins T = some (.type n)) (hTn : T ≠ "__name__" := by decide) (hTd : (T == ("__debug__" : Str)) = false := by decide)
    (he : ∀ j, starEach [o, .Name T p2] (X j).env = (false, eval o (X j).env) :: starEach [.Name T p2] (X j).env := by intro _; rfl) (he2 : ∀ j, starEach [.Name T p2] (X j).env = [(false, eval (.Name T p2) (X j).env)] := by intro _; rfl)
    (hpl : ∀ j, (backTo pos (starEach [.Name T p2] (X j).env)).any (·.1) = false := by intro _; rfl) : EX X K G (.Call (.Name "isinstance" p) [o, .Name T p2] [] pos) (.bl b) := fun F H σ fps Q k q =>
  ⟨tCB (rIsK K) (tCons (wpE X o) (tCons (tC (.ty n)) tNil)), fun j => by
      have c : CallR (X j) (.builtin "isinstance") (rIsK K) := hK j ▸ call_isK
      exact pe_callB c (hg j) (hm j) (by decide +kernel) (pa_cons (pe_wp j) (pa_cons (pe_bltn (hgT j) (hmT j) hvT rfl hTn hTd) pa_nil (he2 j)) (he j)) (by decide) (by decide) (he j) (hpl j),
    ho F H σ fps _ k fun F1 H1 v u r => by
      cases r with
      | xc h1 h2 r => exact ⟨_, C, _, _, .ty n, _, b, rfl, .ty n, u.sb.at h1 (by intro k z; cases z) (by intro k z; cases z), xk_dic u.sb h2, TC, hi, q F1 H1 _ u (.bl b)⟩⟩
theorem EX.toS {e : Expr} {d : Dt} (h : EX X K G e d) (hs : isT_str d = true) : EX X K G e (.str (Vs.toS d)) := by
  cases d <;> first | exact h | cases hs
end
/-! ### how many unlike texts -/
section
variable {X : Cx}
def rLenSet (P : Program) (w : World) : List V → Hp → VK → Prop := fun vs H Q => ∃ (a : Addr) (l : List Str), vs = [V.ref a] ∧ H a = some (TxS P w a l) ∧ l.length ≤ 4000 ∧ Q (.int l.length) H
end
section
variable {I : Type} {X : I → Cx} {K : PySem.W.Frag} {G : Env} {e : Expr} {p p2 pos pos2 : Pos} {xs : List Str}
end
section
variable {X : Cx} {K : PySem.W.Frag} {sv : Sv} {G : Env}
end
end Vs

/-! Exceptions made as data. -/
namespace Vs
open PySem PySem.Spec L2
section
variable {X : Cx} {H H' : Hp} {h h' : Heap} {a : Addr} {o : HO}
theorem un_new {fs ex : List Addr} (k : ∀ b u, h.get? b = some u → h'.get? b = some u) (hp : h.get? a = none) (hn : H a = none) : Un fs ex H (upd H a o) h h' := by
  have up : ∀ b u, H b = some u → upd H a o b = some u := fun b u q => by
    rw [upd_ne (ne_of_none q hn)]
    exact q
  refine ⟨fun b u q _ _ _ => k b u q, fun b u q _ _ _ => ⟨u.slots, k b u q⟩, fun b u q n _ => ?_, fun b u q _ => ⟨u, k b u q⟩, fun b xs q => up b _ q, fun b u v q => up b _ q, fun b ps q => ⟨#[], by rw [up b _ q]; simp⟩⟩
  rw [upd_ne fun z => by
    rw [z, hp] at q
    cases q]
  exact n
theorem hok_new {P : Program} {w : World} (x : HOk P w H h) (k : ∀ b u, h.get? b = some u → h'.get? b = some u) (hn : H a = none) (new : ObjOk P w (upd H a o) h' a o) : HOk P w (upd H a o) h' := by
  intro b u e
  by_cases hb : b = a
  · subst hb
    rw [upd_same] at e
    cases e
    exact new
  · rw [upd_ne hb] at e
    exact (x b u e).stay (fun c v _ q => k c v q) (fun c q => by rw [upd_ne (ne_of_none q hn)]; exact q) fun c xs q => by rw [upd_ne (ne_of_none q hn)]; exact q
/-- an exception that is made and not raised -/
theorem pe_mk {e : Expr} {t : L2.St → Hp → XK → Prop} (he : PMk X e t) : PE X e (fun σ H Q => t σ H fun cls d H1 => ∃ C, cls = .ref C ∧ ∀ a, H1 a = none → Q (.ref a) (upd H1 a (exK a C d))) := by
  refine ⟨fun pins s σ H Q I h => wpAny_mono (he pins s σ H _ I h) (fun u s1 hu => ?_) fun _ _ x => x⟩
  obtain ⟨a, oe, vs, sI, H1, cls, d, rfl, J, k, hne, ha, hz, hd, h1, na, os, ag, r, C, rfl, q⟩ := hu
  have new : ObjOk X.prog X.w (upd H1 a (exK a C d)) s1.heap a (exK a C d) := ⟨⟨oe, vs, ha, hz, hd⟩, ⟨oe, ha⟩, fun h1 h2 k q => by
    obtain ⟨o2, vs2, k1, k2, k3⟩ := k
    exact ⟨o2, vs2, q _ k1, k2, k3⟩⟩
  exact ⟨.ref a, _, J.call' (ch := []) os (un_new k hne na) (hok_new J.hok k na new) ag (fun _ z => nomatch z), rfl, q a na⟩
end
section
variable {I : Type} {X : I → Cx} {K : PySem.W.Frag} {G : Env} {P : Program} {w : World} {mg : Str → Option Value} {base : Heap}
theorem xc_heap {H1 : Hp} {a dx C : Addr} {vs : List (Str × V)} (na : H1 a = none) (n2 : dx ≠ a) : upd (del (upd (upd (upd H1 a (exo a C none)) dx (exd dx vs)) a (exo a C (some dx))) a) dx (.xd vs) = upd H1 dx (.xd vs) := by
  funext b
  by_cases hb : b = dx
  · rw [hb, upd_same, upd_same]
  · rw [upd_ne hb, upd_ne hb]
    by_cases hb2 : b = a
    · rw [hb2, del_same, na]
    · rw [del_ne hb2, upd_ne hb2, upd_ne hb, upd_ne hb2]
/-- C(e), as data -/
theorem ex_xnew {C f : Str} {e : Expr} {d : Dt} {p pos' : Pos} (Z : XcF K C f) (J : CalleeX P w K mg base C f) (gC : mg C = some (.ref (He.ga K C))) (hX : Of X P w K mg base) (hr : ∀ j, Room 2 (X j).A) (hg : ∀ j, Gl (X j) C) (ha : EX X K G e d)
    (hdb : (C == ("__debug__" : Str)) = false := by decide) (he : ∀ j, starEach [e] (X j).env = (false, eval e (X j).env) :: starEach [] (X j).env := by intro _; rfl) (hpl : ∀ j, (backTo pos' (starEach [] (X j).env)).any (·.1) = false := by intro _; rfl) :
    EX X K G (.Call (.Name C p) [e] [] pos') (.xc C [(f, d)]) := fun F H σ fps Q E q => by
  obtain ⟨fd, ps, h1, h3⟩ := J.ex
  refine ⟨fun σ H Q => tMkO (He.ga K C) (spI K f) [] (tCons (wpE X e) tNil) σ H fun cls d H1 => ∃ C, cls = .ref C ∧ ∀ a, H1 a = none → Q (.ref a) (upd H1 a (exK a C d)), fun j => ?_, ?_⟩
  · obtain ⟨e1, e2, e3, e4, e5⟩ := hX j
    subst e1 e2 e3 e4 e5
    exact pe_mk (pmk_oex Z.oex Z.ini Z.fn h1 (hr j) h3 .nil passL (hg j) gC (pa_cons (pe_wp j) pa_nil (he j)) hdb (he j) (hpl j))
  · refine ha F H σ fps _ E fun F1 H1 v u r0 => ?_
    refine ⟨(show 1 ≤ 1000 by decide), fun a na => ⟨a, _, v, rfl, Z.oex, Z.no, upd_same, fun dx n1 n2 => ?_⟩⟩
    rw [upd_ne n2] at n1
    refine ⟨rfl, dx, [(f, v)], upd_same, by rw [upd_ne n2, upd_same], n1, ?_⟩
    rw [xc_heap na n2]
    refine ⟨_, rfl, fun b nb => ?_⟩
    have w2 : Up F1 H1 (upd F1 dx (.xd [(f, v)])) (upd H1 dx (.xd [(f, v)])) := Up.lay u.sb n1
    have w3 := Up.lay (o := exK b (He.ga K C) (some dx)) w2.sb nb
    have ne : dx ≠ b := fun z => by
      rw [z, upd_same] at nb
      cases nb
    exact q _ _ _ (u.trans (w2.trans w3)) (.xc upd_same (.inr ⟨dx, rfl, by rw [upd_ne ne, upd_same]⟩) (.cons (r0.mono (w2.trans w3).fr) .nil))
/-- C(), as data -/
theorem ex_xnewN {C f : Str} {p pos' : Pos} (Z : XcF K C f) (J : CalleeXN P w K mg base C) (gC : mg C = some (.ref (He.ga K C))) (hX : Of X P w K mg base) (hr : ∀ j, Room 2 (X j).A) (hg : ∀ j, Gl (X j) C)
    (hdb : (C == ("__debug__" : Str)) = false := by decide) : EX X K G (.Call (.Name C p) [] [] pos') (.xc C []) := fun F H σ fps Q E q => by
  obtain ⟨fd, ps, h1, h3⟩ := J.ex
  refine ⟨fun σ H Q => tMkN (He.ga K C) (spIN K) σ H fun cls d H1 => ∃ C, cls = .ref C ∧ ∀ a, H1 a = none → Q (.ref a) (upd H1 a (exK a C d)), fun j => ?_, ?_⟩
  · obtain ⟨e1, e2, e3, e4, e5⟩ := hX j
    subst e1 e2 e3 e4 e5
    exact pe_mk (pmk_oexN Z.oex Z.ini Z.fn h1 (hr j) h3 passL (hg j) gC hdb)
  · intro a na
    refine ⟨a, _, rfl, Z.oex, upd_same, rfl, upd_same, ?_⟩
    have e : del (upd H a (exo a (He.ga K C) none)) a = H := by
      funext b
      by_cases hb : b = a
      · rw [hb, del_same, na]
      · rw [del_ne hb, upd_ne hb]
    rw [e]
    refine ⟨_, rfl, fun b nb => q _ _ _ (Up.lay (o := exK b (He.ga K C) none) E.sub nb) (.xc upd_same (.inl ⟨rfl, rfl⟩) .nil)⟩
end
end Vs

/-! Going on from some statements: by a list to come, and round by round. -/
namespace Vs
open PySem PySem.Spec L2
inductive Rch (nx : Str → List Str) (S : List Str) : Str → Prop
  | base {q : Str} : q ∈ S → Rch nx S q
  | step {p q : Str} : Rch nx S p → q ∈ nx p → Rch nx S q
theorem hasK_mem {A : Type} (d : List (Str × A)) (k : Str) : hasK d k = true ↔ k ∈ d.map (·.1) := hasK_iff
section
variable {nx : Str → List Str} {S V : List Str}
structure WkI (nx : Str → List Str) (S V : List Str) (B : Nat) (st : List Str × Th) : Prop where
  inV : ∀ p ∈ st.1, p ∈ V ∧ Rch nx S p
  kd : Kd V st.2
  fd : ∀ p, hasK st.2 p = true → Rch nx S p
  cl : ∀ p, hasK st.2 p = true → ∀ q ∈ nx p, hasK st.2 q = true ∨ q ∈ st.1
  me : ∀ q ∈ S, hasK st.2 q = true ∨ q ∈ st.1
  sz : st.1.length + (B + 1) * (V.length - st.2.length) ≤ S.length + (B + 1) * V.length
def wkM (V : List Str) (B : Nat) (st : List Str × Th) : Nat := st.1.length + (B + 1) * (V.length - st.2.length)
theorem WkI.start {B : Nat} (hS : ∀ q ∈ S, q ∈ V) : WkI nx S V B (S, []) := ⟨fun p h => ⟨hS p h, .base h⟩, Kd.nil, fun p h => (by cases h), fun p h => (by cases h), fun q h => .inr h, by show S.length + (B + 1) * (V.length - 0) ≤ _; exact Nat.le_refl _⟩
theorem WkI.new {B : Nat} (hn : ∀ p ∈ V, (nx p).length ≤ B ∧ ∀ q ∈ nx p, q ∈ V) {st : List Str × Th} (h : WkI nx S V B st) {dl W : List Str} {z : Str} (e : st.1 = dl ++ [z]) (hz : hasK st.2 z = false) (hW : ∀ p, p ∈ W ↔ p ∈ dl ∨ p ∈ nx z) (hl : W.length = dl.length + (nx z).length) :
    WkI nx S V B (W, puts st.2 z true) ∧ wkM V B (W, puts st.2 z true) < wkM V B st := by
  have l : st.1.length = dl.length + 1 := by rw [e, List.length_append]; rfl
  obtain ⟨zV, zR⟩ := h.inV z (by rw [e]; simp)
  obtain ⟨nB, nV⟩ := hn z zV
  have kn : z ∉ st.2.map (·.1) := fun y => by rw [(hasK_mem _ _).mpr y] at hz; cases hz
  have k' := h.kd.put (a := true) zV
  have l1 := k'.len
  have l2 : (puts st.2 z true).length = st.2.length + 1 := by
    have := congrArg List.length (puts_fst_out (a := true) kn)
    simpa using this
  have keep : ∀ p, hasK st.2 p = true → hasK (puts st.2 z true) p = true := fun p y => by rw [hasK_puts, y, Bool.or_true]
  have mv : ∀ p, p ∈ st.1 → hasK (puts st.2 z true) p = true ∨ p ∈ W := fun p hp => by
    rw [e] at hp
    rcases List.mem_append.mp hp with y | y
    · exact .inr ((hW p).mpr (.inl y))
    · rw [List.mem_singleton.mp y, hasK_puts]; simp
  have is : ∀ p, hasK (puts st.2 z true) p = true → p = z ∨ hasK st.2 p = true := fun p y => by
    rw [hasK_puts] at y
    rcases Bool.or_eq_true_iff.mp y with y | y
    · exact .inl (by simpa using y)
    · exact .inr y
  have sz := h.sz
  have e3 : V.length - st.2.length = (V.length - (st.2.length + 1)) + 1 := by omega
  have e4 : (B + 1) * (V.length - st.2.length) = (B + 1) * (V.length - (st.2.length + 1)) + (B + 1) := by rw [e3, Nat.mul_succ]
  refine ⟨⟨fun p hp => ?_, k', fun p hp => ?_, fun p hp q hq => ?_, fun q hq => ?_, ?_⟩, ?_⟩
  · rcases (hW p).mp hp with y | y
    · exact h.inV p (by rw [e]; exact List.mem_append_left _ y)
    · exact ⟨nV p y, .step zR y⟩
  · rcases is p hp with y | y
    · rw [y]; exact zR
    · exact h.fd p y
  · rcases is p hp with y | y
    · exact .inr ((hW q).mpr (.inr (y ▸ hq)))
    · rcases h.cl p y q hq with x | x
      · exact .inl (keep q x)
      · exact mv q x
  · rcases h.me q hq with x | x
    · exact .inl (keep q x)
    · exact mv q x
  · show W.length + (B + 1) * (V.length - (puts st.2 z true).length) ≤ _
    rw [l2]; omega
  · show W.length + (B + 1) * (V.length - (puts st.2 z true).length) < st.1.length + (B + 1) * (V.length - st.2.length)
    rw [l2]; omega
/-! ### round by round -/
structure RdI (nx : Str → List Str) (S V : List Str) (st : List Str × List Str) : Prop where
  nd : st.2.Nodup
  so : st.2.Pairwise fun a b => leS a b = true
  inV : ∀ p ∈ st.2, p ∈ V
  rc : ∀ p ∈ st.2, Rch nx S p
  me : ∀ q ∈ S, q ∈ st.2
  cl : ∀ p ∈ st.1, ∀ q ∈ nx p, q ∈ st.2
open Classical in
noncomputable def rdM (V : List Str) (st : List Str × List Str) : Nat := 2 * (V.length - st.2.length) + (if st.1 = st.2 then 0 else 1)
theorem setT_perm {xs : List Str} {ys : List Str} (hn : ys.Nodup) (h : ∀ q, q ∈ ys ↔ q ∈ xs) : (setT xs).Perm ys :=
  (List.perm_ext_iff_of_nodup (setT_nodup xs) hn).mpr fun q => by rw [mem_setT, h q]
theorem mem_sortSet {xs : List Str} {q : Str} : q ∈ sortT (setT xs) ↔ q ∈ xs := by rw [(sortT_perm _).mem_iff, mem_setT]
theorem nd_sortSet (xs : List Str) : (sortT (setT xs)).Nodup := (sortT_perm _).symm.nodup (setT_nodup xs)
theorem sortSet_same {a b : List Str} (ha : a.Nodup) (hs : a.Pairwise fun x y => leS x y = true) (h : ∀ q, q ∈ b ↔ q ∈ a) : sortT (setT b) = a := by
  have p : a.Perm (setT b) := (setT_perm ha fun q => (h q).symm).symm
  exact (sortT_uniq p hs).symm
theorem RdI.start (hS : ∀ q ∈ S, q ∈ V) : RdI nx S V ([], sortT (setT S)) :=
  ⟨nd_sortSet S, sortT_pair _, fun p h => hS p (mem_sortSet.mp h), fun p h => .base (mem_sortSet.mp h), fun q h => mem_sortSet.mpr h, fun p h => by cases h⟩
theorem RdI.step (hn : ∀ p ∈ V, ∀ q ∈ nx p, q ∈ V) {st : List Str × List Str} (h : RdI nx S V st) (ne : st.1 ≠ st.2) {X : List Str} (hX : ∀ q, q ∈ X ↔ ∃ p ∈ st.2, q ∈ nx p) :
    RdI nx S V (st.2, sortT (setT (st.2 ++ X))) ∧ rdM V (st.2, sortT (setT (st.2 ++ X))) < rdM V st := by
  have mem : ∀ q, q ∈ sortT (setT (st.2 ++ X)) ↔ q ∈ st.2 ∨ ∃ p ∈ st.2, q ∈ nx p := fun q => by rw [mem_sortSet, List.mem_append, hX]
  have inV : ∀ p ∈ sortT (setT (st.2 ++ X)), p ∈ V := fun p hp => by
    rcases (mem p).mp hp with y | ⟨z, hz, y⟩
    · exact h.inV p y
    · exact hn z (h.inV z hz) p y
  refine ⟨⟨nd_sortSet _, sortT_pair _, inV, fun p hp => ?_, fun q hq => (mem q).mpr (.inl (h.me q hq)), fun p hp q hq => (mem q).mpr (.inr ⟨p, hp, hq⟩)⟩, ?_⟩
  · rcases (mem p).mp hp with y | ⟨z, hz, y⟩
    · exact h.rc p y
    · exact .step (h.rc z hz) y
  · have l1 : (sortT (setT (st.2 ++ X))).length ≤ V.length := nodup_len (nd_sortSet _) inV
    have l2 : st.2.length ≤ (sortT (setT (st.2 ++ X))).length := nodup_len h.nd fun q hq => (mem q).mpr (.inl hq)
    unfold rdM
    rw [if_neg ne]
    by_cases e : st.2 = sortT (setT (st.2 ++ X))
    · show 2 * (V.length - (sortT (setT (st.2 ++ X))).length) + (if st.2 = sortT (setT (st.2 ++ X)) then 0 else 1) < _
      rw [if_pos e]
      have : (sortT (setT (st.2 ++ X))).length = st.2.length := by rw [← e]
      omega
    · show 2 * (V.length - (sortT (setT (st.2 ++ X))).length) + (if st.2 = sortT (setT (st.2 ++ X)) then 0 else 1) < _
      rw [if_neg e]
      have lt : st.2.length < (sortT (setT (st.2 ++ X))).length := by
        rcases Nat.lt_or_ge st.2.length (sortT (setT (st.2 ++ X))).length with y | y
        · exact y
        · exfalso
          have le : st.2.length = (sortT (setT (st.2 ++ X))).length := by omega
          have pm : st.2.Perm (sortT (setT (st.2 ++ X))) := by
            refine (List.perm_ext_iff_of_nodup h.nd (nd_sortSet _)).mpr fun q => ⟨fun y => (mem q).mpr (.inl y), fun y => Classical.byContradiction fun nq => ?_⟩
            have := nodup_len (o := q :: st.2) (List.nodup_cons.mpr ⟨nq, h.nd⟩) (V := sortT (setT (st.2 ++ X))) fun z hz => by
              rcases List.mem_cons.mp hz with x | x
              · rw [x]; exact y
              · exact (mem z).mpr (.inl x)
            rw [List.length_cons] at this
            omega
          exact e (sortSet_same h.nd h.so fun q => by rw [pm.mem_iff, mem_sortSet]).symm
      omega
end
end Vs

/-! What keeps open does not come in; rising lists. -/
namespace Vs
open PySem PySem.Spec L2
/-! ### rising -/
def adjS : List Str → Bool
  | [] => true
  | [_] => true
  | a :: b :: r => ltS a b && adjS (b :: r)
end Vs

/-! shortest ways in a graph of pairs of labels, told twice: by the steps to the end, and by ways that grow from the begin. Program-free. -/
namespace Vs
open PySem PySem.Spec L2
abbrev Pr := List (Str × Str)
/-- a way of so many steps from v to t -/
def wkT (P : Pr) (t : Str) : Nat → Str → Prop
  | 0, v => v = t
  | k + 1, v => ∃ u, (v, u) ∈ P ∧ wkT P t k u
/-- u is reached from s by so many steps -/
def fw (P : Pr) (s : Str) : Nat → Str → Prop
  | 0, u => u = s
  | k + 1, u => ∃ v, fw P s k v ∧ (v, u) ∈ P
/-- so far is v from t -/
def Dst (P : Pr) (t : Str) (d : Nat) (v : Str) : Prop := wkT P t d v ∧ ∀ j, j < d → ¬ wkT P t j v
section
variable {P : Pr} {s t : Str}
theorem dst_zero {v : Str} : Dst P t 0 v ↔ v = t := ⟨fun h => h.1, fun h => ⟨h, fun j z => absurd z (Nat.not_lt_zero j)⟩⟩
theorem fw_wk : ∀ {i j : Nat} {u : Str}, fw P s i u → wkT P t j u → wkT P t (i + j) s
  | 0, j, u, h, hw => by rw [Nat.zero_add]; rw [show u = s from h] at hw; exact hw
  | i + 1, j, u, ⟨v, hv, hp⟩, hw => by
    have := fw_wk (j := j + 1) hv ⟨u, hp, hw⟩
    rwa [show i + 1 + j = i + (j + 1) by omega]
/-- on a shortest way from s: what lies i steps on is m - i away, if it is that near at all -/
theorem fw_dst {i k m : Nat} {u : Str} (hs : Dst P t m s) (hf : fw P s i u) (hm : m = i + k) (hw : wkT P t k u) : Dst P t k u :=
  ⟨hw, fun j hj hq => hs.2 (i + j) (by omega) (fw_wk hf hq)⟩
/-- the least labels on the way, each one step nearer -/
def GP (P : Pr) (t : Str) : Nat → Str → List Str → Prop
  | 0, _, l => l = []
  | k + 1, c, l => ∃ m l', l = m :: l' ∧ (c, m) ∈ P ∧ Dst P t k m ∧ (∀ u, (c, u) ∈ P → Dst P t k u → leS m u = true) ∧ GP P t k m l'
end
/-! ### the ways that grow, level by level -/
abbrev Ws := List (Str × Bool) × List (List Str)
/-- a label behind a way -/
def addW (st : Ws) (e : List Str × Str) : Ws := cond (hasK st.1 e.2) st (puts st.1 e.2 true, st.2 ++ [e.1 ++ [e.2]])
theorem addW_seen {u : Str} : ∀ {E : List (List Str × Str)} {st : Ws}, hasK (E.foldl addW st).1 u = true ↔ hasK st.1 u = true ∨ u ∈ E.map Prod.snd
  | [], st => by simp
  | e :: E, st => by
    rw [List.foldl_cons, addW_seen, List.map_cons, List.mem_cons]
    unfold addW
    cases h : hasK st.1 e.2 with
    | true =>
      show (hasK st.1 u = true ∨ u ∈ E.map Prod.snd) ↔ (hasK st.1 u = true ∨ u = e.2 ∨ u ∈ E.map Prod.snd)
      constructor
      · rintro (z | z)
        · exact .inl z
        · exact .inr (.inr z)
      · rintro (z | z | z)
        · exact .inl z
        · rw [z]; exact .inl h
        · exact .inr z
    | false =>
      have : hasK (puts st.1 e.2 true) u = true ↔ hasK st.1 u = true ∨ u = e.2 := by
        by_cases z : u = e.2
        · rw [z]; simp [hasK, gets_puts_same]
        · unfold hasK; rw [gets_puts_ne _ z]; simp [z]
      show (hasK (puts st.1 e.2 true) u = true ∨ u ∈ E.map Prod.snd) ↔ _
      rw [this, or_assoc]
theorem addW_ways : ∀ {E : List (List Str × Str)} {st : Ws}, ∃ L, (E.foldl addW st).2 = st.2 ++ L ∧ ∀ w ∈ L, ∃ e ∈ E, w = e.1 ++ [e.2]
  | [], st => ⟨[], by simp, fun w h => by cases h⟩
  | e :: E, st => by
    obtain ⟨L, h1, h2⟩ := addW_ways (E := E) (st := addW st e)
    have h3 : ∃ M, (addW st e).2 = st.2 ++ M ∧ ∀ w ∈ M, w = e.1 ++ [e.2] := by
      unfold addW
      cases hasK st.1 e.2 with
      | true => exact ⟨[], (List.append_nil _).symm, fun w h => by cases h⟩
      | false => exact ⟨[e.1 ++ [e.2]], rfl, fun w h => List.mem_singleton.mp h⟩
    obtain ⟨M, h4, h5⟩ := h3
    refine ⟨M ++ L, by rw [List.foldl_cons, h1, h4, List.append_assoc], fun w hw => ?_⟩
    rcases List.mem_append.mp hw with z | z
    · exact ⟨e, by simp, h5 w z⟩
    · obtain ⟨e', a, b⟩ := h2 w z
      exact ⟨e', List.mem_cons_of_mem _ a, b⟩
theorem addW_new {E1 E2 : List (List Str × Str)} {e : List Str × Str} {st : Ws} (h0 : hasK st.1 e.2 = false) (h1 : e.2 ∉ E1.map Prod.snd) :
    ∃ A B, ((E1 ++ e :: E2).foldl addW st).2 = st.2 ++ A ++ (e.1 ++ [e.2]) :: B ∧ ∀ w ∈ A, ∃ x ∈ E1, w = x.1 ++ [x.2] := by
  rw [List.foldl_append, List.foldl_cons]
  obtain ⟨A, ha, hw⟩ := addW_ways (E := E1) (st := st)
  have hk : hasK (E1.foldl addW st).1 e.2 = false := by
    cases z : hasK (E1.foldl addW st).1 e.2 with
    | false => rfl
    | true =>
      rcases addW_seen.mp z with q | q
      · rw [h0] at q; cases q
      · exact absurd q h1
  obtain ⟨B, hb, _⟩ := addW_ways (E := E2) (st := addW (E1.foldl addW st) e)
  refine ⟨A, B, ?_, hw⟩
  rw [hb]
  have h2 : (addW (E1.foldl addW st) e).2 = (E1.foldl addW st).2 ++ [e.1 ++ [e.2]] := by
    generalize hg : E1.foldl addW st = st1 at hk
    unfold addW
    rw [hk]; rfl
  rw [h2, ha]; simp
/-- sizes -/
structure WSz (U : List Str) (n : Nat) (st : Ws) : Prop where
  kd : Kd U st.1
  len : st.1.length = n + st.2.length
theorem puts_len_new {A : Type} {k : Str} {a : A} : ∀ {d : List (Str × A)}, hasK d k = false → (puts d k a).length = d.length + 1
  | [], _ => rfl
  | p :: r, h => by
    unfold hasK gets at h
    unfold puts
    by_cases z : p.1 = k
    · rw [if_pos z] at h; cases h
    · rw [if_neg z] at h ⊢; rw [List.length_cons, List.length_cons, puts_len_new (d := r) h]
theorem WSz.add {U : List Str} {n : Nat} {st : Ws} (h : WSz U n st) {e : List Str × Str} (he : e.2 ∈ U) : WSz U n (addW st e) := by
  unfold addW
  cases z : hasK st.1 e.2 with
  | true => exact h
  | false =>
    refine ⟨h.kd.put he, ?_⟩
    show (puts st.1 e.2 true).length = n + (st.2 ++ [e.1 ++ [e.2]]).length
    rw [puts_len_new z, List.length_append, h.len]; rfl
theorem WSz.fold {U : List Str} {n : Nat} : ∀ {E : List (List Str × Str)} {st : Ws}, WSz U n st → (∀ e ∈ E, e.2 ∈ U) → WSz U n (E.foldl addW st)
  | [], _, h, _ => h
  | e :: E, st, h, hE => by
    rw [List.foldl_cons]
    exact WSz.fold (E := E) (h.add (hE e (by simp))) fun x hx => hE x (List.mem_cons_of_mem _ hx)
/-- what is known of the ways at a level -/
structure Lvl (P : Pr) (s t : Str) (U : List Str) (due : Option (List Str)) (j : Nat) (st : Ws) : Prop where
  way : ∀ w ∈ st.2, ∃ pre c, w = pre ++ [c] ∧ fw P s j c ∧ w.length = j + 1
  seen : ∀ u, hasK st.1 u = true → ∃ i, i ≤ j ∧ fw P s i u
  kd : Kd U st.1
  many : st.2 ≠ [] → j + 1 ≤ st.1.length
  far : (∀ m, ¬ Dst P t m s) → due = none
  near : ∀ m, Dst P t m s → ∃ k A B pre c l, m = j + k ∧ 0 < k ∧ st.2 = A ++ (pre ++ [c]) :: B ∧ Dst P t k c ∧ GP P t k c l ∧ due = some (pre ++ [c] ++ l) ∧ ∀ w ∈ A, ∀ p x, w = p ++ [x] → ¬ Dst P t k x
/-- all labels behind the ways of a level -/
def lev (sc : Str → List Str) (last : List Str → Str) (ws : List (List Str)) : List (List Str × Str) := ws.flatMap fun w => (sc (last w)).map fun x => (w, x)
theorem first_at {a : Str} : ∀ {xs : List Str}, a ∈ xs → ∃ X Y, xs = X ++ a :: Y ∧ a ∉ X
  | x :: xs, h => by
    by_cases z : a = x
    · exact ⟨[], xs, by rw [z]; rfl, fun h => by cases h⟩
    · obtain ⟨X, Y, e, hx⟩ := first_at ((List.mem_cons.mp h).resolve_left z)
      exact ⟨x :: X, Y, by rw [e]; rfl, fun h => (List.mem_cons.mp h).elim z hx⟩
section
variable {P : Pr} {s t : Str} {U : List Str} {due : Option (List Str)} {j : Nat} {st : Ws}
theorem Lvl.start (hn : s ≠ t) (hs : s ∈ U) (hf : (∀ m, ¬ Dst P t m s) → due = none) (hd : ∀ m, Dst P t m s → ∃ l, GP P t m s l ∧ due = some (s :: l)) : Lvl P s t U due 0 ([(s, true)], [[s]]) where
  way := fun w hw => ⟨[], s, List.mem_singleton.mp hw, rfl, by rw [List.mem_singleton.mp hw]; rfl⟩
  seen := fun u hu => ⟨0, Nat.le_refl 0, by
    have h : hasK [(s, true)] u = true := hu
    unfold hasK gets gets at h
    by_cases z : s = u
    · exact z.symm
    · rw [show ((s, true) : Str × Bool).1 = s from rfl, if_neg z] at h; cases h⟩
  kd := by
    have : Kd U (puts ([] : List (Str × Bool)) s true) := Kd.nil.put hs
    exact this
  many := fun _ => Nat.le_refl 1
  far := hf
  near := fun m hm => by
    obtain ⟨l, h1, h2⟩ := hd m hm
    refine ⟨m, [], [], [], s, l, (Nat.zero_add m).symm, ?_, rfl, hm, h1, h2, fun w hw => by cases hw⟩
    rcases Nat.eq_zero_or_pos m with z | z
    · rw [z] at hm; exact absurd (dst_zero.mp hm) hn
    · exact z
theorem last_uniq {p q : List Str} {x y : Str} (h : p ++ [x] = q ++ [y]) : p = q ∧ x = y := by
  have := List.append_inj' h rfl
  exact ⟨this.1, List.singleton_inj.mp this.2⟩
variable {sc : Str → List Str} {last : List Str → Str}
/-- a level that does not reach the end -/
theorem Lvl.next (h : Lvl P s t U due j st) (hl : ∀ p x, last (p ++ [x]) = x) (hsc : ∀ c x, x ∈ sc c ↔ (c, x) ∈ P) (hso : ∀ c, (sc c).Pairwise fun a b => leS a b = true) (hU : ∀ p ∈ P, p.2 ∈ U)
    (hne : st.2 ≠ []) (hno : ¬ Dst P t (j + 1) s) : Lvl P s t U due (j + 1) ((lev sc last st.2).foldl addW (st.1, [])) ∧ ((lev sc last st.2).foldl addW (st.1, [])).1.length = st.1.length + ((lev sc last st.2).foldl addW (st.1, [])).2.length := by
  have hE : ∀ e ∈ lev sc last st.2, e.1 ∈ st.2 ∧ ∃ pre c, e.1 = pre ++ [c] ∧ (c, e.2) ∈ P ∧ fw P s j c ∧ e.1.length = j + 1 := fun e he => by
    obtain ⟨w, hw, hx⟩ := List.mem_flatMap.mp he
    obtain ⟨x, hx1, hx2⟩ := List.mem_map.mp hx
    obtain ⟨pre, c, e1, hf, e2⟩ := h.way w hw
    rw [← hx2]
    refine ⟨hw, pre, c, e1, ?_, hf, e2⟩
    rw [e1, hl] at hx1
    exact (hsc c x).mp hx1
  have hz := WSz.fold (U := U) (n := st.1.length) (E := lev sc last st.2) (st := (st.1, [])) ⟨h.kd, rfl⟩ (fun e he => by obtain ⟨_, _, _, _, hp, _⟩ := hE e he; exact hU _ hp)
  obtain ⟨L, hL1, hL2⟩ := addW_ways (E := lev sc last st.2) (st := (st.1, []))
  rw [List.nil_append] at hL1
  refine ⟨⟨fun w hw => ?_, fun u hu => ?_, hz.kd, fun hn => ?_, h.far, fun m hm => ?_⟩, hz.len⟩
  · rw [hL1] at hw
    obtain ⟨e, he, e1⟩ := hL2 w hw
    obtain ⟨_, pre, c, e2, hp, hf, e3⟩ := hE e he
    exact ⟨e.1, e.2, e1, ⟨c, hf, hp⟩, by rw [e1, List.length_append, e3]; rfl⟩
  · rcases addW_seen.mp hu with z | z
    · obtain ⟨i, hi, hf⟩ := h.seen u z
      exact ⟨i, by omega, hf⟩
    · obtain ⟨e, he, e1⟩ := List.mem_map.mp z
      obtain ⟨_, pre, c, _, hp, hf, _⟩ := hE e he
      rw [← e1]
      exact ⟨j + 1, Nat.le_refl _, c, hf, hp⟩
  · have := h.many hne
    have h2 := hz.len
    have h3 : 0 < ((lev sc last st.2).foldl addW (st.1, [])).2.length := List.length_pos_iff.mpr hn
    omega
  · obtain ⟨k, A, B, pre, c, l, e1, h0, e2, hd, hg, hdue, hA⟩ := h.near m hm
    obtain ⟨k', rfl⟩ : ∃ k', k = k' + 2 := ⟨k - 2, by
      rcases Nat.lt_or_ge k 2 with z | z
      · exact absurd (show Dst P t (j + 1) s by rw [show j + 1 = m by omega]; exact hm) hno
      · omega⟩
    have hg0 : pre ++ [c] ∈ st.2 := by rw [e2]; simp
    obtain ⟨mm, l', el, hp, hdm, hmin, hgl⟩ := hg
    -- the least one behind g, where it stands first
    have hmem : mm ∈ sc c := (hsc c mm).mpr hp
    obtain ⟨X, Y, eXY, hX⟩ := first_at hmem
    have hE1 : ∀ e ∈ lev sc last A ++ X.map (fun x => (pre ++ [c], x)), ¬ Dst P t (k' + 1) e.2 := fun e he hde => by
      rcases List.mem_append.mp he with z | z
      · obtain ⟨w, hw, hx⟩ := List.mem_flatMap.mp z
        obtain ⟨x, hx1, hx2⟩ := List.mem_map.mp hx
        have hwi : w ∈ st.2 := by rw [e2]; exact List.mem_append_left _ hw
        obtain ⟨p, c', e3, hf, _⟩ := h.way w hwi
        rw [e3, hl] at hx1
        rw [← hx2] at hde
        exact hA w hw p c' e3 (fw_dst hm hf e1 ⟨x, (hsc c' x).mp hx1, hde.1⟩)
      · obtain ⟨x, hx1, hx2⟩ := List.mem_map.mp z
        rw [← hx2] at hde
        have hpx : (c, x) ∈ P := (hsc c x).mp (by rw [eXY]; exact List.mem_append_left _ hx1)
        have h1 := hmin x hpx hde
        have h2 : leS x mm = true := by
          have := hso c
          rw [eXY] at this
          exact (List.pairwise_append.mp this).2.2 x hx1 mm (by simp)
        exact hX ((leS_anti h2 h1) ▸ hx1)
    have h0' : hasK st.1 mm = false := by
      cases z : hasK st.1 mm with
      | false => rfl
      | true =>
        obtain ⟨i, hi, hf⟩ := h.seen mm z
        exact absurd (fw_wk hf hdm.1) (hm.2 _ (by omega))
    have eE : lev sc last st.2 = (lev sc last A ++ X.map (fun x => (pre ++ [c], x))) ++ (pre ++ [c], mm) :: (Y.map (fun x => (pre ++ [c], x)) ++ lev sc last B) := by
      unfold lev
      rw [e2, List.flatMap_append, List.flatMap_cons, hl, eXY]
      simp
    obtain ⟨A', B', e4, hA'⟩ := addW_new (E1 := lev sc last A ++ X.map (fun x => (pre ++ [c], x))) (E2 := Y.map (fun x => (pre ++ [c], x)) ++ lev sc last B) (e := (pre ++ [c], mm)) (st := (st.1, [])) h0' (fun z => by
      obtain ⟨e, he, e5⟩ := List.mem_map.mp z
      exact hE1 e he (e5 ▸ hdm))
    refine ⟨k' + 1, A', B', pre ++ [c], mm, l', by omega, by omega, ?_, hdm, hgl, ?_, fun w hw p x e5 => ?_⟩
    · rw [eE, e4, List.nil_append]
    · rw [hdue, el]; simp
    · obtain ⟨e, he, e6⟩ := hA' w hw
      rw [(last_uniq (e5.symm.trans e6)).2]
      exact hE1 e he
/-- nothing grew: there is none -/
theorem Lvl.stop (h : Lvl P s t U due j st) (he : st.2 = []) : due = none := by
  refine h.far fun m hm => ?_
  obtain ⟨k, A, B, pre, c, l, _, _, e, _⟩ := h.near m hm
  rw [he] at e
  simp at e
end
end Vs

/-! texts cut at signs of two and three letters; rows of a book. Program-free. -/
namespace Vs
open PySem PySem.Spec L2 TL PySem.StrLaws
/-! rows -/
def prem : List Str → Str
  | [] => Str.ofString ""
  | p :: r => Txt.join (Str.ofString ", ") (p :: r) ++ Str.ofString " "
def rowT (w l : Str) (body : List Str) (head : Str) : Str := w ++ Str.ofString " " ++ (l ++ Str.ofString ": " ++ (prem body ++ Str.ofString "-> " ++ head))
end Vs

/-! The sure ones in the order of their rounds are a sure set. -/
namespace Vs
open PySem PySem.Spec L2
/-- each rank has its rule -/
def RkOk (rs : List Ru) (c : Int) (r : Rk) : Prop := ∀ q k, gets r q = some k → k < c ∧ ∃ a ∈ rs, a.1 = true ∧ a.2.1 = q ∧ ∀ p ∈ a.2.2, ∃ j, j < k ∧ gets r p = some j
end Vs

/-! Claims of lesser rounds from which a claim follows; papers by rounds; no program in sight. -/
namespace Vs
open PySem PySem.Spec L2

/-- what the ranks tell of the statements V -/
structure RkV (rs : List Mu) (B : Str × Str → Bool) (F : Str → Bool) (V : List Str) (rk : Str → Str × Int) : Prop where
  nd : V.Nodup
  hb : ∀ x ∈ rs, ∀ p ∈ x.2.2.2, p ∈ V
  some_ : ∀ q ∈ V, ∀ v, gets (it rs B F V (V.length + 1)).2.2 q = some v → rk q = v
  none_ : ∀ q ∈ V, gets (it rs B F V (V.length + 1)).2.2 q = none → (rk q).2 = 0
/-- p is decided by the word w ahead of the round c -/
def soB (rk : Str → Str × Int) (w : Str) (c : Int) (p : Str) : Bool := (decide (0 < (rk p).2) && decide ((rk p).2 < c)) && ((rk p).1 == w)
theorem soB_iff {rk : Str → Str × Int} {w : Str} {c : Int} {p : Str} : soB rk w c p = true ↔ 0 < (rk p).2 ∧ (rk p).2 < c ∧ (rk p).1 = w := by
  unfold soB
  rw [Bool.and_eq_true_iff, Bool.and_eq_true_iff, decide_eq_true_iff, decide_eq_true_iff, beq_iff_eq, and_assoc]
section
variable {rs : List Mu} {B : Str × Str → Bool} {F : Str → Bool} {V : List Str} {rk : Str → Str × Int}
theorem RkV.wd (K : RkV rs B F V rk) {q : Str} (hq : q ∈ V) (hc : 0 < (rk q).2) : ∃ k : Nat, (rk q).2 = (k : Int) + 1 ∧ k < V.length + 1 ∧ gets (it rs B F V (V.length + 1)).2.2 q = some (rk q) ∧ wordA rs B F (it rs B F V k) q = some (rk q).1 ∧ hasK (it rs B F V k).2.2 q = false := by
  cases g : gets (it rs B F V (V.length + 1)).2.2 q with
  | none => have := K.none_ q hq g; omega
  | some v =>
    obtain ⟨w, c⟩ := v
    have e := K.some_ q hq _ g
    obtain ⟨k, k1, k2, k3, k4, k5⟩ := rank_tells rs B F K.nd _ q w c g
    rw [e]
    exact ⟨k, k1, k2, rfl, k4, k5⟩
theorem RkV.word (K : RkV rs B F V rk) {q : Str} (hq : q ∈ V) (hc : 0 < (rk q).2) : (rk q).1 = wH ∨ (rk q).1 = wR := by
  obtain ⟨k, _, _, _, h, _⟩ := K.wd hq hc
  exact word_is h
theorem RkV.so (K : RkV rs B F V rk) {k : Nat} (hk : k < V.length + 1) {p : Str} (hp : p ∈ V) (w : Str) : (∃ c, gets (it rs B F V k).2.2 p = some (w, c)) ↔ soB rk w ((k : Int) + 1) p = true := by
  rw [soB_iff]
  constructor
  · rintro ⟨c, g⟩
    have g2 := rank_stays rs B F V g (V.length + 1 - k)
    rw [Nat.add_sub_cancel' (by omega)] at g2
    have e := K.some_ p hp _ g2
    obtain ⟨j, j1, j2, _⟩ := rank_tells rs B F K.nd _ p w c g
    rw [e]
    refine ⟨?_, ?_, rfl⟩ <;> show _ < _ <;> simp only <;> omega
  · rintro ⟨h0, h1, h2⟩
    obtain ⟨j, j1, j2, j3, j4, j5⟩ := K.wd hp h0
    have s := it_step rs B F K.nd j p
    rw [hasK_none j5, if_pos hp, j4] at s
    have s : gets (it rs B F V (j + 1)).2.2 p = some ((rk p).1, (j : Int) + 1) := s
    have s2 := rank_stays rs B F V s (k - (j + 1))
    rw [Nat.add_sub_cancel' (by omega), h2] at s2
    exact ⟨_, s2⟩
/-- ahead of its round -/
theorem RkV.early (K : RkV rs B F V rk) {q : Str} (hq : q ∈ V) (hc : 0 < (rk q).2) : ∃ k : Nat, wordA rs B F (it rs B F V k) q = some (rk q).1 ∧
    ∀ p ∈ V, hasK (it rs B F V k).1 p = soB rk wH (rk q).2 p ∧ hasK (it rs B F V k).2.1 p = soB rk wR (rk q).2 p := by
  obtain ⟨k, k1, k2, _, k4, _⟩ := K.wd hq hc
  refine ⟨k, k4, fun p hp => ⟨Bool.eq_iff_iff.mpr ?_, Bool.eq_iff_iff.mpr ?_⟩⟩
  · rw [k1, (it_ud rs B F K.nd k).u p]; exact K.so k2 hp wH
  · rw [k1, (it_ud rs B F K.nd k).d p]; exact K.so k2 hp wR
end

/-! ### the claims -/
section
variable (rk : Str → Str × Int) (B : Str × Str → Bool) (c : Int)
def stR (x : Mu) : Bool := x.2.2.2.all (soB rk wH c)
def faR (x : Mu) : Option Str := x.2.2.2.find? (soB rk wR c)
def forC (x : Mu) : List (Str × Str) := x.2.2.2.map fun p => (wH, p)
def agR (sp : List Mu) (x : Mu) : List (Str × Str) := match faR rk c x with
  | some p => [(wR, p)]
  | none => match sp.find? fun y => B (y.2.1, x.2.1) && stR rk c y with
    | some y => forC y
    | none => []
def heldR (sp ag : List Mu) : List (Str × Str) := (match sp.find? (stR rk c) with
  | some x => forC x
  | none => []) ++ ag.flatMap (agR rk B c sp)
def allO (l : List Mu) : Option (List (Str × Str)) := if l.all fun y => (faR rk c y).isSome then some (l.filterMap fun y => (faR rk c y).map fun p => (wR, p)) else none
def refG (sp : List Mu) : List Mu → List (Str × Str)
  | [] => []
  | x :: ag => if stR rk c x then (match allO rk c (sp.filter fun y => B (y.2.1, x.2.1)) with
    | some W => forC x ++ W
    | none => refG sp ag) else refG sp ag
def refR (sp ag : List Mu) : List (Str × Str) := match allO rk c sp with
  | some W => W
  | none => refG rk B c sp ag
end
theorem find_any {A : Type} (p : A → Bool) : ∀ l : List A, (l.find? p).isSome = l.any p
  | [] => rfl
  | a :: l => by
    rw [List.find?_cons, List.any_cons]
    cases p a with
    | true => rfl
    | false => exact find_any p l
def HasC (t : Th × Th) (z : Str × Str) : Prop := (z.1 = wH → hasK t.1 z.2 = true) ∧ (z.1 = wR → hasK t.2 z.2 = true)
/-- claims of lesser rounds, from rules for q or against it, from which q's claim follows -/
structure GoodR (rs : List Mu) (B : Str × Str → Bool) (F : Str → Bool) (rk : Str → Str × Int) (q : Str) (W : List (Str × Str)) : Prop where
  so : ∀ z ∈ W, (z.1 = wH ∨ z.1 = wR) ∧ soB rk z.1 (rk q).2 z.2 = true ∧ ∃ x ∈ rs, (x.2.2.1 = q ∨ x.2.2.1 = oppS q) ∧ z.2 ∈ x.2.2.2
  ok : ∀ t, (∀ z ∈ W, HasC t z) → okC rs B F t ((rk q).1, q) = true
theorem wRH : (wR == wH) = false := by decide +kernel
section
variable {rs : List Mu} {B : Str × Str → Bool} {F : Str → Bool} {V : List Str} {rk : Str → Str × Int}
theorem forR_in {x : Mu} {q : Str} (h : x ∈ forR rs q) : x ∈ rs ∧ x.2.2.1 = q := by
  obtain ⟨h1, h2⟩ := List.mem_filter.mp h
  exact ⟨h1, of_decide_eq_true h2⟩
theorem forC_so {q : Str} {x : Mu} (hx : x ∈ rs) (hh : x.2.2.1 = q ∨ x.2.2.1 = oppS q) (hs : stR rk (rk q).2 x = true) : ∀ z ∈ forC x, (z.1 = wH ∨ z.1 = wR) ∧ soB rk z.1 (rk q).2 z.2 = true ∧ ∃ x ∈ rs, (x.2.2.1 = q ∨ x.2.2.1 = oppS q) ∧ z.2 ∈ x.2.2.2 := fun z hz => by
  obtain ⟨p, hp, rfl⟩ := List.mem_map.mp hz
  exact ⟨.inl rfl, List.all_eq_true.mp hs p hp, x, hx, hh, hp⟩
theorem forC_st {x : Mu} {t : Th × Th} (h : ∀ z ∈ forC x, HasC t z) : stB t.1 x = true :=
  List.all_eq_true.mpr fun p hp => (h (wH, p) (List.mem_map.mpr ⟨p, hp, rfl⟩)).1 rfl
theorem faR_so {q p : Str} {x : Mu} (hx : x ∈ rs) (hh : x.2.2.1 = q ∨ x.2.2.1 = oppS q) (hf : faR rk (rk q).2 x = some p) : ∀ z ∈ [(wR, p)], (z.1 = wH ∨ z.1 = wR) ∧ soB rk z.1 (rk q).2 z.2 = true ∧ ∃ x ∈ rs, (x.2.2.1 = q ∨ x.2.2.1 = oppS q) ∧ z.2 ∈ x.2.2.2 := fun z hz => by
  obtain rfl := List.mem_singleton.mp hz
  exact ⟨.inr rfl, List.find?_some hf, x, hx, hh, List.mem_of_find?_eq_some hf⟩
theorem faR_fa {p : Str} {c : Int} {x : Mu} {t : Th × Th} (hf : faR rk c x = some p) (h : HasC t (wR, p)) : faB t.2 x = true :=
  List.any_eq_true.mpr ⟨p, List.mem_of_find?_eq_some hf, h.2 rfl⟩
theorem RkV.rules (K : RkV rs B F V rk) {c : Int} {s : RS} (hs : ∀ p ∈ V, hasK s.1 p = soB rk wH c p ∧ hasK s.2.1 p = soB rk wR c p) {x : Mu} (hx : x ∈ rs) : stB s.1 x = stR rk c x ∧ faB s.2.1 x = (faR rk c x).isSome := by
  refine ⟨all_cong fun p hp => (hs p (K.hb x hx p hp)).1, ?_⟩
  unfold faB faR
  rw [find_any]
  exact any_cong fun p hp => (hs p (K.hb x hx p hp)).2
theorem held_good (K : RkV rs B F V rk) {q : Str} (hq : q ∈ V) (hc : 0 < (rk q).2) (hr : (rk q).1 = wH) (hF : F q = false) : GoodR rs B F rk q (heldR rk B (rk q).2 ((forR rs q).filter (·.1)) (forR rs (oppS q))) := by
  obtain ⟨k, kw, ks⟩ := K.early hq hc
  rw [hr] at kw
  have ho := word_h kw
  have ru := fun x hx => K.rules (s := it rs B F V k) ks (x := x) hx
  generalize it rs B F V k = s at ho ru
  unfold holdsA at ho
  rw [hF] at ho
  have ho : holdsS rs B F s.2.1 q ((forR rs q).filter fun x => x.1 && stB s.1 x) = true := ho
  have eS : ((forR rs q).filter fun x => x.1 && stB s.1 x) = ((forR rs q).filter (·.1)).filter (stR rk (rk q).2) := by
    rw [List.filter_filter]
    apply List.filter_congr
    intro x hx
    rw [(ru x (forR_in hx).1).1, Bool.and_comm]
  rw [eS] at ho
  have spm : ∀ x ∈ (forR rs q).filter (·.1), x ∈ rs ∧ x.2.2.1 = q ∧ x.1 = true := fun x hx => by
    obtain ⟨h1, h2⟩ := List.mem_filter.mp hx
    exact ⟨(forR_in h1).1, (forR_in h1).2, h2⟩
  have agm : ∀ x ∈ forR rs (oppS q), x ∈ rs ∧ x.2.2.1 = oppS q := fun x hx => forR_in hx
  have spi : ∀ y ∈ (forR rs q).filter (·.1), ∀ t : Th × Th, stB t.1 y = true → y ∈ (forR rs q).filter fun x => x.1 && stB t.1 x := fun y hy t h => by
    obtain ⟨h1, h2⟩ := List.mem_filter.mp hy
    exact List.mem_filter.mpr ⟨h1, by rw [h2, h]; rfl⟩
  generalize (forR rs q).filter (·.1) = sp at ho spm spi eS
  unfold holdsS at ho
  cases c1 : ((sp.filter (stR rk (rk q).2)).isEmpty || F (oppS q)) with
  | true => rw [c1] at ho; cases ho
  | false =>
    rw [c1] at ho
    obtain ⟨n1, n2⟩ := Bool.or_eq_false_iff.mp c1
    have ho : ((forR rs (oppS q)).all fun x => faB s.2.1 x || beB B x (sp.filter (stR rk (rk q).2))) = true := ho
    obtain ⟨x0, hx0⟩ : ∃ x0, sp.find? (stR rk (rk q).2) = some x0 := by
      cases f : sp.find? (stR rk (rk q).2) with
      | some x0 => exact ⟨x0, rfl⟩
      | none =>
        have : sp.filter (stR rk (rk q).2) = [] := List.filter_eq_nil_iff.mpr fun a ha => List.find?_eq_none.mp f a ha
        rw [this] at n1; cases n1
    have x0s := spm x0 (List.mem_of_find?_eq_some hx0)
    have x0t : stR rk (rk q).2 x0 = true := List.find?_some hx0
    have ag : ∀ x ∈ forR rs (oppS q), (∃ p, faR rk (rk q).2 x = some p ∧ agR rk B (rk q).2 sp x = [(wR, p)]) ∨ (∃ y ∈ sp, stR rk (rk q).2 y = true ∧ B (y.2.1, x.2.1) = true ∧ agR rk B (rk q).2 sp x = forC y) := fun x hx => by
      have h := List.all_eq_true.mp ho x hx
      unfold agR
      cases f : faR rk (rk q).2 x with
      | some p => exact .inl ⟨p, rfl, rfl⟩
      | none =>
        rw [(ru x (agm x hx).1).2, f] at h
        have h : beB B x (sp.filter (stR rk (rk q).2)) = true := by simpa using h
        obtain ⟨y, hy, hb⟩ := List.any_eq_true.mp h
        obtain ⟨y1, y2⟩ := List.mem_filter.mp hy
        cases g : sp.find? fun y => B (y.2.1, x.2.1) && stR rk (rk q).2 y with
        | none =>
          have := List.find?_eq_none.mp g y y1
          rw [hb, y2] at this
          exact absurd rfl this
        | some y' =>
          obtain ⟨z1, z2⟩ := Bool.and_eq_true_iff.mp (List.find?_some (p := fun y => B (y.2.1, x.2.1) && stR rk (rk q).2 y) g)
          exact .inr ⟨y', List.mem_of_find?_eq_some g, z2, z1, rfl⟩
    refine ⟨fun z hz => ?_, fun t ht => ?_⟩
    · unfold heldR at hz
      rw [hx0] at hz
      rcases List.mem_append.mp hz with hz | hz
      · exact forC_so x0s.1 (.inl x0s.2.1) x0t z hz
      · obtain ⟨x, hx, hz⟩ := List.mem_flatMap.mp hz
        rcases ag x hx with ⟨p, hp, e⟩ | ⟨y, hy, y2, _, e⟩
        · rw [e] at hz; exact faR_so (agm x hx).1 (.inr (agm x hx).2) hp z hz
        · rw [e] at hz; exact forC_so (spm y hy).1 (.inl (spm y hy).2.1) y2 z hz
    · unfold heldR at ht
      rw [hx0] at ht
      have h0 := forC_st (t := t) fun z hz => ht z (List.mem_append_left _ hz)
      have hag := fun x hx z hz => ht z (List.mem_append_right _ (List.mem_flatMap.mpr ⟨x, hx, hz⟩))
      show cond ((rk q).1 == wH) (holdsA rs B F t.1 t.2 q) _ = true
      rw [hr, beq_self_eq_true]
      show holdsA rs B F t.1 t.2 q = true
      unfold holdsA
      rw [hF]
      show holdsS rs B F t.2 q _ = true
      have m0 := spi x0 (List.mem_of_find?_eq_some hx0) t h0
      have spi' := fun y hy => spi y hy t
      generalize ((forR rs q).filter fun x => x.1 && stB t.1 x) = S at m0 spi'
      unfold holdsS
      have ne : S.isEmpty = false := by
        cases S with
        | nil => cases m0
        | cons _ _ => rfl
      rw [ne, n2]
      show ((forR rs (oppS q)).all fun x => faB t.2 x || beB B x S) = true
      refine List.all_eq_true.mpr fun x hx => ?_
      rcases ag x hx with ⟨p, hp, e⟩ | ⟨y, hy, y2, y3, e⟩
      · rw [faR_fa hp (hag x hx _ (by rw [e]; simp))]; rfl
      · have : beB B x S = true := List.any_eq_true.mpr ⟨y, spi' y hy (forC_st fun z hz => hag x hx z (by rw [e]; exact hz)), y3⟩
        rw [this, Bool.or_true]
theorem sure_good {q : Str} (hr : (rk q).1 = wH) (hF : F q = true) : GoodR rs B F rk q [] :=
  ⟨fun z hz => (nomatch hz), fun t _ => by
    show cond ((rk q).1 == wH) (holdsA rs B F t.1 t.2 q) _ = true
    rw [hr, beq_self_eq_true]
    show holdsA rs B F t.1 t.2 q = true
    unfold holdsA
    rw [hF]; rfl⟩
theorem allO_some {c : Int} {l : List Mu} {W : List (Str × Str)} (h : allO rk c l = some W) : (∀ y ∈ l, ∃ p, faR rk c y = some p ∧ (wR, p) ∈ W) ∧ ∀ z ∈ W, ∃ y ∈ l, ∃ p, faR rk c y = some p ∧ z = (wR, p) := by
  unfold allO at h
  split at h
  · rename_i ha
    cases h
    refine ⟨fun y hy => ?_, fun z hz => ?_⟩
    · obtain ⟨p, hp⟩ := Option.isSome_iff_exists.mp (List.all_eq_true.mp ha y hy)
      exact ⟨p, hp, List.mem_filterMap.mpr ⟨y, hy, by rw [hp]; rfl⟩⟩
    · obtain ⟨y, hy, e⟩ := List.mem_filterMap.mp hz
      cases f : faR rk c y with
      | none => rw [f] at e; cases e
      | some p => rw [f] at e; exact ⟨y, hy, p, f, (Option.some.inj e).symm⟩
  · cases h
theorem allO_none {c : Int} {l : List Mu} (h : allO rk c l = none) : ∃ y ∈ l, faR rk c y = none := by
  unfold allO at h
  split at h
  · cases h
  · rename_i ha
    apply Classical.byContradiction
    intro n
    refine ha (List.all_eq_true.mpr fun y hy => ?_)
    cases f : faR rk c y with
    | none => exact absurd ⟨y, hy, f⟩ n
    | some p => rfl
theorem refG_in {c : Int} {sp : List Mu} : ∀ {ag : List Mu}, (∃ x ∈ ag, stR rk c x = true ∧ ∃ W, allO rk c (sp.filter fun y => B (y.2.1, x.2.1)) = some W) →
    ∃ x ∈ ag, ∃ W, stR rk c x = true ∧ allO rk c (sp.filter fun y => B (y.2.1, x.2.1)) = some W ∧ refG rk B c sp ag = forC x ++ W
  | [], h => by obtain ⟨x, hx, _⟩ := h; cases hx
  | a :: ag, h => by
    unfold refG
    cases sa : stR rk c a with
    | true =>
      rw [if_pos rfl]
      cases e : allO rk c (sp.filter fun y => B (y.2.1, a.2.1)) with
      | some W => exact ⟨a, List.mem_cons_self .., W, sa, e, rfl⟩
      | none =>
        obtain ⟨x, hx, W, h1, h2, h3⟩ := refG_in (ag := ag) (by
          obtain ⟨x, hx, h1, W, h2⟩ := h
          rcases List.mem_cons.mp hx with rfl | hx
          · rw [e] at h2; cases h2
          · exact ⟨x, hx, h1, W, h2⟩)
        exact ⟨x, List.mem_cons_of_mem _ hx, W, h1, h2, h3⟩
    | false =>
      rw [if_neg (by decide)]
      obtain ⟨x, hx, W, h1, h2, h3⟩ := refG_in (ag := ag) (by
        obtain ⟨x, hx, h1, W, h2⟩ := h
        rcases List.mem_cons.mp hx with rfl | hx
        · rw [sa] at h1; cases h1
        · exact ⟨x, hx, h1, W, h2⟩)
      exact ⟨x, List.mem_cons_of_mem _ hx, W, h1, h2, h3⟩
theorem refA_sure {U D : Th} {q : Str} (hF : F q = false) (ho : F (oppS q) = true) : refA rs B F U D q = true := by
  unfold refA
  rw [hF]
  show refS rs B F U q _ = true
  unfold refS
  rw [ho, Bool.or_true]; rfl
theorem ref_good (K : RkV rs B F V rk) {q : Str} (hq : q ∈ V) (hc : 0 < (rk q).2) (hr : (rk q).1 = wR) : GoodR rs B F rk q (cond (F (oppS q)) [] (refR rk B (rk q).2 ((forR rs q).filter (·.1)) (forR rs (oppS q)))) := by
  obtain ⟨k, kw, ks⟩ := K.early hq hc
  rw [hr] at kw
  have ho := word_r kw
  have ru := fun x hx => K.rules (s := it rs B F V k) ks (x := x) hx
  generalize it rs B F V k = s at ho ru
  have hF : F q = false := by
    cases e : F q with
    | false => rfl
    | true => unfold refA at ho; rw [e] at ho; cases ho
  have goal : ∀ t : Th × Th, okC rs B F t ((rk q).1, q) = refA rs B F t.1 t.2 q := fun t => by
    show cond ((rk q).1 == wH) _ (refA rs B F t.1 t.2 q) = _
    rw [hr, wRH]; rfl
  cases hO : F (oppS q) with
  | true => exact ⟨fun z hz => (nomatch hz), fun t _ => by rw [goal]; exact refA_sure hF hO⟩
  | false =>
    show GoodR rs B F rk q (refR rk B (rk q).2 ((forR rs q).filter (·.1)) (forR rs (oppS q)))
    unfold refA at ho
    rw [hF] at ho
    have ho : refS rs B F s.1 q ((forR rs q).filter fun x => x.1 && !faB s.2.1 x) = true := ho
    have eL : ((forR rs q).filter fun x => x.1 && !faB s.2.1 x) = ((forR rs q).filter (·.1)).filter fun x => !(faR rk (rk q).2 x).isSome := by
      rw [List.filter_filter]
      apply List.filter_congr
      intro x hx
      rw [(ru x (forR_in hx).1).2, Bool.and_comm]
    rw [eL] at ho
    have spm : ∀ x ∈ (forR rs q).filter (·.1), x ∈ rs ∧ x.2.2.1 = q := fun x hx => forR_in (List.mem_filter.mp hx).1
    have agm : ∀ x ∈ forR rs (oppS q), x ∈ rs ∧ x.2.2.1 = oppS q := fun x hx => forR_in hx
    have spl : ∀ (t : Th × Th), ∀ y ∈ (forR rs q).filter (fun x => x.1 && !faB t.2 x), y ∈ (forR rs q).filter (·.1) ∧ faB t.2 y = false := fun t y hy => by
      obtain ⟨h1, h2⟩ := List.mem_filter.mp hy
      obtain ⟨h2, h3⟩ := Bool.and_eq_true_iff.mp h2
      exact ⟨List.mem_filter.mpr ⟨h1, h2⟩, by simpa using h3⟩
    generalize (forR rs q).filter (·.1) = sp at ho spm spl eL
    unfold refS at ho
    rw [hO, Bool.or_false] at ho
    have fin : ∀ t : Th × Th, (∀ L, L = (forR rs q).filter (fun x => x.1 && !faB t.2 x) → L.isEmpty = true ∨ ∃ x ∈ forR rs (oppS q), stB t.1 x = true ∧ beB B x L = false) → okC rs B F t ((rk q).1, q) = true := fun t h => by
      rw [goal]
      unfold refA
      rw [hF]
      show refS rs B F t.1 q _ = true
      unfold refS
      rw [hO, Bool.or_false]
      rcases h _ rfl with h | ⟨x, hx, h1, h2⟩
      · rw [h]; rfl
      · cases List.isEmpty ((forR rs q).filter fun x => x.1 && !faB t.2 x) with
        | true => rfl
        | false => exact List.any_eq_true.mpr ⟨x, hx, by rw [h1, h2]; rfl⟩
    unfold refR
    cases a0 : allO rk (rk q).2 sp with
    | some W =>
      obtain ⟨w1, w2⟩ := allO_some a0
      refine ⟨fun z hz => ?_, fun t ht => fin t fun L hL => .inl ?_⟩
      · obtain ⟨y, hy, p, hp, rfl⟩ := w2 z hz
        exact faR_so (spm y hy).1 (.inl (spm y hy).2) hp _ (by simp)
      · cases L with
        | nil => rfl
        | cons y L =>
          have hy := spl t y (by rw [← hL]; simp)
          obtain ⟨p, hp, hw⟩ := w1 y hy.1
          rw [faR_fa hp (ht _ hw)] at hy
          exact absurd hy.2 (by decide)
    | none =>
      obtain ⟨y0, hy0, hn0⟩ := allO_none a0
      have ne : (sp.filter fun x => !(faR rk (rk q).2 x).isSome).isEmpty = false := by
        have m : y0 ∈ sp.filter fun x => !(faR rk (rk q).2 x).isSome := List.mem_filter.mpr ⟨hy0, by rw [hn0]; rfl⟩
        cases e : sp.filter fun x => !(faR rk (rk q).2 x).isSome with
        | nil => rw [e] at m; cases m
        | cons _ _ => rfl
      rw [ne] at ho
      obtain ⟨x, hx, hxx⟩ := List.any_eq_true.mp (show ((forR rs (oppS q)).any fun x => stB s.1 x && !beB B x (sp.filter fun x => !(faR rk (rk q).2 x).isSome)) = true from ho)
      obtain ⟨hs, hb⟩ := Bool.and_eq_true_iff.mp hxx
      have hb : beB B x (sp.filter fun x => !(faR rk (rk q).2 x).isSome) = false := by simpa using hb
      rw [(ru x (agm x hx).1).1] at hs
      have sm : ∃ W, allO rk (rk q).2 (sp.filter fun y => B (y.2.1, x.2.1)) = some W := by
        cases e : allO rk (rk q).2 (sp.filter fun y => B (y.2.1, x.2.1)) with
        | some W => exact ⟨W, rfl⟩
        | none =>
          obtain ⟨y, hy, hn⟩ := allO_none e
          obtain ⟨h1, h2⟩ := List.mem_filter.mp hy
          have : beB B x (sp.filter fun x => !(faR rk (rk q).2 x).isSome) = true := List.any_eq_true.mpr ⟨y, List.mem_filter.mpr ⟨h1, by rw [hn]; rfl⟩, h2⟩
          rw [hb] at this; cases this
      obtain ⟨x', hx', W, s', a', e'⟩ := refG_in (rk := rk) (B := B) (c := (rk q).2) (sp := sp) ⟨x, hx, hs, sm⟩
      show GoodR rs B F rk q (refG rk B (rk q).2 sp (forR rs (oppS q)))
      rw [e']
      obtain ⟨w1, w2⟩ := allO_some a'
      refine ⟨fun z hz => ?_, fun t ht => fin t fun L hL => .inr ⟨x', hx', forC_st fun z hz => ht z (List.mem_append_left _ hz), ?_⟩⟩
      · rcases List.mem_append.mp hz with hz | hz
        · exact forC_so (agm x' hx').1 (.inr (agm x' hx').2) s' z hz
        · obtain ⟨y, hy, p, hp, rfl⟩ := w2 z hz
          have hy := spm y (List.mem_filter.mp hy).1
          exact faR_so hy.1 (.inl hy.2) hp _ (by simp)
      · cases b : beB B x' L with
        | false => rfl
        | true =>
          obtain ⟨y, hy, hb⟩ := List.any_eq_true.mp b
          have hy := spl t y (by rw [← hL]; exact hy)
          obtain ⟨p, hp, hw⟩ := w1 y (List.mem_filter.mpr ⟨hy.1, hb⟩)
          rw [faR_fa hp (ht _ (List.mem_append_right _ hw))] at hy
          exact absurd hy.2 (by decide)
/-- a decided statement's reasons -/
def reasR (rk : Str → Str × Int) (rs : List Mu) (B : Str × Str → Bool) (F : Str → Bool) (q : Str) : List (Str × Str) :=
  cond ((rk q).1 == wH) (cond (F q) [] (heldR rk B (rk q).2 ((forR rs q).filter (·.1)) (forR rs (oppS q)))) (cond (F (oppS q)) [] (refR rk B (rk q).2 ((forR rs q).filter (·.1)) (forR rs (oppS q))))
theorem reas_good (K : RkV rs B F V rk) {q : Str} (hq : q ∈ V) (hc : 0 < (rk q).2) : GoodR rs B F rk q (reasR rk rs B F q) := by
  unfold reasR
  rcases K.word hq hc with h | h
  · rw [h, beq_self_eq_true]
    show GoodR rs B F rk q (cond (F q) [] _)
    cases e : F q with
    | true => exact sure_good h e
    | false => exact held_good K hq hc h e
  · rw [h, wRH]
    exact ref_good K hq hc h

/-! ### rows by rounds -/
theorem passes_of : ∀ {W : List (Str × Str)} {t : Th × Th}, (∀ A z C, W = A ++ z :: C → okC rs B F (A.foldl addC t) z = true) → passes rs B F W t = true
  | [], t, _ => rfl
  | z :: W, t, h => by
    show (okC rs B F t z && passes rs B F W (addC t z)) = true
    rw [show okC rs B F t z = true from h [] z W rfl]
    exact passes_of fun A y C e => h (z :: A) y C (by rw [e]; rfl)
theorem fold_le : ∀ (W : List (Str × Str)) (t : Th × Th), LeT t (W.foldl addC t)
  | [], t => (SameT.refl t).le
  | z :: W, t => ⟨fun p h => (fold_le W (addC t z)).1 p ((add_le t z).1 p h), fun p h => (fold_le W (addC t z)).2 p ((add_le t z).2 p h)⟩
theorem addC_self (t : Th × Th) {z : Str × Str} : HasC (addC t z) z := by
  obtain ⟨h1, h2⟩ := addC_has t z z.2
  refine ⟨fun e => ?_, fun e => ?_⟩
  · rw [h1, e, beq_self_eq_true, decide_eq_true rfl]; rfl
  · rw [h2, e, wRH, decide_eq_true rfl]; rfl
theorem HasC.le {t u : Th × Th} (l : LeT t u) {z : Str × Str} (h : HasC t z) : HasC u z := ⟨fun e => l.1 _ (h.1 e), fun e => l.2 _ (h.2 e)⟩
theorem fold_in : ∀ {W : List (Str × Str)} {t : Th × Th} {z : Str × Str}, z ∈ W → HasC (W.foldl addC t) z
  | y :: W, t, z, h => by
    rcases List.mem_cons.mp h with rfl | h
    · exact (addC_self t).le (fold_le W _)
    · exact fold_in (W := W) (t := addC t y) h
def rowsR (rk : Str → Str × Int) (G : List Str) : List (Str × Str) := ((G.map fun p => ((rk p).2, p)).mergeSort leIS).map fun z => ((rk z.2).1, z.2)
theorem mem_rows {G : List Str} {z : Str × Str} : z ∈ rowsR rk G ↔ z.2 ∈ G ∧ z.1 = (rk z.2).1 := by
  unfold rowsR
  rw [List.mem_map]
  constructor
  · rintro ⟨y, hy, rfl⟩
    obtain ⟨p, hp, rfl⟩ := List.mem_map.mp ((List.mergeSort_perm _ _).mem_iff.mp hy)
    exact ⟨hp, rfl⟩
  · rintro ⟨h1, h2⟩
    exact ⟨((rk z.2).2, z.2), (List.mergeSort_perm _ _).mem_iff.mpr (List.mem_map.mpr ⟨z.2, h1, rfl⟩), by rw [← h2]⟩
theorem map_split {A C : Type} {f : A → C} {l : List A} {X : List C} {z : C} {Y : List C} (h : l.map f = X ++ z :: Y) : ∃ P a Q, l = P ++ a :: Q ∧ X = P.map f ∧ z = f a ∧ Y = Q.map f := by
  obtain ⟨P, R, rfl, hP, hR⟩ := List.map_eq_append_iff.mp h
  obtain ⟨a, Q, rfl, ha, hQ⟩ := List.map_eq_cons_iff.mp hR
  exact ⟨P, a, Q, rfl, hP.symm, ha.symm, hQ.symm⟩
theorem rows_pass {G : List Str} {W : Str → List (Str × Str)} (good : ∀ p ∈ G, GoodR rs B F rk p (W p)) (cl : ∀ p ∈ G, ∀ z ∈ W p, z.2 ∈ G) : passes rs B F (rowsR rk G) ([], []) = true := by
  refine passes_of fun A z C e => ?_
  unfold rowsR at e
  have so := List.pairwise_mergeSort leIS_trans leIS_total (G.map fun p => ((rk p).2, p))
  have mm : ∀ y, y ∈ (G.map fun p => ((rk p).2, p)).mergeSort leIS ↔ y ∈ G.map fun p => ((rk p).2, p) := fun y => (List.mergeSort_perm _ _).mem_iff
  generalize (G.map fun p => ((rk p).2, p)).mergeSort leIS = L at e so mm
  obtain ⟨P, a, Q, rfl, rfl, rfl, rfl⟩ := map_split e
  have ha := (mm a).mp (by simp)
  obtain ⟨p, hp, rfl⟩ := List.mem_map.mp ha
  refine (good p hp).ok _ fun y hy => ?_
  obtain ⟨_, y1, _⟩ := (good p hp).so y hy
  obtain ⟨y1, y2, y3⟩ := soB_iff.mp y1
  have hyG := cl p hp y hy
  have hL := (mm ((rk y.2).2, y.2)).mpr (List.mem_map.mpr ⟨y.2, hyG, rfl⟩)
  have hA : ((rk y.2).2, y.2) ∈ P := by
    rcases List.mem_append.mp hL with h | h
    · exact h
    · rcases List.mem_cons.mp h with h | h
      · have := congrArg Prod.fst h; have this : (rk y.2).2 = (rk p).2 := this; omega
      · have := (List.pairwise_cons.mp (List.pairwise_append.mp so).2.1).1 _ h
        rcases leIS_iff.mp this with h | ⟨h, _⟩
        · have h : (rk p).2 < (rk y.2).2 := h; omega
        · have h : (rk p).2 = (rk y.2).2 := h; omega
  have e : y = ((rk y.2).1, y.2) := by rw [y3]
  rw [e]
  exact fold_in (List.mem_map.mpr ⟨((rk y.2).2, y.2), hA, rfl⟩)
/-! ### what a paper may tell -/
theorem pass_in {U D : Th} (C : ClosedA rs B F V U D) : ∀ (W : List (Str × Str)) {t : Th × Th}, LeT t (U, D) → passes rs B F W t = true → (∀ z ∈ W, (z.1 = wH ∨ z.1 = wR) ∧ z.2 ∈ V) → ∀ z ∈ W, HasC (U, D) z
  | [], t, _, _, _, z, hz => nomatch hz
  | y :: W, t, l, hp, hw, z, hz => by
    obtain ⟨p1, p2⟩ := Bool.and_eq_true_iff.mp (show (okC rs B F t y && passes rs B F W (addC t y)) = true from hp)
    have o := okC_mono (u := (U, D)) l p1
    have hy := hw y (by simp)
    have h : HasC (U, D) y := by
      unfold okC at o
      rcases hy.1 with e | e
      · rw [e, beq_self_eq_true] at o
        exact ⟨fun _ => C.h y.2 hy.2 o, fun e' => absurd (e.symm.trans e') wH_ne⟩
      · rw [e, wRH] at o
        exact ⟨fun e' => absurd (e'.symm.trans e) wH_ne, fun _ => C.r y.2 hy.2 o⟩
    rcases List.mem_cons.mp hz with rfl | hz
    · exact h
    · refine pass_in C W ⟨fun p e => ?_, fun p e => ?_⟩ p2 (fun z hz => hw z (List.mem_cons_of_mem _ hz)) z hz
      · rw [(addC_has t y p).1] at e
        rcases Bool.or_eq_true_iff.mp e with e | e
        · obtain ⟨e1, e2⟩ := Bool.and_eq_true_iff.mp e
          rw [of_decide_eq_true e2]; exact h.1 (eq_of_beq e1)
        · exact l.1 p e
      · rw [(addC_has t y p).2] at e
        rcases Bool.or_eq_true_iff.mp e with e | e
        · obtain ⟨e1, e2⟩ := Bool.and_eq_true_iff.mp e
          rw [of_decide_eq_true e2]
          refine h.2 ?_
          rcases hy.1 with e' | e'
          · rw [e', beq_self_eq_true] at e1; cases e1
          · exact e'
        · exact l.2 p e
/-- what is written with reason came in -/
theorem RkV.paper (K : RkV rs B F V rk) {W : List (Str × Str)} (hp : passes rs B F W ([], []) = true) (hw : ∀ z ∈ W, (z.1 = wH ∨ z.1 = wR) ∧ z.2 ∈ V) : ∀ z ∈ W, 0 < (rk z.2).2 ∧ (rk z.2).1 = z.1 := fun z hz => by
  have h := pass_in (it_closed rs B F K.nd) W (t := ([], [])) ⟨fun p e => (nomatch e), fun p e => (nomatch e)⟩ hp hw z hz
  have ud := it_ud rs B F K.nd (V.length + 1)
  have key : ∀ w, (∃ c, gets (it rs B F V (V.length + 1)).2.2 z.2 = some (w, c)) → 0 < (rk z.2).2 ∧ (rk z.2).1 = w := fun w ⟨c, g⟩ => by
    have e := K.some_ z.2 (hw z hz).2 _ g
    obtain ⟨k, k1, _⟩ := rank_tells rs B F K.nd _ z.2 w c g
    rw [e]
    exact ⟨by show 0 < c; omega, rfl⟩
  rcases (hw z hz).1 with e | e
  · rw [e]; exact key wH ((ud.u z.2).mp (h.1 e))
  · rw [e]; exact key wR ((ud.d z.2).mp (h.2 e))
end
end Vs

/-! What is decided and what is open, by ranks; no program in sight. -/
namespace Vs
open PySem PySem.Spec L2
section
variable {rs : List Mu} {B : Str × Str → Bool} {F : Str → Bool} {V : List Str} {rk : Str → Str × Int}
/-- the last state -/
theorem RkV.fin (K : RkV rs B F V rk) {p : Str} (hp : p ∈ V) : hasK (it rs B F V (V.length + 1)).1 p = (decide (0 < (rk p).2) && ((rk p).1 == wH)) ∧ hasK (it rs B F V (V.length + 1)).2.1 p = (decide (0 < (rk p).2) && ((rk p).1 == wR)) := by
  have ud := it_ud rs B F K.nd (V.length + 1)
  have key : ∀ w, (∃ c, gets (it rs B F V (V.length + 1)).2.2 p = some (w, c)) ↔ (decide (0 < (rk p).2) && ((rk p).1 == w)) = true := fun w => by
    rw [Bool.and_eq_true_iff, decide_eq_true_iff, beq_iff_eq]
    constructor
    · rintro ⟨c, g⟩
      have e := K.some_ p hp _ g
      obtain ⟨k, k1, _⟩ := rank_tells rs B F K.nd _ p w c g
      rw [e]
      exact ⟨by show 0 < c; omega, rfl⟩
    · rintro ⟨h1, h2⟩
      obtain ⟨k, _, _, g, _⟩ := K.wd hp h1
      exact ⟨(rk p).2, by rw [g, ← h2]⟩
  exact ⟨Bool.eq_iff_iff.mpr ((ud.u p).trans (key wH)), Bool.eq_iff_iff.mpr ((ud.d p).trans (key wR))⟩
/-- rules about q alone -/
def nearR (rs : List Mu) (q : Str) : List Mu := rs.filter fun x => decide (x.2.2.1 = q) || decide (x.2.2.1 = oppS q)
section
variable {F' : Str → Bool} {U U' D D' : Th} {q : Str} (hu : ∀ x ∈ rs, x.2.2.1 = q ∨ x.2.2.1 = oppS q → ∀ p ∈ x.2.2.2, hasK U p = hasK U' p) (hd : ∀ x ∈ rs, x.2.2.1 = q ∨ x.2.2.1 = oppS q → ∀ p ∈ x.2.2.2, hasK D p = hasK D' p)
include hu hd
end
/-- rows of decided ones that lean on no others -/
theorem RkV.rows (K : RkV rs B F V rk) {G : List Str} (hG : ∀ p ∈ G, p ∈ V ∧ 0 < (rk p).2) (cl : ∀ p ∈ G, ∀ x ∈ rs, x.2.2.1 = p ∨ x.2.2.1 = oppS p → ∀ y ∈ x.2.2.2, 0 < (rk y).2 → y ∈ G) : passes rs B F (rowsR rk G) ([], []) = true :=
  rows_pass (W := reasR rk rs B F) (fun p hp => reas_good K (hG p hp).1 (hG p hp).2) fun p hp z hz => by
    obtain ⟨_, z2, x, hx, hh, hb⟩ := (reas_good K (hG p hp).1 (hG p hp).2).so z hz
    exact cl p hp x hx hh _ hb (soB_iff.mp z2).1
/-- what comes in by going through all again and again is what is decided -/
theorem RkV.claims (K : RkV rs B F V rk) {E : List Str} (hE : ∀ q, q ∈ V ↔ q ∈ E) {s : GS} (I : GI rs B F E s) (st : ∀ q ∈ E, gS rs B F s q = s) (z : Str × Str) : z ∈ s.2.1 ↔ z.2 ∈ E ∧ 0 < (rk z.2).2 ∧ (rk z.2).1 = z.1 := by
  constructor
  · intro hz
    have h := K.paper I.pas (fun z hz => ⟨(I.wrd z hz).1, (hE _).mpr (I.wrd z hz).2⟩) z hz
    exact ⟨(I.wrd z hz).2, h.1, h.2⟩
  · rintro ⟨h1, h2, h3⟩
    have dm : ∀ p, p ∈ (V.filter fun p => decide (0 < (rk p).2)) ↔ p ∈ V ∧ 0 < (rk p).2 := fun p => by rw [List.mem_filter, decide_eq_true_iff]
    have pas := K.rows (G := V.filter fun p => decide (0 < (rk p).2)) (fun p hp => (dm p).mp hp) (fun p hp x hx _ y hy hr => (dm y).mpr ⟨K.hb x hx y hy, hr⟩)
    refine paper_in I I.gx st _ (t := ([], [])) ⟨fun p e => (nomatch e), fun p e => (nomatch e)⟩ pas (fun y hy => ?_) z (mem_rows.mpr ⟨(dm _).mpr ⟨(hE _).mpr h1, h2⟩, h3.symm⟩)
    obtain ⟨y1, y2⟩ := mem_rows.mp hy
    obtain ⟨y3, y4⟩ := (dm _).mp y1
    exact ⟨by rw [y2]; exact K.word y3 y4, (hE _).mp y3⟩
end
end Vs

set_option maxHeartbeats 4000000
namespace Lw
open PySem PySem.Spec L2 Vs

abbrev e0_scr (z : (List Int)) : Dt := Dt.scr (List.map Dt.int z)
abbrev e1_tup (z : (Str × Str)) : Dt := Dt.tup [(Dt.str z.1), (Dt.str z.2)]
abbrev e2_list (z : (List Dt)) : Dt := Dt.lst (List.map id z)
abbrev e3_list (z : (List Str)) : Dt := Dt.lst (List.map Dt.str z)
abbrev e5_list (z : (List Bool)) : Dt := Dt.lst (List.map Dt.bl z)
inductive Ez where
  | NoStatement (a : Dt)
  | NoRow (a : Dt)
  | NoThing (a : Dt)
  | Doubled (a : Dt)
  | NoLabel (a : Dt)
  | NoFact (a : Dt)
  | NoBeat (a : Dt)
  | StillOpen (a : Dt)
  | Decided (a : Dt)
  | NoStand (a : Dt)
  | TooMany (a : Int)
  | Ring (a : (List Str))
  | NoTurn (a : Unit)
instance : Inhabited Ez := ⟨.NoStatement default⟩
instance {T : Type} : Inhabited (Sum T Ez) := ⟨.inr default⟩
def ezc : Ez → Xc
  | .NoStatement a => ⟨"NoStatement", [("found", a)]⟩
  | .NoRow a => ⟨"NoRow", [("found", a)]⟩
  | .NoThing a => ⟨"NoThing", [("found", a)]⟩
  | .Doubled a => ⟨"Doubled", [("found", a)]⟩
  | .NoLabel a => ⟨"NoLabel", [("found", a)]⟩
  | .NoFact a => ⟨"NoFact", [("found", a)]⟩
  | .NoBeat a => ⟨"NoBeat", [("found", a)]⟩
  | .StillOpen a => ⟨"StillOpen", [("found", a)]⟩
  | .Decided a => ⟨"Decided", [("found", a)]⟩
  | .NoStand a => ⟨"NoStand", [("found", a)]⟩
  | .TooMany a => ⟨"TooMany", [("count", (Dt.int a))]⟩
  | .Ring a => ⟨"Ring", [("chain", (e3_list a))]⟩
  | .NoTurn _ => ⟨"NoTurn", []⟩
abbrev enc_Ez (z : Ez) : Dt := Dt.xc (ezc z).cls (ezc z).fs
def xf_found : Ez → Dt
  | .NoStatement a => a
  | .NoRow a => a
  | .NoThing a => a
  | .Doubled a => a
  | .NoLabel a => a
  | .NoFact a => a
  | .NoBeat a => a
  | .StillOpen a => a
  | .Decided a => a
  | .NoStand a => a
  | .TooMany _ => default
  | .Ring _ => default
  | .NoTurn _ => default
def xh_found : Ez → Bool
  | .NoStatement _ => true
  | .NoRow _ => true
  | .NoThing _ => true
  | .Doubled _ => true
  | .NoLabel _ => true
  | .NoFact _ => true
  | .NoBeat _ => true
  | .StillOpen _ => true
  | .Decided _ => true
  | .NoStand _ => true
  | .TooMany _ => false
  | .Ring _ => false
  | .NoTurn _ => false
theorem xl_found (z : Ez) (h : xh_found z = true) : List.lookup ("found" : Str) (ezc z).fs = some (xf_found z) := by cases z <;> first | rfl | cases h
def xf_count : Ez → Int
  | .NoStatement _ => default
  | .NoRow _ => default
  | .NoThing _ => default
  | .Doubled _ => default
  | .NoLabel _ => default
  | .NoFact _ => default
  | .NoBeat _ => default
  | .StillOpen _ => default
  | .Decided _ => default
  | .NoStand _ => default
  | .TooMany a => a
  | .Ring _ => default
  | .NoTurn _ => default
def xh_count : Ez → Bool
  | .NoStatement _ => false
  | .NoRow _ => false
  | .NoThing _ => false
  | .Doubled _ => false
  | .NoLabel _ => false
  | .NoFact _ => false
  | .NoBeat _ => false
  | .StillOpen _ => false
  | .Decided _ => false
  | .NoStand _ => false
  | .TooMany _ => true
  | .Ring _ => false
  | .NoTurn _ => false
theorem xl_count (z : Ez) (h : xh_count z = true) : List.lookup ("count" : Str) (ezc z).fs = some (Dt.int (xf_count z)) := by cases z <;> first | rfl | cases h
def xf_chain : Ez → (List Str)
  | .NoStatement _ => default
  | .NoRow _ => default
  | .NoThing _ => default
  | .Doubled _ => default
  | .NoLabel _ => default
  | .NoFact _ => default
  | .NoBeat _ => default
  | .StillOpen _ => default
  | .Decided _ => default
  | .NoStand _ => default
  | .TooMany _ => default
  | .Ring a => a
  | .NoTurn _ => default
def xh_chain : Ez → Bool
  | .NoStatement _ => false
  | .NoRow _ => false
  | .NoThing _ => false
  | .Doubled _ => false
  | .NoLabel _ => false
  | .NoFact _ => false
  | .NoBeat _ => false
  | .StillOpen _ => false
  | .Decided _ => false
  | .NoStand _ => false
  | .TooMany _ => false
  | .Ring _ => true
  | .NoTurn _ => false
theorem xl_chain (z : Ez) (h : xh_chain z = true) : List.lookup ("chain" : Str) (ezc z).fs = some (e3_list (xf_chain z)) := by cases z <;> first | rfl | cases h
def ib_Ez_Decided : Ez → Bool
  | .NoStatement _ => false
  | .NoRow _ => false
  | .NoThing _ => false
  | .Doubled _ => false
  | .NoLabel _ => false
  | .NoFact _ => false
  | .NoBeat _ => false
  | .StillOpen _ => false
  | .Decided _ => true
  | .NoStand _ => false
  | .TooMany _ => false
  | .Ring _ => false
  | .NoTurn _ => false
def ib_Ez_Doubled : Ez → Bool
  | .NoStatement _ => false
  | .NoRow _ => false
  | .NoThing _ => false
  | .Doubled _ => true
  | .NoLabel _ => false
  | .NoFact _ => false
  | .NoBeat _ => false
  | .StillOpen _ => false
  | .Decided _ => false
  | .NoStand _ => false
  | .TooMany _ => false
  | .Ring _ => false
  | .NoTurn _ => false
def ib_Ez_MostError : Ez → Bool
  | .NoStatement _ => true
  | .NoRow _ => true
  | .NoThing _ => true
  | .Doubled _ => true
  | .NoLabel _ => true
  | .NoFact _ => true
  | .NoBeat _ => true
  | .StillOpen _ => true
  | .Decided _ => true
  | .NoStand _ => true
  | .TooMany _ => true
  | .Ring _ => true
  | .NoTurn _ => true
def ib_Ez_NoBeat : Ez → Bool
  | .NoStatement _ => false
  | .NoRow _ => false
  | .NoThing _ => false
  | .Doubled _ => false
  | .NoLabel _ => false
  | .NoFact _ => false
  | .NoBeat _ => true
  | .StillOpen _ => false
  | .Decided _ => false
  | .NoStand _ => false
  | .TooMany _ => false
  | .Ring _ => false
  | .NoTurn _ => false
def ib_Ez_NoFact : Ez → Bool
  | .NoStatement _ => false
  | .NoRow _ => false
  | .NoThing _ => false
  | .Doubled _ => false
  | .NoLabel _ => false
  | .NoFact _ => true
  | .NoBeat _ => false
  | .StillOpen _ => false
  | .Decided _ => false
  | .NoStand _ => false
  | .TooMany _ => false
  | .Ring _ => false
  | .NoTurn _ => false
def ib_Ez_NoLabel : Ez → Bool
  | .NoStatement _ => false
  | .NoRow _ => false
  | .NoThing _ => false
  | .Doubled _ => false
  | .NoLabel _ => true
  | .NoFact _ => false
  | .NoBeat _ => false
  | .StillOpen _ => false
  | .Decided _ => false
  | .NoStand _ => false
  | .TooMany _ => false
  | .Ring _ => false
  | .NoTurn _ => false
def ib_Ez_NoRow : Ez → Bool
  | .NoStatement _ => false
  | .NoRow _ => true
  | .NoThing _ => false
  | .Doubled _ => false
  | .NoLabel _ => false
  | .NoFact _ => false
  | .NoBeat _ => false
  | .StillOpen _ => false
  | .Decided _ => false
  | .NoStand _ => false
  | .TooMany _ => false
  | .Ring _ => false
  | .NoTurn _ => false
def ib_Ez_NoStand : Ez → Bool
  | .NoStatement _ => false
  | .NoRow _ => false
  | .NoThing _ => false
  | .Doubled _ => false
  | .NoLabel _ => false
  | .NoFact _ => false
  | .NoBeat _ => false
  | .StillOpen _ => false
  | .Decided _ => false
  | .NoStand _ => true
  | .TooMany _ => false
  | .Ring _ => false
  | .NoTurn _ => false
def ib_Ez_NoStatement : Ez → Bool
  | .NoStatement _ => true
  | .NoRow _ => false
  | .NoThing _ => false
  | .Doubled _ => false
  | .NoLabel _ => false
  | .NoFact _ => false
  | .NoBeat _ => false
  | .StillOpen _ => false
  | .Decided _ => false
  | .NoStand _ => false
  | .TooMany _ => false
  | .Ring _ => false
  | .NoTurn _ => false
def ib_Ez_NoThing : Ez → Bool
  | .NoStatement _ => false
  | .NoRow _ => false
  | .NoThing _ => true
  | .Doubled _ => false
  | .NoLabel _ => false
  | .NoFact _ => false
  | .NoBeat _ => false
  | .StillOpen _ => false
  | .Decided _ => false
  | .NoStand _ => false
  | .TooMany _ => false
  | .Ring _ => false
  | .NoTurn _ => false
def ib_Ez_NoTurn : Ez → Bool
  | .NoStatement _ => false
  | .NoRow _ => false
  | .NoThing _ => false
  | .Doubled _ => false
  | .NoLabel _ => false
  | .NoFact _ => false
  | .NoBeat _ => false
  | .StillOpen _ => false
  | .Decided _ => false
  | .NoStand _ => false
  | .TooMany _ => false
  | .Ring _ => false
  | .NoTurn _ => true
def ib_Ez_Ring : Ez → Bool
  | .NoStatement _ => false
  | .NoRow _ => false
  | .NoThing _ => false
  | .Doubled _ => false
  | .NoLabel _ => false
  | .NoFact _ => false
  | .NoBeat _ => false
  | .StillOpen _ => false
  | .Decided _ => false
  | .NoStand _ => false
  | .TooMany _ => false
  | .Ring _ => true
  | .NoTurn _ => false
def ib_Ez_StillOpen : Ez → Bool
  | .NoStatement _ => false
  | .NoRow _ => false
  | .NoThing _ => false
  | .Doubled _ => false
  | .NoLabel _ => false
  | .NoFact _ => false
  | .NoBeat _ => false
  | .StillOpen _ => true
  | .Decided _ => false
  | .NoStand _ => false
  | .TooMany _ => false
  | .Ring _ => false
  | .NoTurn _ => false
def ib_Ez_TooMany : Ez → Bool
  | .NoStatement _ => false
  | .NoRow _ => false
  | .NoThing _ => false
  | .Doubled _ => false
  | .NoLabel _ => false
  | .NoFact _ => false
  | .NoBeat _ => false
  | .StillOpen _ => false
  | .Decided _ => false
  | .NoStand _ => false
  | .TooMany _ => true
  | .Ring _ => false
  | .NoTurn _ => false
def ib_Ez_ValueError : Ez → Bool
  | .NoStatement _ => true
  | .NoRow _ => true
  | .NoThing _ => true
  | .Doubled _ => true
  | .NoLabel _ => true
  | .NoFact _ => true
  | .NoBeat _ => true
  | .StillOpen _ => true
  | .Decided _ => true
  | .NoStand _ => true
  | .TooMany _ => true
  | .Ring _ => true
  | .NoTurn _ => true
abbrev e4_list (z : (List Ez)) : Dt := Dt.lst (List.map enc_Ez z)
structure Txt (K : PySem.W.Frag) (mg : Str → Option Value) : Prop where
  n_ValueError : mg "ValueError" = none
  n_enumerate : mg "enumerate" = none
  n_isinstance : mg "isinstance" = none
  n_len : mg "len" = none
  n_range : mg "range" = none
  bvi_MostError : BviF K "MostError"
  gc_Decided : mg "Decided" = some (.ref (He.ga K "Decided"))
  gc_Doubled : mg "Doubled" = some (.ref (He.ga K "Doubled"))
  gc_MostError : mg "MostError" = some (.ref (He.ga K "MostError"))
  gc_NoBeat : mg "NoBeat" = some (.ref (He.ga K "NoBeat"))
  gc_NoFact : mg "NoFact" = some (.ref (He.ga K "NoFact"))
  gc_NoLabel : mg "NoLabel" = some (.ref (He.ga K "NoLabel"))
  gc_NoRow : mg "NoRow" = some (.ref (He.ga K "NoRow"))
  gc_NoStand : mg "NoStand" = some (.ref (He.ga K "NoStand"))
  gc_NoStatement : mg "NoStatement" = some (.ref (He.ga K "NoStatement"))
  gc_NoThing : mg "NoThing" = some (.ref (He.ga K "NoThing"))
  gc_NoTurn : mg "NoTurn" = some (.ref (He.ga K "NoTurn"))
  gc_Ring : mg "Ring" = some (.ref (He.ga K "Ring"))
  gc_StillOpen : mg "StillOpen" = some (.ref (He.ga K "StillOpen"))
  gc_TooMany : mg "TooMany" = some (.ref (He.ga K "TooMany"))
  iv_Decided_ValueError : IsV K "Decided" "ValueError" true
  iv_Doubled_ValueError : IsV K "Doubled" "ValueError" true
  iv_NoBeat_ValueError : IsV K "NoBeat" "ValueError" true
  iv_NoFact_ValueError : IsV K "NoFact" "ValueError" true
  iv_NoLabel_ValueError : IsV K "NoLabel" "ValueError" true
  iv_NoRow_ValueError : IsV K "NoRow" "ValueError" true
  iv_NoStand_ValueError : IsV K "NoStand" "ValueError" true
  iv_NoStatement_ValueError : IsV K "NoStatement" "ValueError" true
  iv_NoThing_ValueError : IsV K "NoThing" "ValueError" true
  iv_NoTurn_ValueError : IsV K "NoTurn" "ValueError" true
  iv_Ring_ValueError : IsV K "Ring" "ValueError" true
  iv_StillOpen_ValueError : IsV K "StillOpen" "ValueError" true
  iv_TooMany_ValueError : IsV K "TooMany" "ValueError" true
  ix_Decided_Decided : IsF K "Decided" "Decided" true
  ix_Decided_Doubled : IsF K "Decided" "Doubled" false
  ix_Decided_MostError : IsF K "Decided" "MostError" true
  ix_Decided_NoBeat : IsF K "Decided" "NoBeat" false
  ix_Decided_NoFact : IsF K "Decided" "NoFact" false
  ix_Decided_NoLabel : IsF K "Decided" "NoLabel" false
  ix_Decided_NoRow : IsF K "Decided" "NoRow" false
  ix_Decided_NoStand : IsF K "Decided" "NoStand" false
  ix_Decided_NoStatement : IsF K "Decided" "NoStatement" false
  ix_Decided_NoThing : IsF K "Decided" "NoThing" false
  ix_Decided_NoTurn : IsF K "Decided" "NoTurn" false
  ix_Decided_Ring : IsF K "Decided" "Ring" false
  ix_Decided_StillOpen : IsF K "Decided" "StillOpen" false
  ix_Decided_TooMany : IsF K "Decided" "TooMany" false
  ix_Doubled_Decided : IsF K "Doubled" "Decided" false
  ix_Doubled_Doubled : IsF K "Doubled" "Doubled" true
  ix_Doubled_MostError : IsF K "Doubled" "MostError" true
  ix_Doubled_NoBeat : IsF K "Doubled" "NoBeat" false
  ix_Doubled_NoFact : IsF K "Doubled" "NoFact" false
  ix_Doubled_NoLabel : IsF K "Doubled" "NoLabel" false
  ix_Doubled_NoRow : IsF K "Doubled" "NoRow" false
  ix_Doubled_NoStand : IsF K "Doubled" "NoStand" false
  ix_Doubled_NoStatement : IsF K "Doubled" "NoStatement" false
  ix_Doubled_NoThing : IsF K "Doubled" "NoThing" false
  ix_Doubled_NoTurn : IsF K "Doubled" "NoTurn" false
  ix_Doubled_Ring : IsF K "Doubled" "Ring" false
  ix_Doubled_StillOpen : IsF K "Doubled" "StillOpen" false
  ix_Doubled_TooMany : IsF K "Doubled" "TooMany" false
  ix_NoBeat_Decided : IsF K "NoBeat" "Decided" false
  ix_NoBeat_Doubled : IsF K "NoBeat" "Doubled" false
  ix_NoBeat_MostError : IsF K "NoBeat" "MostError" true
  ix_NoBeat_NoBeat : IsF K "NoBeat" "NoBeat" true
  ix_NoBeat_NoFact : IsF K "NoBeat" "NoFact" false
  ix_NoBeat_NoLabel : IsF K "NoBeat" "NoLabel" false
  ix_NoBeat_NoRow : IsF K "NoBeat" "NoRow" false
  ix_NoBeat_NoStand : IsF K "NoBeat" "NoStand" false
  ix_NoBeat_NoStatement : IsF K "NoBeat" "NoStatement" false
  ix_NoBeat_NoThing : IsF K "NoBeat" "NoThing" false
  ix_NoBeat_NoTurn : IsF K "NoBeat" "NoTurn" false
  ix_NoBeat_Ring : IsF K "NoBeat" "Ring" false
  ix_NoBeat_StillOpen : IsF K "NoBeat" "StillOpen" false
  ix_NoBeat_TooMany : IsF K "NoBeat" "TooMany" false
  ix_NoFact_Decided : IsF K "NoFact" "Decided" false
  ix_NoFact_Doubled : IsF K "NoFact" "Doubled" false
  ix_NoFact_MostError : IsF K "NoFact" "MostError" true
  ix_NoFact_NoBeat : IsF K "NoFact" "NoBeat" false
  ix_NoFact_NoFact : IsF K "NoFact" "NoFact" true
  ix_NoFact_NoLabel : IsF K "NoFact" "NoLabel" false
  ix_NoFact_NoRow : IsF K "NoFact" "NoRow" false
  ix_NoFact_NoStand : IsF K "NoFact" "NoStand" false
  ix_NoFact_NoStatement : IsF K "NoFact" "NoStatement" false
  ix_NoFact_NoThing : IsF K "NoFact" "NoThing" false
  ix_NoFact_NoTurn : IsF K "NoFact" "NoTurn" false
  ix_NoFact_Ring : IsF K "NoFact" "Ring" false
  ix_NoFact_StillOpen : IsF K "NoFact" "StillOpen" false
  ix_NoFact_TooMany : IsF K "NoFact" "TooMany" false
  ix_NoLabel_Decided : IsF K "NoLabel" "Decided" false
  ix_NoLabel_Doubled : IsF K "NoLabel" "Doubled" false
  ix_NoLabel_MostError : IsF K "NoLabel" "MostError" true
  ix_NoLabel_NoBeat : IsF K "NoLabel" "NoBeat" false
  ix_NoLabel_NoFact : IsF K "NoLabel" "NoFact" false
  ix_NoLabel_NoLabel : IsF K "NoLabel" "NoLabel" true
  ix_NoLabel_NoRow : IsF K "NoLabel" "NoRow" false
  ix_NoLabel_NoStand : IsF K "NoLabel" "NoStand" false
  ix_NoLabel_NoStatement : IsF K "NoLabel" "NoStatement" false
  ix_NoLabel_NoThing : IsF K "NoLabel" "NoThing" false
  ix_NoLabel_NoTurn : IsF K "NoLabel" "NoTurn" false
  ix_NoLabel_Ring : IsF K "NoLabel" "Ring" false
  ix_NoLabel_StillOpen : IsF K "NoLabel" "StillOpen" false
  ix_NoLabel_TooMany : IsF K "NoLabel" "TooMany" false
  ix_NoRow_Decided : IsF K "NoRow" "Decided" false
  ix_NoRow_Doubled : IsF K "NoRow" "Doubled" false
  ix_NoRow_MostError : IsF K "NoRow" "MostError" true
  ix_NoRow_NoBeat : IsF K "NoRow" "NoBeat" false
  ix_NoRow_NoFact : IsF K "NoRow" "NoFact" false
  ix_NoRow_NoLabel : IsF K "NoRow" "NoLabel" false
  ix_NoRow_NoRow : IsF K "NoRow" "NoRow" true
  ix_NoRow_NoStand : IsF K "NoRow" "NoStand" false
  ix_NoRow_NoStatement : IsF K "NoRow" "NoStatement" false
  ix_NoRow_NoThing : IsF K "NoRow" "NoThing" false
  ix_NoRow_NoTurn : IsF K "NoRow" "NoTurn" false
  ix_NoRow_Ring : IsF K "NoRow" "Ring" false
  ix_NoRow_StillOpen : IsF K "NoRow" "StillOpen" false
  ix_NoRow_TooMany : IsF K "NoRow" "TooMany" false
  ix_NoStand_Decided : IsF K "NoStand" "Decided" false
  ix_NoStand_Doubled : IsF K "NoStand" "Doubled" false
  ix_NoStand_MostError : IsF K "NoStand" "MostError" true
  ix_NoStand_NoBeat : IsF K "NoStand" "NoBeat" false
  ix_NoStand_NoFact : IsF K "NoStand" "NoFact" false
  ix_NoStand_NoLabel : IsF K "NoStand" "NoLabel" false
  ix_NoStand_NoRow : IsF K "NoStand" "NoRow" false
  ix_NoStand_NoStand : IsF K "NoStand" "NoStand" true
  ix_NoStand_NoStatement : IsF K "NoStand" "NoStatement" false
  ix_NoStand_NoThing : IsF K "NoStand" "NoThing" false
  ix_NoStand_NoTurn : IsF K "NoStand" "NoTurn" false
  ix_NoStand_Ring : IsF K "NoStand" "Ring" false
  ix_NoStand_StillOpen : IsF K "NoStand" "StillOpen" false
  ix_NoStand_TooMany : IsF K "NoStand" "TooMany" false
  ix_NoStatement_Decided : IsF K "NoStatement" "Decided" false
  ix_NoStatement_Doubled : IsF K "NoStatement" "Doubled" false
  ix_NoStatement_MostError : IsF K "NoStatement" "MostError" true
  ix_NoStatement_NoBeat : IsF K "NoStatement" "NoBeat" false
  ix_NoStatement_NoFact : IsF K "NoStatement" "NoFact" false
  ix_NoStatement_NoLabel : IsF K "NoStatement" "NoLabel" false
  ix_NoStatement_NoRow : IsF K "NoStatement" "NoRow" false
  ix_NoStatement_NoStand : IsF K "NoStatement" "NoStand" false
  ix_NoStatement_NoStatement : IsF K "NoStatement" "NoStatement" true
  ix_NoStatement_NoThing : IsF K "NoStatement" "NoThing" false
  ix_NoStatement_NoTurn : IsF K "NoStatement" "NoTurn" false
  ix_NoStatement_Ring : IsF K "NoStatement" "Ring" false
  ix_NoStatement_StillOpen : IsF K "NoStatement" "StillOpen" false
  ix_NoStatement_TooMany : IsF K "NoStatement" "TooMany" false
  ix_NoThing_Decided : IsF K "NoThing" "Decided" false
  ix_NoThing_Doubled : IsF K "NoThing" "Doubled" false
  ix_NoThing_MostError : IsF K "NoThing" "MostError" true
  ix_NoThing_NoBeat : IsF K "NoThing" "NoBeat" false
  ix_NoThing_NoFact : IsF K "NoThing" "NoFact" false
  ix_NoThing_NoLabel : IsF K "NoThing" "NoLabel" false
  ix_NoThing_NoRow : IsF K "NoThing" "NoRow" false
  ix_NoThing_NoStand : IsF K "NoThing" "NoStand" false
  ix_NoThing_NoStatement : IsF K "NoThing" "NoStatement" false
  ix_NoThing_NoThing : IsF K "NoThing" "NoThing" true
  ix_NoThing_NoTurn : IsF K "NoThing" "NoTurn" false
  ix_NoThing_Ring : IsF K "NoThing" "Ring" false
  ix_NoThing_StillOpen : IsF K "NoThing" "StillOpen" false
  ix_NoThing_TooMany : IsF K "NoThing" "TooMany" false
  ix_NoTurn_Decided : IsF K "NoTurn" "Decided" false
  ix_NoTurn_Doubled : IsF K "NoTurn" "Doubled" false
  ix_NoTurn_MostError : IsF K "NoTurn" "MostError" true
  ix_NoTurn_NoBeat : IsF K "NoTurn" "NoBeat" false
  ix_NoTurn_NoFact : IsF K "NoTurn" "NoFact" false
  ix_NoTurn_NoLabel : IsF K "NoTurn" "NoLabel" false
  ix_NoTurn_NoRow : IsF K "NoTurn" "NoRow" false
  ix_NoTurn_NoStand : IsF K "NoTurn" "NoStand" false
  ix_NoTurn_NoStatement : IsF K "NoTurn" "NoStatement" false
  ix_NoTurn_NoThing : IsF K "NoTurn" "NoThing" false
  ix_NoTurn_NoTurn : IsF K "NoTurn" "NoTurn" true
  ix_NoTurn_Ring : IsF K "NoTurn" "Ring" false
  ix_NoTurn_StillOpen : IsF K "NoTurn" "StillOpen" false
  ix_NoTurn_TooMany : IsF K "NoTurn" "TooMany" false
  ix_Ring_Decided : IsF K "Ring" "Decided" false
  ix_Ring_Doubled : IsF K "Ring" "Doubled" false
  ix_Ring_MostError : IsF K "Ring" "MostError" true
  ix_Ring_NoBeat : IsF K "Ring" "NoBeat" false
  ix_Ring_NoFact : IsF K "Ring" "NoFact" false
  ix_Ring_NoLabel : IsF K "Ring" "NoLabel" false
  ix_Ring_NoRow : IsF K "Ring" "NoRow" false
  ix_Ring_NoStand : IsF K "Ring" "NoStand" false
  ix_Ring_NoStatement : IsF K "Ring" "NoStatement" false
  ix_Ring_NoThing : IsF K "Ring" "NoThing" false
  ix_Ring_NoTurn : IsF K "Ring" "NoTurn" false
  ix_Ring_Ring : IsF K "Ring" "Ring" true
  ix_Ring_StillOpen : IsF K "Ring" "StillOpen" false
  ix_Ring_TooMany : IsF K "Ring" "TooMany" false
  ix_StillOpen_Decided : IsF K "StillOpen" "Decided" false
  ix_StillOpen_Doubled : IsF K "StillOpen" "Doubled" false
  ix_StillOpen_MostError : IsF K "StillOpen" "MostError" true
  ix_StillOpen_NoBeat : IsF K "StillOpen" "NoBeat" false
  ix_StillOpen_NoFact : IsF K "StillOpen" "NoFact" false
  ix_StillOpen_NoLabel : IsF K "StillOpen" "NoLabel" false
  ix_StillOpen_NoRow : IsF K "StillOpen" "NoRow" false
  ix_StillOpen_NoStand : IsF K "StillOpen" "NoStand" false
  ix_StillOpen_NoStatement : IsF K "StillOpen" "NoStatement" false
  ix_StillOpen_NoThing : IsF K "StillOpen" "NoThing" false
  ix_StillOpen_NoTurn : IsF K "StillOpen" "NoTurn" false
  ix_StillOpen_Ring : IsF K "StillOpen" "Ring" false
  ix_StillOpen_StillOpen : IsF K "StillOpen" "StillOpen" true
  ix_StillOpen_TooMany : IsF K "StillOpen" "TooMany" false
  ix_TooMany_Decided : IsF K "TooMany" "Decided" false
  ix_TooMany_Doubled : IsF K "TooMany" "Doubled" false
  ix_TooMany_MostError : IsF K "TooMany" "MostError" true
  ix_TooMany_NoBeat : IsF K "TooMany" "NoBeat" false
  ix_TooMany_NoFact : IsF K "TooMany" "NoFact" false
  ix_TooMany_NoLabel : IsF K "TooMany" "NoLabel" false
  ix_TooMany_NoRow : IsF K "TooMany" "NoRow" false
  ix_TooMany_NoStand : IsF K "TooMany" "NoStand" false
  ix_TooMany_NoStatement : IsF K "TooMany" "NoStatement" false
  ix_TooMany_NoThing : IsF K "TooMany" "NoThing" false
  ix_TooMany_NoTurn : IsF K "TooMany" "NoTurn" false
  ix_TooMany_Ring : IsF K "TooMany" "Ring" false
  ix_TooMany_StillOpen : IsF K "TooMany" "StillOpen" false
  ix_TooMany_TooMany : IsF K "TooMany" "TooMany" true
  xc_Decided : XcF K "Decided" "found"
  xc_Doubled : XcF K "Doubled" "found"
  xc_NoBeat : XcF K "NoBeat" "found"
  xc_NoFact : XcF K "NoFact" "found"
  xc_NoLabel : XcF K "NoLabel" "found"
  xc_NoRow : XcF K "NoRow" "found"
  xc_NoStand : XcF K "NoStand" "found"
  xc_NoStatement : XcF K "NoStatement" "found"
  xc_NoThing : XcF K "NoThing" "found"
  xc_NoTurn : XcF K "NoTurn" "found"
  xc_Ring : XcF K "Ring" "chain"
  xc_StillOpen : XcF K "StillOpen" "found"
  xc_TooMany : XcF K "TooMany" "count"
theorem xk_of {K : PySem.W.Frag} {mg : Str → Option Value} (T : Txt K mg) : ∀ z : Ez, XcK K (ezc z).cls
  | .NoStatement _ => T.xc_NoStatement.k
  | .NoRow _ => T.xc_NoRow.k
  | .NoThing _ => T.xc_NoThing.k
  | .Doubled _ => T.xc_Doubled.k
  | .NoLabel _ => T.xc_NoLabel.k
  | .NoFact _ => T.xc_NoFact.k
  | .NoBeat _ => T.xc_NoBeat.k
  | .StillOpen _ => T.xc_StillOpen.k
  | .Decided _ => T.xc_Decided.k
  | .NoStand _ => T.xc_NoStand.k
  | .TooMany _ => T.xc_TooMany.k
  | .Ring _ => T.xc_Ring.k
  | .NoTurn _ => T.xc_NoTurn.k
theorem xn_found {K : PySem.W.Frag} {mg : Str → Option Value} (T : Txt K mg) : ∀ z : Ez, xh_found z = true → NoF K (ezc z).cls "found"
  | .NoStatement _, _ => T.xc_NoStatement.nof
  | .NoRow _, _ => T.xc_NoRow.nof
  | .NoThing _, _ => T.xc_NoThing.nof
  | .Doubled _, _ => T.xc_Doubled.nof
  | .NoLabel _, _ => T.xc_NoLabel.nof
  | .NoFact _, _ => T.xc_NoFact.nof
  | .NoBeat _, _ => T.xc_NoBeat.nof
  | .StillOpen _, _ => T.xc_StillOpen.nof
  | .Decided _, _ => T.xc_Decided.nof
  | .NoStand _, _ => T.xc_NoStand.nof
  | .TooMany _, h => nomatch h
  | .Ring _, h => nomatch h
  | .NoTurn _, h => nomatch h
theorem xn_count {K : PySem.W.Frag} {mg : Str → Option Value} (T : Txt K mg) : ∀ z : Ez, xh_count z = true → NoF K (ezc z).cls "count"
  | .NoStatement _, h => nomatch h
  | .NoRow _, h => nomatch h
  | .NoThing _, h => nomatch h
  | .Doubled _, h => nomatch h
  | .NoLabel _, h => nomatch h
  | .NoFact _, h => nomatch h
  | .NoBeat _, h => nomatch h
  | .StillOpen _, h => nomatch h
  | .Decided _, h => nomatch h
  | .NoStand _, h => nomatch h
  | .TooMany _, _ => T.xc_TooMany.nof
  | .Ring _, h => nomatch h
  | .NoTurn _, h => nomatch h
theorem xn_chain {K : PySem.W.Frag} {mg : Str → Option Value} (T : Txt K mg) : ∀ z : Ez, xh_chain z = true → NoF K (ezc z).cls "chain"
  | .NoStatement _, h => nomatch h
  | .NoRow _, h => nomatch h
  | .NoThing _, h => nomatch h
  | .Doubled _, h => nomatch h
  | .NoLabel _, h => nomatch h
  | .NoFact _, h => nomatch h
  | .NoBeat _, h => nomatch h
  | .StillOpen _, h => nomatch h
  | .Decided _, h => nomatch h
  | .NoStand _, h => nomatch h
  | .TooMany _, h => nomatch h
  | .Ring _, _ => T.xc_Ring.nof
  | .NoTurn _, h => nomatch h
theorem xi_Decided {K : PySem.W.Frag} {mg : Str → Option Value} (T : Txt K mg) : ∀ z : Ez, IsF K (ezc z).cls "Decided" (ib_Ez_Decided z)
  | .NoStatement _ => T.ix_NoStatement_Decided
  | .NoRow _ => T.ix_NoRow_Decided
  | .NoThing _ => T.ix_NoThing_Decided
  | .Doubled _ => T.ix_Doubled_Decided
  | .NoLabel _ => T.ix_NoLabel_Decided
  | .NoFact _ => T.ix_NoFact_Decided
  | .NoBeat _ => T.ix_NoBeat_Decided
  | .StillOpen _ => T.ix_StillOpen_Decided
  | .Decided _ => T.ix_Decided_Decided
  | .NoStand _ => T.ix_NoStand_Decided
  | .TooMany _ => T.ix_TooMany_Decided
  | .Ring _ => T.ix_Ring_Decided
  | .NoTurn _ => T.ix_NoTurn_Decided
theorem xi_Doubled {K : PySem.W.Frag} {mg : Str → Option Value} (T : Txt K mg) : ∀ z : Ez, IsF K (ezc z).cls "Doubled" (ib_Ez_Doubled z)
  | .NoStatement _ => T.ix_NoStatement_Doubled
  | .NoRow _ => T.ix_NoRow_Doubled
  | .NoThing _ => T.ix_NoThing_Doubled
  | .Doubled _ => T.ix_Doubled_Doubled
  | .NoLabel _ => T.ix_NoLabel_Doubled
  | .NoFact _ => T.ix_NoFact_Doubled
  | .NoBeat _ => T.ix_NoBeat_Doubled
  | .StillOpen _ => T.ix_StillOpen_Doubled
  | .Decided _ => T.ix_Decided_Doubled
  | .NoStand _ => T.ix_NoStand_Doubled
  | .TooMany _ => T.ix_TooMany_Doubled
  | .Ring _ => T.ix_Ring_Doubled
  | .NoTurn _ => T.ix_NoTurn_Doubled
theorem xi_MostError {K : PySem.W.Frag} {mg : Str → Option Value} (T : Txt K mg) : ∀ z : Ez, IsF K (ezc z).cls "MostError" (ib_Ez_MostError z)
  | .NoStatement _ => T.ix_NoStatement_MostError
  | .NoRow _ => T.ix_NoRow_MostError
  | .NoThing _ => T.ix_NoThing_MostError
  | .Doubled _ => T.ix_Doubled_MostError
  | .NoLabel _ => T.ix_NoLabel_MostError
  | .NoFact _ => T.ix_NoFact_MostError
  | .NoBeat _ => T.ix_NoBeat_MostError
  | .StillOpen _ => T.ix_StillOpen_MostError
  | .Decided _ => T.ix_Decided_MostError
  | .NoStand _ => T.ix_NoStand_MostError
  | .TooMany _ => T.ix_TooMany_MostError
  | .Ring _ => T.ix_Ring_MostError
  | .NoTurn _ => T.ix_NoTurn_MostError
theorem xi_NoBeat {K : PySem.W.Frag} {mg : Str → Option Value} (T : Txt K mg) : ∀ z : Ez, IsF K (ezc z).cls "NoBeat" (ib_Ez_NoBeat z)
  | .NoStatement _ => T.ix_NoStatement_NoBeat
  | .NoRow _ => T.ix_NoRow_NoBeat
  | .NoThing _ => T.ix_NoThing_NoBeat
  | .Doubled _ => T.ix_Doubled_NoBeat
  | .NoLabel _ => T.ix_NoLabel_NoBeat
  | .NoFact _ => T.ix_NoFact_NoBeat
  | .NoBeat _ => T.ix_NoBeat_NoBeat
  | .StillOpen _ => T.ix_StillOpen_NoBeat
  | .Decided _ => T.ix_Decided_NoBeat
  | .NoStand _ => T.ix_NoStand_NoBeat
  | .TooMany _ => T.ix_TooMany_NoBeat
  | .Ring _ => T.ix_Ring_NoBeat
  | .NoTurn _ => T.ix_NoTurn_NoBeat
theorem xi_NoFact {K : PySem.W.Frag} {mg : Str → Option Value} (T : Txt K mg) : ∀ z : Ez, IsF K (ezc z).cls "NoFact" (ib_Ez_NoFact z)
  | .NoStatement _ => T.ix_NoStatement_NoFact
  | .NoRow _ => T.ix_NoRow_NoFact
  | .NoThing _ => T.ix_NoThing_NoFact
  | .Doubled _ => T.ix_Doubled_NoFact
  | .NoLabel _ => T.ix_NoLabel_NoFact
  | .NoFact _ => T.ix_NoFact_NoFact
  | .NoBeat _ => T.ix_NoBeat_NoFact
  | .StillOpen _ => T.ix_StillOpen_NoFact
  | .Decided _ => T.ix_Decided_NoFact
  | .NoStand _ => T.ix_NoStand_NoFact
  | .TooMany _ => T.ix_TooMany_NoFact
  | .Ring _ => T.ix_Ring_NoFact
  | .NoTurn _ => T.ix_NoTurn_NoFact
theorem xi_NoLabel {K : PySem.W.Frag} {mg : Str → Option Value} (T : Txt K mg) : ∀ z : Ez, IsF K (ezc z).cls "NoLabel" (ib_Ez_NoLabel z)
  | .NoStatement _ => T.ix_NoStatement_NoLabel
  | .NoRow _ => T.ix_NoRow_NoLabel
  | .NoThing _ => T.ix_NoThing_NoLabel
  | .Doubled _ => T.ix_Doubled_NoLabel
  | .NoLabel _ => T.ix_NoLabel_NoLabel
  | .NoFact _ => T.ix_NoFact_NoLabel
  | .NoBeat _ => T.ix_NoBeat_NoLabel
  | .StillOpen _ => T.ix_StillOpen_NoLabel
  | .Decided _ => T.ix_Decided_NoLabel
  | .NoStand _ => T.ix_NoStand_NoLabel
  | .TooMany _ => T.ix_TooMany_NoLabel
  | .Ring _ => T.ix_Ring_NoLabel
  | .NoTurn _ => T.ix_NoTurn_NoLabel
theorem xi_NoRow {K : PySem.W.Frag} {mg : Str → Option Value} (T : Txt K mg) : ∀ z : Ez, IsF K (ezc z).cls "NoRow" (ib_Ez_NoRow z)
  | .NoStatement _ => T.ix_NoStatement_NoRow
  | .NoRow _ => T.ix_NoRow_NoRow
  | .NoThing _ => T.ix_NoThing_NoRow
  | .Doubled _ => T.ix_Doubled_NoRow
  | .NoLabel _ => T.ix_NoLabel_NoRow
  | .NoFact _ => T.ix_NoFact_NoRow
  | .NoBeat _ => T.ix_NoBeat_NoRow
  | .StillOpen _ => T.ix_StillOpen_NoRow
  | .Decided _ => T.ix_Decided_NoRow
  | .NoStand _ => T.ix_NoStand_NoRow
  | .TooMany _ => T.ix_TooMany_NoRow
  | .Ring _ => T.ix_Ring_NoRow
  | .NoTurn _ => T.ix_NoTurn_NoRow
theorem xi_NoStand {K : PySem.W.Frag} {mg : Str → Option Value} (T : Txt K mg) : ∀ z : Ez, IsF K (ezc z).cls "NoStand" (ib_Ez_NoStand z)
  | .NoStatement _ => T.ix_NoStatement_NoStand
  | .NoRow _ => T.ix_NoRow_NoStand
  | .NoThing _ => T.ix_NoThing_NoStand
  | .Doubled _ => T.ix_Doubled_NoStand
  | .NoLabel _ => T.ix_NoLabel_NoStand
  | .NoFact _ => T.ix_NoFact_NoStand
  | .NoBeat _ => T.ix_NoBeat_NoStand
  | .StillOpen _ => T.ix_StillOpen_NoStand
  | .Decided _ => T.ix_Decided_NoStand
  | .NoStand _ => T.ix_NoStand_NoStand
  | .TooMany _ => T.ix_TooMany_NoStand
  | .Ring _ => T.ix_Ring_NoStand
  | .NoTurn _ => T.ix_NoTurn_NoStand
theorem xi_NoStatement {K : PySem.W.Frag} {mg : Str → Option Value} (T : Txt K mg) : ∀ z : Ez, IsF K (ezc z).cls "NoStatement" (ib_Ez_NoStatement z)
  | .NoStatement _ => T.ix_NoStatement_NoStatement
  | .NoRow _ => T.ix_NoRow_NoStatement
  | .NoThing _ => T.ix_NoThing_NoStatement
  | .Doubled _ => T.ix_Doubled_NoStatement
  | .NoLabel _ => T.ix_NoLabel_NoStatement
  | .NoFact _ => T.ix_NoFact_NoStatement
  | .NoBeat _ => T.ix_NoBeat_NoStatement
  | .StillOpen _ => T.ix_StillOpen_NoStatement
  | .Decided _ => T.ix_Decided_NoStatement
  | .NoStand _ => T.ix_NoStand_NoStatement
  | .TooMany _ => T.ix_TooMany_NoStatement
  | .Ring _ => T.ix_Ring_NoStatement
  | .NoTurn _ => T.ix_NoTurn_NoStatement
theorem xi_NoThing {K : PySem.W.Frag} {mg : Str → Option Value} (T : Txt K mg) : ∀ z : Ez, IsF K (ezc z).cls "NoThing" (ib_Ez_NoThing z)
  | .NoStatement _ => T.ix_NoStatement_NoThing
  | .NoRow _ => T.ix_NoRow_NoThing
  | .NoThing _ => T.ix_NoThing_NoThing
  | .Doubled _ => T.ix_Doubled_NoThing
  | .NoLabel _ => T.ix_NoLabel_NoThing
  | .NoFact _ => T.ix_NoFact_NoThing
  | .NoBeat _ => T.ix_NoBeat_NoThing
  | .StillOpen _ => T.ix_StillOpen_NoThing
  | .Decided _ => T.ix_Decided_NoThing
  | .NoStand _ => T.ix_NoStand_NoThing
  | .TooMany _ => T.ix_TooMany_NoThing
  | .Ring _ => T.ix_Ring_NoThing
  | .NoTurn _ => T.ix_NoTurn_NoThing
theorem xi_NoTurn {K : PySem.W.Frag} {mg : Str → Option Value} (T : Txt K mg) : ∀ z : Ez, IsF K (ezc z).cls "NoTurn" (ib_Ez_NoTurn z)
  | .NoStatement _ => T.ix_NoStatement_NoTurn
  | .NoRow _ => T.ix_NoRow_NoTurn
  | .NoThing _ => T.ix_NoThing_NoTurn
  | .Doubled _ => T.ix_Doubled_NoTurn
  | .NoLabel _ => T.ix_NoLabel_NoTurn
  | .NoFact _ => T.ix_NoFact_NoTurn
  | .NoBeat _ => T.ix_NoBeat_NoTurn
  | .StillOpen _ => T.ix_StillOpen_NoTurn
  | .Decided _ => T.ix_Decided_NoTurn
  | .NoStand _ => T.ix_NoStand_NoTurn
  | .TooMany _ => T.ix_TooMany_NoTurn
  | .Ring _ => T.ix_Ring_NoTurn
  | .NoTurn _ => T.ix_NoTurn_NoTurn
theorem xi_Ring {K : PySem.W.Frag} {mg : Str → Option Value} (T : Txt K mg) : ∀ z : Ez, IsF K (ezc z).cls "Ring" (ib_Ez_Ring z)
  | .NoStatement _ => T.ix_NoStatement_Ring
  | .NoRow _ => T.ix_NoRow_Ring
  | .NoThing _ => T.ix_NoThing_Ring
  | .Doubled _ => T.ix_Doubled_Ring
  | .NoLabel _ => T.ix_NoLabel_Ring
  | .NoFact _ => T.ix_NoFact_Ring
  | .NoBeat _ => T.ix_NoBeat_Ring
  | .StillOpen _ => T.ix_StillOpen_Ring
  | .Decided _ => T.ix_Decided_Ring
  | .NoStand _ => T.ix_NoStand_Ring
  | .TooMany _ => T.ix_TooMany_Ring
  | .Ring _ => T.ix_Ring_Ring
  | .NoTurn _ => T.ix_NoTurn_Ring
theorem xi_StillOpen {K : PySem.W.Frag} {mg : Str → Option Value} (T : Txt K mg) : ∀ z : Ez, IsF K (ezc z).cls "StillOpen" (ib_Ez_StillOpen z)
  | .NoStatement _ => T.ix_NoStatement_StillOpen
  | .NoRow _ => T.ix_NoRow_StillOpen
  | .NoThing _ => T.ix_NoThing_StillOpen
  | .Doubled _ => T.ix_Doubled_StillOpen
  | .NoLabel _ => T.ix_NoLabel_StillOpen
  | .NoFact _ => T.ix_NoFact_StillOpen
  | .NoBeat _ => T.ix_NoBeat_StillOpen
  | .StillOpen _ => T.ix_StillOpen_StillOpen
  | .Decided _ => T.ix_Decided_StillOpen
  | .NoStand _ => T.ix_NoStand_StillOpen
  | .TooMany _ => T.ix_TooMany_StillOpen
  | .Ring _ => T.ix_Ring_StillOpen
  | .NoTurn _ => T.ix_NoTurn_StillOpen
theorem xi_TooMany {K : PySem.W.Frag} {mg : Str → Option Value} (T : Txt K mg) : ∀ z : Ez, IsF K (ezc z).cls "TooMany" (ib_Ez_TooMany z)
  | .NoStatement _ => T.ix_NoStatement_TooMany
  | .NoRow _ => T.ix_NoRow_TooMany
  | .NoThing _ => T.ix_NoThing_TooMany
  | .Doubled _ => T.ix_Doubled_TooMany
  | .NoLabel _ => T.ix_NoLabel_TooMany
  | .NoFact _ => T.ix_NoFact_TooMany
  | .NoBeat _ => T.ix_NoBeat_TooMany
  | .StillOpen _ => T.ix_StillOpen_TooMany
  | .Decided _ => T.ix_Decided_TooMany
  | .NoStand _ => T.ix_NoStand_TooMany
  | .TooMany _ => T.ix_TooMany_TooMany
  | .Ring _ => T.ix_Ring_TooMany
  | .NoTurn _ => T.ix_NoTurn_TooMany
theorem xi_ValueError {K : PySem.W.Frag} {mg : Str → Option Value} (T : Txt K mg) : ∀ z : Ez, IsV K (ezc z).cls "ValueError" (ib_Ez_ValueError z)
  | .NoStatement _ => T.iv_NoStatement_ValueError
  | .NoRow _ => T.iv_NoRow_ValueError
  | .NoThing _ => T.iv_NoThing_ValueError
  | .Doubled _ => T.iv_Doubled_ValueError
  | .NoLabel _ => T.iv_NoLabel_ValueError
  | .NoFact _ => T.iv_NoFact_ValueError
  | .NoBeat _ => T.iv_NoBeat_ValueError
  | .StillOpen _ => T.iv_StillOpen_ValueError
  | .Decided _ => T.iv_Decided_ValueError
  | .NoStand _ => T.iv_NoStand_ValueError
  | .TooMany _ => T.iv_TooMany_ValueError
  | .Ring _ => T.iv_Ring_ValueError
  | .NoTurn _ => T.iv_NoTurn_ValueError
/-! law_cell -/
def m_law_cell (v_script : (List Int)) (v_k : Int) : Int := (cond (decide (v_k < ((v_script).length : Int))) (itm v_script v_k) ((((7919 : Int) * v_k) + (5 : Int)) * (((v_script).length : Int) + (1 : Int))))
def k_law_cell (v_script : (List Int)) (v_k : Int) : Prop := (((decide (v_k < ((v_script).length : Int))) = true → (inI v_script v_k = true)) ∧ ((decide (v_k < ((v_script).length : Int))) = false → (mulOk (((7919 : Int) * v_k) + (5 : Int)) (((v_script).length : Int) + (1 : Int)))))
theorem sc_law_cell : FnScope ["_law_script", "_law_k"] ["_law_script", "_law_k"] (defScope s_law_cell) := ⟨rfl, rfl, rfl, by decide +kernel, rfl, by decide +kernel, by decide +kernel⟩
def r_law_cell : List Dt → Sum Cell Xc → Prop := fun ds a => ∃ (v_script : (List Int)) (v_k : Int), k_law_cell v_script v_k ∧ ds = [(e0_scr v_script), (Dt.int v_k)] ∧ a = .inl (.fz (Dt.int (m_law_cell v_script v_k)))
section
variable {P : Program} {w : World} {K : PySem.W.Frag} {mg : Str → Option Value} {base : Heap}
theorem run_law_cell (T : Txt K mg)  {f : Addr} {cdv : Value} {A : Around} {outer : List PySem.Env} {s : Shared} {H : Hp} {E : XK} (hr : Room 0 (A.deeper (PyProof.Rows.envOfC "_law_cell" (defScope s_law_cell) s.heap.objs.size f cdv))) (v_script : (List Int)) (v_k : Int) (hk : k_law_cell v_script v_k) :
    Run (cxOf (L2.CX P w) P w K mg base ["_law_script", "_law_k"] "_law_cell" (defScope s_law_cell) f cdv A outer s H E) K (wE E) sv0 (defBody s_law_cell) (start0 ["_law_script", "_law_k"] [(e0_scr v_script), (Dt.int v_k)]) (.rt (.fz (Dt.int (m_law_cell v_script v_k))) none) := by
  obtain ⟨h3, h4⟩ := hk
  refine run_gd (fun x : Int => Out.rt (.fz (Dt.int x)) none) (itm v_script v_k) ((((7919 : Int) * v_k) + (5 : Int)) * (((v_script).length : Int) + (1 : Int))) (fun _ h => nomatch h) (eb_cmp says_lt (xv 1 rfl) (x_len Dt.int (fun _ => rfl) (EX.esS (xv 0 rfl)) (fun _ => rfl) (fun _ => T.n_len))) (fun hb => ?_) (fun hb => ?_)
  · have hk := h3 hb
    have h1 := hk
    exact run_ret (x_ix Dt.int (fun _ => rfl) (EX.esS (xv 0 rfl)) (xv 1 rfl) h1)
  · have hk := h4 hb
    have h2 := hk
    exact run_ret (ex_mul (ex_add (ex_mul ex_int (xv 1 rfl) (.inl ⟨by decide, by decide⟩)) ex_int) (ex_add (x_len Dt.int (fun _ => rfl) (EX.esS (xv 0 rfl)) (fun _ => rfl) (fun _ => T.n_len)) ex_int) h2)
theorem ok_law_cell (T : Txt K mg)  {f : Addr} {fd : FuncData} (F : FunD K "_law_cell" "_law_cell" (defArgs s_law_cell) (defBody s_law_cell) (defScope s_law_cell) [] [] f fd) : FnOk P w K mg base (L2.CX P w) 1 f fd ["_law_script", "_law_k"] (spR K 2 r_law_cell) :=
  fnOk_mk F sc_law_cell (fun cdv A outer s H E ds a hr hR hn => by
    obtain ⟨v_script, v_k, hk, rfl, rfl⟩ := hR
    exact ⟨_, .rt _, run_law_cell T  hr v_script v_k hk⟩)
theorem mk_law_cell (T : Txt K mg)  {f : Addr} {fd : FuncData} (F : FunD K "_law_cell" "_law_cell" (defArgs s_law_cell) (defBody s_law_cell) (defScope s_law_cell) [] [] f fd) {x : Str} (gf : mg x = some (.ref f)) : Callee P w K mg base x 1 2 r_law_cell :=
  ⟨f, fd, ["_law_script", "_law_k"], ok_law_cell T  F, gf, F.kp, FunD.bindsN F fun _ _ _ _ _ _ us hl => match us, hl with | [_, _], _ => rfl⟩
end
/-! law_mixed -/
def m_law_mixed_1  (v_number_1 : Int) : Int := (((v_number_1 + (104729 : Int)) * (v_number_1 + (31 : Int))) % (2147483587 : Int))
def k_law_mixed_1  (v_number_1 : Int) : Prop := (mulOk (v_number_1 + (104729 : Int)) (v_number_1 + (31 : Int)))
def m_law_mixed_2  (v_number : Int) : Int := (m_law_mixed_1 ((v_number * v_number) % (2147483629 : Int)))
def k_law_mixed_2  (v_number : Int) : Prop := ((mulOk v_number v_number) ∧ (k_law_mixed_1 ((v_number * v_number) % (2147483629 : Int))))
def m_law_mixed (v_cell_here : Int) (v_k : Int) : Int := (m_law_mixed_2 ((((v_cell_here + ((7919 : Int) * v_k)) + (5 : Int)) * (48271 : Int)) % (2147483647 : Int)))
def k_law_mixed (v_cell_here : Int) (v_k : Int) : Prop := (k_law_mixed_2 ((((v_cell_here + ((7919 : Int) * v_k)) + (5 : Int)) * (48271 : Int)) % (2147483647 : Int)))
theorem sc_law_mixed : FnScope ["_law_cell_here", "_law_k", "_law_number"] ["_law_cell_here", "_law_k"] (defScope s_law_mixed) := ⟨rfl, rfl, rfl, by decide +kernel, rfl, by decide +kernel, by decide +kernel⟩
def r_law_mixed : List Dt → Sum Cell Xc → Prop := fun ds a => ∃ (v_cell_here : Int) (v_k : Int), k_law_mixed v_cell_here v_k ∧ ds = [(Dt.int v_cell_here), (Dt.int v_k)] ∧ a = .inl (.fz (Dt.int (m_law_mixed v_cell_here v_k)))
section
variable {P : Program} {w : World} {K : PySem.W.Frag} {mg : Str → Option Value} {base : Heap}
theorem run_law_mixed (T : Txt K mg)  {f : Addr} {cdv : Value} {A : Around} {outer : List PySem.Env} {s : Shared} {H : Hp} {E : XK} (hr : Room 0 (A.deeper (PyProof.Rows.envOfC "_law_mixed" (defScope s_law_mixed) s.heap.objs.size f cdv))) (v_cell_here : Int) (v_k : Int) (hk : k_law_mixed v_cell_here v_k) :
    Run (cxOf (L2.CX P w) P w K mg base ["_law_cell_here", "_law_k", "_law_number"] "_law_mixed" (defScope s_law_mixed) f cdv A outer s H E) K (wE E) sv0 (defBody s_law_mixed) (start0 ["_law_cell_here", "_law_k", "_law_number"] [(Dt.int v_cell_here), (Dt.int v_k)]) (.rt (.fz (Dt.int (m_law_mixed v_cell_here v_k))) none) := by
  have h4 := hk
  refine run_asgE (i := 2) ((((v_cell_here + ((7919 : Int) * v_k)) + (5 : Int)) * (48271 : Int)) % (2147483647 : Int)) (fun v_number => .fz (Dt.int v_number)) (fun _ => _) (fun v_number => [Zf (Dt.int v_cell_here), Zf (Dt.int v_k), Zf (Dt.int v_number)]) (fun v_number => .rt (.fz (Dt.int (m_law_mixed_2 v_number))) none) (k_law_mixed_2) (EX.ev (ex_mod (ex_mul (ex_add (ex_add (xv 0 rfl) (ex_mul ex_int (xv 1 rfl) (.inl ⟨by decide, by decide⟩))) ex_int) ex_int (.inr ⟨by decide, by decide⟩)) ex_int (by decide))) h4 sc_law_mixed.nd (fun _ => rfl) (fun v_number hk => ?_)
  obtain ⟨h2, h3⟩ := hk
  refine run_asgE (i := 2) ((v_number * v_number) % (2147483629 : Int)) (fun v_number_1 => .fz (Dt.int v_number_1)) (fun _ => _) (fun v_number_1 => [Zf (Dt.int v_cell_here), Zf (Dt.int v_k), Zf (Dt.int v_number_1)]) (fun v_number_1 => .rt (.fz (Dt.int (m_law_mixed_1 v_number_1))) none) (k_law_mixed_1) (EX.ev (ex_mod (ex_mul (xv 2 rfl) (xv 2 rfl) h2) ex_int (by decide))) h3 sc_law_mixed.nd (fun _ => rfl) (fun v_number_1 hk => ?_)
  have h1 := hk
  exact run_ret (ex_mod (ex_mul (ex_add (xv 2 rfl) ex_int) (ex_add (xv 2 rfl) ex_int) h1) ex_int (by decide))
theorem ok_law_mixed (T : Txt K mg)  {f : Addr} {fd : FuncData} (F : FunD K "_law_mixed" "_law_mixed" (defArgs s_law_mixed) (defBody s_law_mixed) (defScope s_law_mixed) [] [] f fd) : FnOk P w K mg base (L2.CX P w) 1 f fd ["_law_cell_here", "_law_k"] (spR K 2 r_law_mixed) :=
  fnOk_mk F sc_law_mixed (fun cdv A outer s H E ds a hr hR hn => by
    obtain ⟨v_cell_here, v_k, hk, rfl, rfl⟩ := hR
    exact ⟨_, .rt _, run_law_mixed T  hr v_cell_here v_k hk⟩)
theorem mk_law_mixed (T : Txt K mg)  {f : Addr} {fd : FuncData} (F : FunD K "_law_mixed" "_law_mixed" (defArgs s_law_mixed) (defBody s_law_mixed) (defScope s_law_mixed) [] [] f fd) {x : Str} (gf : mg x = some (.ref f)) : Callee P w K mg base x 1 2 r_law_mixed :=
  ⟨f, fd, ["_law_cell_here", "_law_k"], ok_law_mixed T  F, gf, F.kp, FunD.bindsN F fun _ _ _ _ _ _ us hl => match us, hl with | [_, _], _ => rfl⟩
end
/-! x_NoStatement -/
theorem sc_x_NoStatement : FnScope ["self", "found"] ["self", "found"] (defScope s_x_NoStatement) := ⟨rfl, rfl, rfl, by decide +kernel, rfl, by decide +kernel, by decide +kernel⟩
section
variable {P : Program} {w : World} {K : PySem.W.Frag} {mg : Str → Option Value} {base : Heap}
theorem mk_x_NoStatement (T : Txt K mg) {fd : FuncData} (F : FunD K "__init__" "NoStatement.__init__" (defArgs s_x_NoStatement) (defBody s_x_NoStatement) (defScope s_x_NoStatement) [] [] (He.ma K (He.ga K "NoStatement") "__init__") fd) : CalleeX P w K mg base "NoStatement" "found" :=
  ⟨fd, ["self", "found"], init_ok F sc_x_NoStatement T.bvi_MostError T.gc_MostError rfl (fun _ _ _ _ _ _ => rfl) (Or.inl rfl) (Or.inl rfl) (by decide) (by decide) (by decide) (by decide) (by decide) (fun _ _ _ _ _ _ => ⟨_, rfl⟩), FunD.bindsN F fun _ _ _ _ _ _ us hl => match us, hl with | [_, _], _ => rfl⟩
end
/-! x_NoRow -/
theorem sc_x_NoRow : FnScope ["self", "found"] ["self", "found"] (defScope s_x_NoRow) := ⟨rfl, rfl, rfl, by decide +kernel, rfl, by decide +kernel, by decide +kernel⟩
section
variable {P : Program} {w : World} {K : PySem.W.Frag} {mg : Str → Option Value} {base : Heap}
theorem mk_x_NoRow (T : Txt K mg) {fd : FuncData} (F : FunD K "__init__" "NoRow.__init__" (defArgs s_x_NoRow) (defBody s_x_NoRow) (defScope s_x_NoRow) [] [] (He.ma K (He.ga K "NoRow") "__init__") fd) : CalleeX P w K mg base "NoRow" "found" :=
  ⟨fd, ["self", "found"], init_ok F sc_x_NoRow T.bvi_MostError T.gc_MostError rfl (fun _ _ _ _ _ _ => rfl) (Or.inl rfl) (Or.inl rfl) (by decide) (by decide) (by decide) (by decide) (by decide) (fun _ _ _ _ _ _ => ⟨_, rfl⟩), FunD.bindsN F fun _ _ _ _ _ _ us hl => match us, hl with | [_, _], _ => rfl⟩
end
/-! x_NoThing -/
theorem sc_x_NoThing : FnScope ["self", "found"] ["self", "found"] (defScope s_x_NoThing) := ⟨rfl, rfl, rfl, by decide +kernel, rfl, by decide +kernel, by decide +kernel⟩
section
variable {P : Program} {w : World} {K : PySem.W.Frag} {mg : Str → Option Value} {base : Heap}
theorem mk_x_NoThing (T : Txt K mg) {fd : FuncData} (F : FunD K "__init__" "NoThing.__init__" (defArgs s_x_NoThing) (defBody s_x_NoThing) (defScope s_x_NoThing) [] [] (He.ma K (He.ga K "NoThing") "__init__") fd) : CalleeX P w K mg base "NoThing" "found" :=
  ⟨fd, ["self", "found"], init_ok F sc_x_NoThing T.bvi_MostError T.gc_MostError rfl (fun _ _ _ _ _ _ => rfl) (Or.inl rfl) (Or.inl rfl) (by decide) (by decide) (by decide) (by decide) (by decide) (fun _ _ _ _ _ _ => ⟨_, rfl⟩), FunD.bindsN F fun _ _ _ _ _ _ us hl => match us, hl with | [_, _], _ => rfl⟩
end
/-! x_Doubled -/
theorem sc_x_Doubled : FnScope ["self", "found"] ["self", "found"] (defScope s_x_Doubled) := ⟨rfl, rfl, rfl, by decide +kernel, rfl, by decide +kernel, by decide +kernel⟩
section
variable {P : Program} {w : World} {K : PySem.W.Frag} {mg : Str → Option Value} {base : Heap}
theorem mk_x_Doubled (T : Txt K mg) {fd : FuncData} (F : FunD K "__init__" "Doubled.__init__" (defArgs s_x_Doubled) (defBody s_x_Doubled) (defScope s_x_Doubled) [] [] (He.ma K (He.ga K "Doubled") "__init__") fd) : CalleeX P w K mg base "Doubled" "found" :=
  ⟨fd, ["self", "found"], init_ok F sc_x_Doubled T.bvi_MostError T.gc_MostError rfl (fun _ _ _ _ _ _ => rfl) (Or.inl rfl) (Or.inl rfl) (by decide) (by decide) (by decide) (by decide) (by decide) (fun _ _ _ _ _ _ => ⟨_, rfl⟩), FunD.bindsN F fun _ _ _ _ _ _ us hl => match us, hl with | [_, _], _ => rfl⟩
end
/-! x_NoLabel -/
theorem sc_x_NoLabel : FnScope ["self", "found"] ["self", "found"] (defScope s_x_NoLabel) := ⟨rfl, rfl, rfl, by decide +kernel, rfl, by decide +kernel, by decide +kernel⟩
section
variable {P : Program} {w : World} {K : PySem.W.Frag} {mg : Str → Option Value} {base : Heap}
theorem mk_x_NoLabel (T : Txt K mg) {fd : FuncData} (F : FunD K "__init__" "NoLabel.__init__" (defArgs s_x_NoLabel) (defBody s_x_NoLabel) (defScope s_x_NoLabel) [] [] (He.ma K (He.ga K "NoLabel") "__init__") fd) : CalleeX P w K mg base "NoLabel" "found" :=
  ⟨fd, ["self", "found"], init_ok F sc_x_NoLabel T.bvi_MostError T.gc_MostError rfl (fun _ _ _ _ _ _ => rfl) (Or.inl rfl) (Or.inl rfl) (by decide) (by decide) (by decide) (by decide) (by decide) (fun _ _ _ _ _ _ => ⟨_, rfl⟩), FunD.bindsN F fun _ _ _ _ _ _ us hl => match us, hl with | [_, _], _ => rfl⟩
end
/-! x_NoFact -/
theorem sc_x_NoFact : FnScope ["self", "found"] ["self", "found"] (defScope s_x_NoFact) := ⟨rfl, rfl, rfl, by decide +kernel, rfl, by decide +kernel, by decide +kernel⟩
section
variable {P : Program} {w : World} {K : PySem.W.Frag} {mg : Str → Option Value} {base : Heap}
theorem mk_x_NoFact (T : Txt K mg) {fd : FuncData} (F : FunD K "__init__" "NoFact.__init__" (defArgs s_x_NoFact) (defBody s_x_NoFact) (defScope s_x_NoFact) [] [] (He.ma K (He.ga K "NoFact") "__init__") fd) : CalleeX P w K mg base "NoFact" "found" :=
  ⟨fd, ["self", "found"], init_ok F sc_x_NoFact T.bvi_MostError T.gc_MostError rfl (fun _ _ _ _ _ _ => rfl) (Or.inl rfl) (Or.inl rfl) (by decide) (by decide) (by decide) (by decide) (by decide) (fun _ _ _ _ _ _ => ⟨_, rfl⟩), FunD.bindsN F fun _ _ _ _ _ _ us hl => match us, hl with | [_, _], _ => rfl⟩
end
/-! x_NoBeat -/
theorem sc_x_NoBeat : FnScope ["self", "found"] ["self", "found"] (defScope s_x_NoBeat) := ⟨rfl, rfl, rfl, by decide +kernel, rfl, by decide +kernel, by decide +kernel⟩
section
variable {P : Program} {w : World} {K : PySem.W.Frag} {mg : Str → Option Value} {base : Heap}
theorem mk_x_NoBeat (T : Txt K mg) {fd : FuncData} (F : FunD K "__init__" "NoBeat.__init__" (defArgs s_x_NoBeat) (defBody s_x_NoBeat) (defScope s_x_NoBeat) [] [] (He.ma K (He.ga K "NoBeat") "__init__") fd) : CalleeX P w K mg base "NoBeat" "found" :=
  ⟨fd, ["self", "found"], init_ok F sc_x_NoBeat T.bvi_MostError T.gc_MostError rfl (fun _ _ _ _ _ _ => rfl) (Or.inl rfl) (Or.inl rfl) (by decide) (by decide) (by decide) (by decide) (by decide) (fun _ _ _ _ _ _ => ⟨_, rfl⟩), FunD.bindsN F fun _ _ _ _ _ _ us hl => match us, hl with | [_, _], _ => rfl⟩
end
/-! x_StillOpen -/
theorem sc_x_StillOpen : FnScope ["self", "found"] ["self", "found"] (defScope s_x_StillOpen) := ⟨rfl, rfl, rfl, by decide +kernel, rfl, by decide +kernel, by decide +kernel⟩
section
variable {P : Program} {w : World} {K : PySem.W.Frag} {mg : Str → Option Value} {base : Heap}
theorem mk_x_StillOpen (T : Txt K mg) {fd : FuncData} (F : FunD K "__init__" "StillOpen.__init__" (defArgs s_x_StillOpen) (defBody s_x_StillOpen) (defScope s_x_StillOpen) [] [] (He.ma K (He.ga K "StillOpen") "__init__") fd) : CalleeX P w K mg base "StillOpen" "found" :=
  ⟨fd, ["self", "found"], init_ok F sc_x_StillOpen T.bvi_MostError T.gc_MostError rfl (fun _ _ _ _ _ _ => rfl) (Or.inl rfl) (Or.inl rfl) (by decide) (by decide) (by decide) (by decide) (by decide) (fun _ _ _ _ _ _ => ⟨_, rfl⟩), FunD.bindsN F fun _ _ _ _ _ _ us hl => match us, hl with | [_, _], _ => rfl⟩
end
/-! x_Decided -/
theorem sc_x_Decided : FnScope ["self", "found"] ["self", "found"] (defScope s_x_Decided) := ⟨rfl, rfl, rfl, by decide +kernel, rfl, by decide +kernel, by decide +kernel⟩
section
variable {P : Program} {w : World} {K : PySem.W.Frag} {mg : Str → Option Value} {base : Heap}
theorem mk_x_Decided (T : Txt K mg) {fd : FuncData} (F : FunD K "__init__" "Decided.__init__" (defArgs s_x_Decided) (defBody s_x_Decided) (defScope s_x_Decided) [] [] (He.ma K (He.ga K "Decided") "__init__") fd) : CalleeX P w K mg base "Decided" "found" :=
  ⟨fd, ["self", "found"], init_ok F sc_x_Decided T.bvi_MostError T.gc_MostError rfl (fun _ _ _ _ _ _ => rfl) (Or.inl rfl) (Or.inl rfl) (by decide) (by decide) (by decide) (by decide) (by decide) (fun _ _ _ _ _ _ => ⟨_, rfl⟩), FunD.bindsN F fun _ _ _ _ _ _ us hl => match us, hl with | [_, _], _ => rfl⟩
end
/-! x_NoStand -/
theorem sc_x_NoStand : FnScope ["self", "found"] ["self", "found"] (defScope s_x_NoStand) := ⟨rfl, rfl, rfl, by decide +kernel, rfl, by decide +kernel, by decide +kernel⟩
section
variable {P : Program} {w : World} {K : PySem.W.Frag} {mg : Str → Option Value} {base : Heap}
theorem mk_x_NoStand (T : Txt K mg) {fd : FuncData} (F : FunD K "__init__" "NoStand.__init__" (defArgs s_x_NoStand) (defBody s_x_NoStand) (defScope s_x_NoStand) [] [] (He.ma K (He.ga K "NoStand") "__init__") fd) : CalleeX P w K mg base "NoStand" "found" :=
  ⟨fd, ["self", "found"], init_ok F sc_x_NoStand T.bvi_MostError T.gc_MostError rfl (fun _ _ _ _ _ _ => rfl) (Or.inl rfl) (Or.inl rfl) (by decide) (by decide) (by decide) (by decide) (by decide) (fun _ _ _ _ _ _ => ⟨_, rfl⟩), FunD.bindsN F fun _ _ _ _ _ _ us hl => match us, hl with | [_, _], _ => rfl⟩
end
/-! x_TooMany -/
theorem sc_x_TooMany : FnScope ["self", "count"] ["self", "count"] (defScope s_x_TooMany) := ⟨rfl, rfl, rfl, by decide +kernel, rfl, by decide +kernel, by decide +kernel⟩
section
variable {P : Program} {w : World} {K : PySem.W.Frag} {mg : Str → Option Value} {base : Heap}
theorem mk_x_TooMany (T : Txt K mg) {fd : FuncData} (F : FunD K "__init__" "TooMany.__init__" (defArgs s_x_TooMany) (defBody s_x_TooMany) (defScope s_x_TooMany) [] [] (He.ma K (He.ga K "TooMany") "__init__") fd) : CalleeX P w K mg base "TooMany" "count" :=
  ⟨fd, ["self", "count"], init_ok F sc_x_TooMany T.bvi_MostError T.gc_MostError rfl (fun _ _ _ _ _ _ => rfl) (Or.inl rfl) (Or.inl rfl) (by decide) (by decide) (by decide) (by decide) (by decide) (fun _ _ _ _ _ _ => ⟨_, rfl⟩), FunD.bindsN F fun _ _ _ _ _ _ us hl => match us, hl with | [_, _], _ => rfl⟩
end
/-! x_Ring -/
theorem sc_x_Ring : FnScope ["self", "chain"] ["self", "chain"] (defScope s_x_Ring) := ⟨rfl, rfl, rfl, by decide +kernel, rfl, by decide +kernel, by decide +kernel⟩
section
variable {P : Program} {w : World} {K : PySem.W.Frag} {mg : Str → Option Value} {base : Heap}
theorem mk_x_Ring (T : Txt K mg) {fd : FuncData} (F : FunD K "__init__" "Ring.__init__" (defArgs s_x_Ring) (defBody s_x_Ring) (defScope s_x_Ring) [] [] (He.ma K (He.ga K "Ring") "__init__") fd) : CalleeX P w K mg base "Ring" "chain" :=
  ⟨fd, ["self", "chain"], init_ok F sc_x_Ring T.bvi_MostError T.gc_MostError rfl (fun _ _ _ _ _ _ => rfl) (Or.inl rfl) (Or.inl rfl) (by decide) (by decide) (by decide) (by decide) (by decide) (fun _ _ _ _ _ _ => ⟨_, rfl⟩), FunD.bindsN F fun _ _ _ _ _ _ us hl => match us, hl with | [_, _], _ => rfl⟩
end
/-! x_NoTurn -/
theorem sc_x_NoTurn : FnScope ["self"] ["self"] (defScope s_x_NoTurn) := ⟨rfl, rfl, rfl, by decide +kernel, rfl, by decide +kernel, by decide +kernel⟩
section
variable {P : Program} {w : World} {K : PySem.W.Frag} {mg : Str → Option Value} {base : Heap}
theorem mk_x_NoTurn (T : Txt K mg) {fd : FuncData} (F : FunD K "__init__" "NoTurn.__init__" (defArgs s_x_NoTurn) (defBody s_x_NoTurn) (defScope s_x_NoTurn) [] [] (He.ma K (He.ga K "NoTurn") "__init__") fd) : CalleeXN P w K mg base "NoTurn" :=
  ⟨fd, ["self"], init_okN F sc_x_NoTurn T.bvi_MostError T.gc_MostError rfl (fun _ _ _ _ _ _ => rfl) (Or.inl rfl) (by decide) (by decide) (by decide) (fun _ _ _ _ _ _ => ⟨_, rfl⟩), FunD.bindsN F fun _ _ _ _ _ _ us hl => match us, hl with | [_], _ => rfl⟩
end
/-! law_errors -/
def m_law_errors_1 (v_count : Int) (v_chain : (List Str)) (v_some_1 : (List Ez)) : (List Ez) := (v_some_1 ++ [(Ez.TooMany v_count), (Ez.Ring v_chain), (Ez.NoTurn ())])
def k_law_errors_1 (v_count : Int) (v_chain : (List Str)) (v_some_1 : (List Ez)) : Prop := ((v_some_1).length + ([(Ez.TooMany v_count), (Ez.Ring v_chain), (Ez.NoTurn ())]).length ≤ big)
def m_law_errors_2 (v_thing : Dt) (v_count : Int) (v_chain : (List Str)) (v_some : (List Ez)) : (List Ez) := (m_law_errors_1 v_count v_chain (v_some ++ [(Ez.NoBeat v_thing), (Ez.StillOpen v_thing), (Ez.Decided v_thing), (Ez.NoStand v_thing)]))
def k_law_errors_2 (v_thing : Dt) (v_count : Int) (v_chain : (List Str)) (v_some : (List Ez)) : Prop := (((v_some).length + ([(Ez.NoBeat v_thing), (Ez.StillOpen v_thing), (Ez.Decided v_thing), (Ez.NoStand v_thing)]).length ≤ big) ∧ (k_law_errors_1 v_count v_chain (v_some ++ [(Ez.NoBeat v_thing), (Ez.StillOpen v_thing), (Ez.Decided v_thing), (Ez.NoStand v_thing)])))
def m_law_errors (v_thing : Dt) (v_count : Int) (v_chain : (List Str)) : (List Ez) := (m_law_errors_2 v_thing v_count v_chain ([(Ez.NoStatement v_thing), (Ez.NoRow v_thing), (Ez.NoThing v_thing), (Ez.Doubled v_thing), (Ez.NoLabel v_thing), (Ez.NoFact v_thing)]))
def k_law_errors (v_thing : Dt) (v_count : Int) (v_chain : (List Str)) : Prop := (k_law_errors_2 v_thing v_count v_chain ([(Ez.NoStatement v_thing), (Ez.NoRow v_thing), (Ez.NoThing v_thing), (Ez.Doubled v_thing), (Ez.NoLabel v_thing), (Ez.NoFact v_thing)]))
theorem sc_law_errors : FnScope ["_law_thing", "_law_count", "_law_chain", "_law_some"] ["_law_thing", "_law_count", "_law_chain"] (defScope s_law_errors) := ⟨rfl, rfl, rfl, by decide +kernel, rfl, by decide +kernel, by decide +kernel⟩
def r_law_errors : List Dt → Sum Cell Xc → Prop := fun ds a => ∃ (v_thing : Dt) (v_count : Int) (v_chain : (List Str)), k_law_errors v_thing v_count v_chain ∧ ds = [v_thing, (Dt.int v_count), (e3_list v_chain)] ∧ a = .inl (.fz (e4_list (m_law_errors v_thing v_count v_chain)))
section
variable {P : Program} {w : World} {K : PySem.W.Frag} {mg : Str → Option Value} {base : Heap}
theorem run_law_errors (T : Txt K mg) (c_x_Decided : CalleeX P w K mg base "Decided" "found") (c_x_Doubled : CalleeX P w K mg base "Doubled" "found") (c_x_NoBeat : CalleeX P w K mg base "NoBeat" "found") (c_x_NoFact : CalleeX P w K mg base "NoFact" "found") (c_x_NoLabel : CalleeX P w K mg base "NoLabel" "found") (c_x_NoRow : CalleeX P w K mg base "NoRow" "found") (c_x_NoStand : CalleeX P w K mg base "NoStand" "found") (c_x_NoStatement : CalleeX P w K mg base "NoStatement" "found") (c_x_NoThing : CalleeX P w K mg base "NoThing" "found") (c_x_NoTurn : CalleeXN P w K mg base "NoTurn") (c_x_Ring : CalleeX P w K mg base "Ring" "chain") (c_x_StillOpen : CalleeX P w K mg base "StillOpen" "found") (c_x_TooMany : CalleeX P w K mg base "TooMany" "count") {f : Addr} {cdv : Value} {A : Around} {outer : List PySem.Env} {s : Shared} {H : Hp} {E : XK} (hr : Room 2 (A.deeper (PyProof.Rows.envOfC "_law_errors" (defScope s_law_errors) s.heap.objs.size f cdv))) (v_thing : Dt) (v_count : Int) (v_chain : (List Str)) (hk : k_law_errors v_thing v_count v_chain) :
    Run (cxOf (L2.CX P w) P w K mg base ["_law_thing", "_law_count", "_law_chain", "_law_some"] "_law_errors" (defScope s_law_errors) f cdv A outer s H E) K (wE E) sv0 (defBody s_law_errors) (start0 ["_law_thing", "_law_count", "_law_chain", "_law_some"] [v_thing, (Dt.int v_count), (e3_list v_chain)]) (.rt (.fz (e4_list (m_law_errors v_thing v_count v_chain))) none) := by
  have h4 := hk
  refine run_asgE (i := 3) [(Ez.NoStatement v_thing), (Ez.NoRow v_thing), (Ez.NoThing v_thing), (Ez.Doubled v_thing), (Ez.NoLabel v_thing), (Ez.NoFact v_thing)] (fun v_some => .fz (e4_list v_some)) (fun _ => _) (fun v_some => [Zf v_thing, Zf (Dt.int v_count), Zf (e3_list v_chain), Zf (e4_list v_some)]) (fun v_some => .rt (.fz (e4_list (m_law_errors_2 v_thing v_count v_chain v_some))) none) (k_law_errors_2 v_thing v_count v_chain) (EX.ev (EN.frz (en_lst (ea_cons (ex_xnew T.xc_NoStatement c_x_NoStatement T.gc_NoStatement (fun _ => ⟨rfl, rfl, rfl, rfl, rfl⟩) (fun _ => hr.mono (by decide)) (fun _ => rfl) (xv 0 rfl)) (ea_cons (ex_xnew T.xc_NoRow c_x_NoRow T.gc_NoRow (fun _ => ⟨rfl, rfl, rfl, rfl, rfl⟩) (fun _ => hr.mono (by decide)) (fun _ => rfl) (xv 0 rfl)) (ea_cons (ex_xnew T.xc_NoThing c_x_NoThing T.gc_NoThing (fun _ => ⟨rfl, rfl, rfl, rfl, rfl⟩) (fun _ => hr.mono (by decide)) (fun _ => rfl) (xv 0 rfl)) (ea_cons (ex_xnew T.xc_Doubled c_x_Doubled T.gc_Doubled (fun _ => ⟨rfl, rfl, rfl, rfl, rfl⟩) (fun _ => hr.mono (by decide)) (fun _ => rfl) (xv 0 rfl)) (ea_cons (ex_xnew T.xc_NoLabel c_x_NoLabel T.gc_NoLabel (fun _ => ⟨rfl, rfl, rfl, rfl, rfl⟩) (fun _ => hr.mono (by decide)) (fun _ => rfl) (xv 0 rfl)) (ea_cons (ex_xnew T.xc_NoFact c_x_NoFact T.gc_NoFact (fun _ => ⟨rfl, rfl, rfl, rfl, rfl⟩) (fun _ => hr.mono (by decide)) (fun _ => rfl) (xv 0 rfl)) ea_nil)))))) (Nat.le_of_ble_eq_true rfl)) rfl)) h4 sc_law_errors.nd (fun _ => rfl) (fun v_some hk => ?_)
  obtain ⟨h2, h3⟩ := hk
  refine run_asgE (i := 3) (v_some ++ [(Ez.NoBeat v_thing), (Ez.StillOpen v_thing), (Ez.Decided v_thing), (Ez.NoStand v_thing)]) (fun v_some_1 => .fz (e4_list v_some_1)) (fun _ => _) (fun v_some_1 => [Zf v_thing, Zf (Dt.int v_count), Zf (e3_list v_chain), Zf (e4_list v_some_1)]) (fun v_some_1 => .rt (.fz (e4_list (m_law_errors_1 v_count v_chain v_some_1))) none) (k_law_errors_1 v_count v_chain) (EX.ev (EN.frz (x_catL enc_Ez (xv 3 rfl) (EN.frz (en_lst (ea_cons (ex_xnew T.xc_NoBeat c_x_NoBeat T.gc_NoBeat (fun _ => ⟨rfl, rfl, rfl, rfl, rfl⟩) (fun _ => hr.mono (by decide)) (fun _ => rfl) (xv 0 rfl)) (ea_cons (ex_xnew T.xc_StillOpen c_x_StillOpen T.gc_StillOpen (fun _ => ⟨rfl, rfl, rfl, rfl, rfl⟩) (fun _ => hr.mono (by decide)) (fun _ => rfl) (xv 0 rfl)) (ea_cons (ex_xnew T.xc_Decided c_x_Decided T.gc_Decided (fun _ => ⟨rfl, rfl, rfl, rfl, rfl⟩) (fun _ => hr.mono (by decide)) (fun _ => rfl) (xv 0 rfl)) (ea_cons (ex_xnew T.xc_NoStand c_x_NoStand T.gc_NoStand (fun _ => ⟨rfl, rfl, rfl, rfl, rfl⟩) (fun _ => hr.mono (by decide)) (fun _ => rfl) (xv 0 rfl)) ea_nil)))) (Nat.le_of_ble_eq_true rfl)) rfl) h2) rfl)) h3 sc_law_errors.nd (fun _ => rfl) (fun v_some_1 hk => ?_)
  have h1 := hk
  exact run_ret (EN.frz (x_catL enc_Ez (xv 3 rfl) (EN.frz (en_lst (ea_cons (ex_xnew T.xc_TooMany c_x_TooMany T.gc_TooMany (fun _ => ⟨rfl, rfl, rfl, rfl, rfl⟩) (fun _ => hr.mono (by decide)) (fun _ => rfl) (xv 1 rfl)) (ea_cons (ex_xnew T.xc_Ring c_x_Ring T.gc_Ring (fun _ => ⟨rfl, rfl, rfl, rfl, rfl⟩) (fun _ => hr.mono (by decide)) (fun _ => rfl) (xv 2 rfl)) (ea_cons (ex_xnewN T.xc_NoTurn c_x_NoTurn T.gc_NoTurn (fun _ => ⟨rfl, rfl, rfl, rfl, rfl⟩) (fun _ => hr.mono (by decide)) (fun _ => rfl)) ea_nil))) (Nat.le_of_ble_eq_true rfl)) rfl) h1) rfl)
theorem ok_law_errors (T : Txt K mg) (c_x_Decided : CalleeX P w K mg base "Decided" "found") (c_x_Doubled : CalleeX P w K mg base "Doubled" "found") (c_x_NoBeat : CalleeX P w K mg base "NoBeat" "found") (c_x_NoFact : CalleeX P w K mg base "NoFact" "found") (c_x_NoLabel : CalleeX P w K mg base "NoLabel" "found") (c_x_NoRow : CalleeX P w K mg base "NoRow" "found") (c_x_NoStand : CalleeX P w K mg base "NoStand" "found") (c_x_NoStatement : CalleeX P w K mg base "NoStatement" "found") (c_x_NoThing : CalleeX P w K mg base "NoThing" "found") (c_x_NoTurn : CalleeXN P w K mg base "NoTurn") (c_x_Ring : CalleeX P w K mg base "Ring" "chain") (c_x_StillOpen : CalleeX P w K mg base "StillOpen" "found") (c_x_TooMany : CalleeX P w K mg base "TooMany" "count") {f : Addr} {fd : FuncData} (F : FunD K "_law_errors" "_law_errors" (defArgs s_law_errors) (defBody s_law_errors) (defScope s_law_errors) [] [] f fd) : FnOk P w K mg base (L2.CX P w) 3 f fd ["_law_thing", "_law_count", "_law_chain"] (spR K 3 r_law_errors) :=
  fnOk_mk F sc_law_errors (fun cdv A outer s H E ds a hr hR hn => by
    obtain ⟨v_thing, v_count, v_chain, hk, rfl, rfl⟩ := hR
    exact ⟨_, .rt _, run_law_errors T c_x_Decided c_x_Doubled c_x_NoBeat c_x_NoFact c_x_NoLabel c_x_NoRow c_x_NoStand c_x_NoStatement c_x_NoThing c_x_NoTurn c_x_Ring c_x_StillOpen c_x_TooMany hr v_thing v_count v_chain hk⟩)
theorem mk_law_errors (T : Txt K mg) (c_x_Decided : CalleeX P w K mg base "Decided" "found") (c_x_Doubled : CalleeX P w K mg base "Doubled" "found") (c_x_NoBeat : CalleeX P w K mg base "NoBeat" "found") (c_x_NoFact : CalleeX P w K mg base "NoFact" "found") (c_x_NoLabel : CalleeX P w K mg base "NoLabel" "found") (c_x_NoRow : CalleeX P w K mg base "NoRow" "found") (c_x_NoStand : CalleeX P w K mg base "NoStand" "found") (c_x_NoStatement : CalleeX P w K mg base "NoStatement" "found") (c_x_NoThing : CalleeX P w K mg base "NoThing" "found") (c_x_NoTurn : CalleeXN P w K mg base "NoTurn") (c_x_Ring : CalleeX P w K mg base "Ring" "chain") (c_x_StillOpen : CalleeX P w K mg base "StillOpen" "found") (c_x_TooMany : CalleeX P w K mg base "TooMany" "count") {f : Addr} {fd : FuncData} (F : FunD K "_law_errors" "_law_errors" (defArgs s_law_errors) (defBody s_law_errors) (defScope s_law_errors) [] [] f fd) {x : Str} (gf : mg x = some (.ref f)) : Callee P w K mg base x 3 3 r_law_errors :=
  ⟨f, fd, ["_law_thing", "_law_count", "_law_chain"], ok_law_errors T c_x_Decided c_x_Doubled c_x_NoBeat c_x_NoFact c_x_NoLabel c_x_NoRow c_x_NoStand c_x_NoStatement c_x_NoThing c_x_NoTurn c_x_Ring c_x_StillOpen c_x_TooMany F, gf, F.kp, FunD.bindsN F fun _ _ _ _ _ _ us hl => match us, hl with | [_, _, _], _ => rfl⟩
end
/-! law_kinds -/
def m_law_kinds_1 (v_one : Ez) (v_some_2 : (List Bool)) : (List Bool) := (v_some_2 ++ [(ib_Ez_TooMany v_one), (ib_Ez_Ring v_one), (ib_Ez_NoTurn v_one)])
def k_law_kinds_1 (v_one : Ez) (v_some_2 : (List Bool)) : Prop := ((v_some_2).length + ([(ib_Ez_TooMany v_one), (ib_Ez_Ring v_one), (ib_Ez_NoTurn v_one)]).length ≤ big)
def m_law_kinds_2 (v_one : Ez) (v_some_1 : (List Bool)) : (List Bool) := (m_law_kinds_1 v_one (v_some_1 ++ [(ib_Ez_StillOpen v_one), (ib_Ez_Decided v_one), (ib_Ez_NoStand v_one)]))
def k_law_kinds_2 (v_one : Ez) (v_some_1 : (List Bool)) : Prop := (((v_some_1).length + ([(ib_Ez_StillOpen v_one), (ib_Ez_Decided v_one), (ib_Ez_NoStand v_one)]).length ≤ big) ∧ (k_law_kinds_1 v_one (v_some_1 ++ [(ib_Ez_StillOpen v_one), (ib_Ez_Decided v_one), (ib_Ez_NoStand v_one)])))
def m_law_kinds_3 (v_one : Ez) (v_some : (List Bool)) : (List Bool) := (m_law_kinds_2 v_one (v_some ++ [(ib_Ez_NoLabel v_one), (ib_Ez_NoFact v_one), (ib_Ez_NoBeat v_one)]))
def k_law_kinds_3 (v_one : Ez) (v_some : (List Bool)) : Prop := (((v_some).length + ([(ib_Ez_NoLabel v_one), (ib_Ez_NoFact v_one), (ib_Ez_NoBeat v_one)]).length ≤ big) ∧ (k_law_kinds_2 v_one (v_some ++ [(ib_Ez_NoLabel v_one), (ib_Ez_NoFact v_one), (ib_Ez_NoBeat v_one)])))
def m_law_kinds (v_one : Ez) : (List Bool) := (m_law_kinds_3 v_one ([(ib_Ez_NoStatement v_one), (ib_Ez_NoRow v_one), (ib_Ez_NoThing v_one), (ib_Ez_Doubled v_one)]))
def k_law_kinds (v_one : Ez) : Prop := (k_law_kinds_3 v_one ([(ib_Ez_NoStatement v_one), (ib_Ez_NoRow v_one), (ib_Ez_NoThing v_one), (ib_Ez_Doubled v_one)]))
theorem sc_law_kinds : FnScope ["_law_one", "_law_some"] ["_law_one"] (defScope s_law_kinds) := ⟨rfl, rfl, rfl, by decide +kernel, rfl, by decide +kernel, by decide +kernel⟩
def r_law_kinds : List Dt → Sum Cell Xc → Prop := fun ds a => ∃ (v_one : Ez), k_law_kinds v_one ∧ ds = [(enc_Ez v_one)] ∧ a = .inl (.fz (e5_list (m_law_kinds v_one)))
section
variable {P : Program} {w : World} {K : PySem.W.Frag} {mg : Str → Option Value} {base : Heap}
theorem run_law_kinds (T : Txt K mg)  {f : Addr} {cdv : Value} {A : Around} {outer : List PySem.Env} {s : Shared} {H : Hp} {E : XK} (hr : Room 0 (A.deeper (PyProof.Rows.envOfC "_law_kinds" (defScope s_law_kinds) s.heap.objs.size f cdv))) (v_one : Ez) (hk : k_law_kinds v_one) :
    Run (cxOf (L2.CX P w) P w K mg base ["_law_one", "_law_some"] "_law_kinds" (defScope s_law_kinds) f cdv A outer s H E) K (wE E) sv0 (defBody s_law_kinds) (start0 ["_law_one", "_law_some"] [(enc_Ez v_one)]) (.rt (.fz (e5_list (m_law_kinds v_one))) none) := by
  have h6 := hk
  refine run_asgE (i := 1) [(ib_Ez_NoStatement v_one), (ib_Ez_NoRow v_one), (ib_Ez_NoThing v_one), (ib_Ez_Doubled v_one)] (fun v_some => .fz (e5_list v_some)) (fun _ => _) (fun v_some => [Zf (enc_Ez v_one), Zf (e5_list v_some)]) (fun v_some => .rt (.fz (e5_list (m_law_kinds_3 v_one v_some))) none) (k_law_kinds_3 v_one) (EX.ev (EN.frz (en_lst (ea_cons (ex_isXc (fun _ => rfl) (xk_of T _) (xi_NoStatement T _) (xv 0 rfl) (fun _ => rfl) (fun _ => T.n_isinstance) (fun _ => rfl) (fun _ => T.gc_NoStatement)) (ea_cons (ex_isXc (fun _ => rfl) (xk_of T _) (xi_NoRow T _) (xv 0 rfl) (fun _ => rfl) (fun _ => T.n_isinstance) (fun _ => rfl) (fun _ => T.gc_NoRow)) (ea_cons (ex_isXc (fun _ => rfl) (xk_of T _) (xi_NoThing T _) (xv 0 rfl) (fun _ => rfl) (fun _ => T.n_isinstance) (fun _ => rfl) (fun _ => T.gc_NoThing)) (ea_cons (ex_isXc (fun _ => rfl) (xk_of T _) (xi_Doubled T _) (xv 0 rfl) (fun _ => rfl) (fun _ => T.n_isinstance) (fun _ => rfl) (fun _ => T.gc_Doubled)) ea_nil)))) (Nat.le_of_ble_eq_true rfl)) rfl)) h6 sc_law_kinds.nd (fun _ => rfl) (fun v_some hk => ?_)
  obtain ⟨h4, h5⟩ := hk
  refine run_asgE (i := 1) (v_some ++ [(ib_Ez_NoLabel v_one), (ib_Ez_NoFact v_one), (ib_Ez_NoBeat v_one)]) (fun v_some_1 => .fz (e5_list v_some_1)) (fun _ => _) (fun v_some_1 => [Zf (enc_Ez v_one), Zf (e5_list v_some_1)]) (fun v_some_1 => .rt (.fz (e5_list (m_law_kinds_2 v_one v_some_1))) none) (k_law_kinds_2 v_one) (EX.ev (EN.frz (x_catL Dt.bl (xv 1 rfl) (EN.frz (en_lst (ea_cons (ex_isXc (fun _ => rfl) (xk_of T _) (xi_NoLabel T _) (xv 0 rfl) (fun _ => rfl) (fun _ => T.n_isinstance) (fun _ => rfl) (fun _ => T.gc_NoLabel)) (ea_cons (ex_isXc (fun _ => rfl) (xk_of T _) (xi_NoFact T _) (xv 0 rfl) (fun _ => rfl) (fun _ => T.n_isinstance) (fun _ => rfl) (fun _ => T.gc_NoFact)) (ea_cons (ex_isXc (fun _ => rfl) (xk_of T _) (xi_NoBeat T _) (xv 0 rfl) (fun _ => rfl) (fun _ => T.n_isinstance) (fun _ => rfl) (fun _ => T.gc_NoBeat)) ea_nil))) (Nat.le_of_ble_eq_true rfl)) rfl) h4) rfl)) h5 sc_law_kinds.nd (fun _ => rfl) (fun v_some_1 hk => ?_)
  obtain ⟨h2, h3⟩ := hk
  refine run_asgE (i := 1) (v_some_1 ++ [(ib_Ez_StillOpen v_one), (ib_Ez_Decided v_one), (ib_Ez_NoStand v_one)]) (fun v_some_2 => .fz (e5_list v_some_2)) (fun _ => _) (fun v_some_2 => [Zf (enc_Ez v_one), Zf (e5_list v_some_2)]) (fun v_some_2 => .rt (.fz (e5_list (m_law_kinds_1 v_one v_some_2))) none) (k_law_kinds_1 v_one) (EX.ev (EN.frz (x_catL Dt.bl (xv 1 rfl) (EN.frz (en_lst (ea_cons (ex_isXc (fun _ => rfl) (xk_of T _) (xi_StillOpen T _) (xv 0 rfl) (fun _ => rfl) (fun _ => T.n_isinstance) (fun _ => rfl) (fun _ => T.gc_StillOpen)) (ea_cons (ex_isXc (fun _ => rfl) (xk_of T _) (xi_Decided T _) (xv 0 rfl) (fun _ => rfl) (fun _ => T.n_isinstance) (fun _ => rfl) (fun _ => T.gc_Decided)) (ea_cons (ex_isXc (fun _ => rfl) (xk_of T _) (xi_NoStand T _) (xv 0 rfl) (fun _ => rfl) (fun _ => T.n_isinstance) (fun _ => rfl) (fun _ => T.gc_NoStand)) ea_nil))) (Nat.le_of_ble_eq_true rfl)) rfl) h2) rfl)) h3 sc_law_kinds.nd (fun _ => rfl) (fun v_some_2 hk => ?_)
  have h1 := hk
  exact run_ret (EN.frz (x_catL Dt.bl (xv 1 rfl) (EN.frz (en_lst (ea_cons (ex_isXc (fun _ => rfl) (xk_of T _) (xi_TooMany T _) (xv 0 rfl) (fun _ => rfl) (fun _ => T.n_isinstance) (fun _ => rfl) (fun _ => T.gc_TooMany)) (ea_cons (ex_isXc (fun _ => rfl) (xk_of T _) (xi_Ring T _) (xv 0 rfl) (fun _ => rfl) (fun _ => T.n_isinstance) (fun _ => rfl) (fun _ => T.gc_Ring)) (ea_cons (ex_isXc (fun _ => rfl) (xk_of T _) (xi_NoTurn T _) (xv 0 rfl) (fun _ => rfl) (fun _ => T.n_isinstance) (fun _ => rfl) (fun _ => T.gc_NoTurn)) ea_nil))) (Nat.le_of_ble_eq_true rfl)) rfl) h1) rfl)
theorem ok_law_kinds (T : Txt K mg)  {f : Addr} {fd : FuncData} (F : FunD K "_law_kinds" "_law_kinds" (defArgs s_law_kinds) (defBody s_law_kinds) (defScope s_law_kinds) [] [] f fd) : FnOk P w K mg base (L2.CX P w) 1 f fd ["_law_one"] (spR K 1 r_law_kinds) :=
  fnOk_mk F sc_law_kinds (fun cdv A outer s H E ds a hr hR hn => by
    obtain ⟨v_one, hk, rfl, rfl⟩ := hR
    exact ⟨_, .rt _, run_law_kinds T  hr v_one hk⟩)
theorem mk_law_kinds (T : Txt K mg)  {f : Addr} {fd : FuncData} (F : FunD K "_law_kinds" "_law_kinds" (defArgs s_law_kinds) (defBody s_law_kinds) (defScope s_law_kinds) [] [] f fd) {x : Str} (gf : mg x = some (.ref f)) : Callee P w K mg base x 1 1 r_law_kinds :=
  ⟨f, fd, ["_law_one"], ok_law_kinds T  F, gf, F.kp, FunD.bindsN F fun _ _ _ _ _ _ us hl => match us, hl with | [_], _ => rfl⟩
end
/-! law -/
def m_law_1  (v_text : Str) : (Step (Str) Bool) := (.nx v_text)
def m_law_2 (v_cell_here : Int) (v_st : (Str)) (v_it : Nat) : Step (Str) Bool := (m_law_1 (v_st ++ (sgn (Str.ofString "abcdefghijklmnopqrstuvwxyz0123456789 -(),") ((m_law_mixed v_cell_here (((2 : Int) + (v_it : Int)))) % (41 : Int)))))
def k_law_2 (v_cell_here : Int) (v_st : (Str)) (v_it : Nat) : Prop := ((k_law_mixed v_cell_here (((2 : Int) + (v_it : Int)))) ∧ ((atI ((Str.ofString "abcdefghijklmnopqrstuvwxyz0123456789 -(),")).cps.toList ((m_law_mixed v_cell_here (((2 : Int) + (v_it : Int)))) % (41 : Int))).isSome = true) ∧ ((v_st).length + ((sgn (Str.ofString "abcdefghijklmnopqrstuvwxyz0123456789 -(),") ((m_law_mixed v_cell_here (((2 : Int) + (v_it : Int)))) % (41 : Int)))).length ≤ bigS))
def m_law_3  (v_st_2 : (Unit)) (v_it_2 : (Nat × Ez)) : Step (Unit) Bool := (cond ((!(ib_Ez_MostError v_it_2.2)) || (!(ib_Ez_ValueError v_it_2.2))) (.fin false) (cond (!((m_law_kinds v_it_2.2) == (List.map (fun v_item : Nat => ((v_item : Int) == (v_it_2.1 : Int))) (List.range (Int.toNat (13 : Int)))))) (.fin false) (.nx ())))
def k_law_3  (v_st_2 : (Unit)) (v_it_2 : (Nat × Ez)) : Prop := (((!(ib_Ez_MostError v_it_2.2)) || (!(ib_Ez_ValueError v_it_2.2))) = false → ((k_law_kinds v_it_2.2) ∧ (rngOk (13 : Int)) ∧ (((List.range (Int.toNat (13 : Int)))).length ≤ big)))
def m_law_4 (v_number : Int) (v_chain : (List Str)) (v_it_1 : Dt) (v_some : (List Ez)) (v_st_2 : (Unit)) : (Step (Unit) Bool) := (cond ((!((xf_count (itm v_some (10 : Int))) == v_number)) || (!((xf_chain (itm v_some (11 : Int))) == v_chain))) (.fin false) (.nx ()))
def k_law_4 (v_number : Int) (v_chain : (List Str)) (v_it_1 : Dt) (v_some : (List Ez)) (v_st_2 : (Unit)) : Prop := ((((cut v_some none (some (10 : Int)))).length ≤ big) ∧ (∀ v_item_2 ∈ (cut v_some none (some (10 : Int))), (xh_found v_item_2 = true)) ∧ (repOk [v_it_1] (10 : Int)) ∧ ((List.map (fun v_item_2 : Ez => (xf_found v_item_2)) (cut v_some none (some (10 : Int)))) = (repL [v_it_1] (10 : Int))) ∧ (dynL (repL [v_it_1] (10 : Int)) = true) ∧ ((inI v_some (10 : Int) = true) ∧ (xh_count (itm v_some (10 : Int)) = true) ∧ ((!((xf_count (itm v_some (10 : Int))) == v_number)) = false → ((inI v_some (11 : Int) = true) ∧ (xh_chain (itm v_some (11 : Int)) = true)))))
def m_law_5 (v_number : Int) (v_chain : (List Str)) (v_it_1 : Dt) (v_some : (List Ez)) : (Step (Unit) Bool) := (loop (m_law_3) (fun y => Step.fin y) (m_law_4 v_number v_chain v_it_1 v_some) (enum v_some) ())
def k_law_5 (v_number : Int) (v_chain : (List Str)) (v_it_1 : Dt) (v_some : (List Ez)) : Prop := (LoopAll (k_law_3) (k_law_4 v_number v_chain v_it_1 v_some) (m_law_3) (enum v_some) ())
def m_law_6 (v_number : Int) (v_chain : (List Str)) (v_st_1 : (Unit)) (v_it_1 : Dt) : Step (Unit) Bool := (m_law_5 v_number v_chain v_it_1 (m_law_errors v_it_1 v_number v_chain))
def k_law_6 (v_number : Int) (v_chain : (List Str)) (v_st_1 : (Unit)) (v_it_1 : Dt) : Prop := ((k_law_errors v_it_1 v_number v_chain) ∧ (k_law_5 v_number v_chain v_it_1 (m_law_errors v_it_1 v_number v_chain)))
def m_law_7  (v_st_1 : (Unit)) : Bool := true
def m_law_8 (v_st : (Str)) (v_number : Int) (v_chain : (List Str)) : Bool := (loop (m_law_6 v_number v_chain) (fun y => y) (m_law_7) [(Dt.str v_st), (Dt.int v_number), (e1_tup (v_st, (v_st ++ (Str.ofString "x")))), (e2_list [(Dt.str v_st), (Dt.int v_number)]), Dt.non] ())
def k_law_8 (v_st : (Str)) (v_number : Int) (v_chain : (List Str)) : Prop := (((v_st).length + ((Str.ofString "x")).length ≤ bigS) ∧ (LoopAll (k_law_6 v_number v_chain) (fun _ => True) (m_law_6 v_number v_chain) [(Dt.str v_st), (Dt.int v_number), (e1_tup (v_st, (v_st ++ (Str.ofString "x")))), (e2_list [(Dt.str v_st), (Dt.int v_number)]), Dt.non] ()))
def m_law_9 (v_cell_here : Int) (v_st : (Str)) (v_number : Int) : Bool := (m_law_8 v_st v_number (cut [v_st, (v_st ++ (Str.ofString "a")), (v_st ++ (Str.ofString "b"))] none (some ((m_law_mixed v_cell_here ((20 : Int))) % (4 : Int)))))
def k_law_9 (v_cell_here : Int) (v_st : (Str)) (v_number : Int) : Prop := (((v_st).length + ((Str.ofString "a")).length ≤ bigS) ∧ ((v_st).length + ((Str.ofString "b")).length ≤ bigS) ∧ (k_law_mixed v_cell_here ((20 : Int))) ∧ (k_law_8 v_st v_number (cut [v_st, (v_st ++ (Str.ofString "a")), (v_st ++ (Str.ofString "b"))] none (some ((m_law_mixed v_cell_here ((20 : Int))) % (4 : Int))))))
def m_law_10 (v_script : (List Int)) (v_cell_here : Int) (v_st : (Str)) : Bool := (m_law_9 v_cell_here v_st ((m_law_cell v_script ((1 : Int))) % ((10 : Int) ^ Int.toNat (30 : Int))))
def k_law_10 (v_script : (List Int)) (v_cell_here : Int) (v_st : (Str)) : Prop := ((k_law_cell v_script ((1 : Int))) ∧ (k_law_9 v_cell_here v_st ((m_law_cell v_script ((1 : Int))) % ((10 : Int) ^ Int.toNat (30 : Int)))))
def m_law_11 (v_script : (List Int)) (v_cell_here : Int) : Bool := (loop (m_law_2 v_cell_here) (fun y => y) (m_law_10 v_script v_cell_here) (List.range (Int.toNat ((m_law_mixed v_cell_here ((1 : Int))) % (12 : Int)))) (Str.ofString ""))
def k_law_11 (v_script : (List Int)) (v_cell_here : Int) : Prop := ((k_law_mixed v_cell_here ((1 : Int))) ∧ (rngOk ((m_law_mixed v_cell_here ((1 : Int))) % (12 : Int))) ∧ (LoopAll (k_law_2 v_cell_here) (k_law_10 v_script v_cell_here) (m_law_2 v_cell_here) (List.range (Int.toNat ((m_law_mixed v_cell_here ((1 : Int))) % (12 : Int)))) (Str.ofString "")))
def m_law (v_script : (List Int)) : Bool := (m_law_11 v_script (m_law_cell v_script ((0 : Int))))
def k_law (v_script : (List Int)) : Prop := ((k_law_cell v_script ((0 : Int))) ∧ (k_law_11 v_script (m_law_cell v_script ((0 : Int)))))
theorem sc_law : FnScope ["_law_script", "_law_cell_here", "_law_text", "_law_k", "_law_number", "_law_chain", "_law_thing", "_law_some", "_law_one", "_law_j"] ["_law_script"] (defScope s_law) := ⟨rfl, rfl, rfl, by decide +kernel, rfl, by decide +kernel, by decide +kernel⟩
def r_law : List Dt → Sum Cell Xc → Prop := fun ds a => ∃ (v_script : (List Int)), k_law v_script ∧ ds = [(e0_scr v_script)] ∧ a = .inl (.fz (Dt.bl (m_law v_script)))
section
variable {P : Program} {w : World} {K : PySem.W.Frag} {mg : Str → Option Value} {base : Heap}
theorem run_law (T : Txt K mg) (c_law_cell : Callee P w K mg base "_law_cell" 1 2 r_law_cell) (c_law_errors : Callee P w K mg base "_law_errors" 3 3 r_law_errors) (c_law_kinds : Callee P w K mg base "_law_kinds" 1 1 r_law_kinds) (c_law_mixed : Callee P w K mg base "_law_mixed" 1 2 r_law_mixed) {f : Addr} {cdv : Value} {A : Around} {outer : List PySem.Env} {s : Shared} {H : Hp} {E : XK} (hr : Room 3 (A.deeper (PyProof.Rows.envOfC "law" (defScope s_law) s.heap.objs.size f cdv))) (v_script : (List Int)) (hk : k_law v_script) :
    Run (cxOf (L2.CX P w) P w K mg base ["_law_script", "_law_cell_here", "_law_text", "_law_k", "_law_number", "_law_chain", "_law_thing", "_law_some", "_law_one", "_law_j"] "law" (defScope s_law) f cdv A outer s H E) K (wE E) sv0 (defBody s_law) (start0 ["_law_script", "_law_cell_here", "_law_text", "_law_k", "_law_number", "_law_chain", "_law_thing", "_law_some", "_law_one", "_law_j"] [(e0_scr v_script)]) (.rt (.fz (Dt.bl (m_law v_script))) none) := by
  obtain ⟨h34, h35⟩ := hk
  refine run_asgE (i := 1) (m_law_cell v_script ((0 : Int))) (fun v_cell_here => .fz (Dt.int v_cell_here)) (fun _ => _) (fun v_cell_here => [Zf (e0_scr v_script), Zf (Dt.int v_cell_here), none, none, none, none, none, none, none, none]) (fun v_cell_here => .rt (.fz (Dt.bl (m_law_11 v_script v_cell_here))) none) (k_law_11 v_script) (EX.ev (ex_call c_law_cell (fun _ => ⟨rfl, rfl, rfl, rfl, rfl⟩) (fun _ => hr.mono (by decide)) (fun _ => rfl) (ea_cons (xv 0 rfl) (ea_cons ex_int ea_nil)) rfl ⟨v_script, (0 : Int), h34, rfl, rfl⟩)) h35 sc_law.nd (fun _ => rfl) (fun v_cell_here hk => ?_)
  have h33 := hk
  refine run_asgQ (i := 2) (Gk := [Zf (e0_scr v_script), Zf (Dt.int v_cell_here), Zf (Dt.str (Str.ofString "")), none, none, none, none, none, none, none]) (EX.ev (ex_str (h := by decide +kernel))) sc_law.nd rfl ?_
  have hk := h33
  obtain ⟨h30, h31, h32⟩ := hk
  refine run_forQ (js := [3]) (P := (k_law_2 v_cell_here)) (Q := (k_law_10 v_script v_cell_here)) (s0 := (Str.ofString "")) (fun i : Nat => Dt.int (i : Int)) (fun v_st : (Str) => [Zf (e0_scr v_script), Zf (Dt.int v_cell_here), Zf (Dt.str v_st), none, none, none, none, none, none, none]) (fun (v_st : (Str)) (v_it : Nat) => [Zf (e0_scr v_script), Zf (Dt.int v_cell_here), Zf (Dt.str v_st), Zf (Dt.int (v_it : Int)), none, none, none, none, none, none]) (fun x : Bool => Out.rt (.fz (Dt.bl x)) none) (m_law_2 v_cell_here) (fun y => y) (m_law_10 v_script v_cell_here) (passes_of rfl) rfl (pg_name (i := 3) sc_law.nd rfl (by first | exact Or.inl rfl | exact Or.inr rfl)) rfl (fun _ => trivial) (src_range1 (fun _ => rfl) (fun _ => T.n_range) (ex_mod (ex_call c_law_mixed (fun _ => ⟨rfl, rfl, rfl, rfl, rfl⟩) (fun _ => hr.mono (by decide)) (fun _ => rfl) (ea_cons (xv 1 rfl) (ea_cons ex_int ea_nil)) rfl ⟨v_cell_here, (1 : Int), h30, rfl, rfl⟩) ex_int (by decide)) h31.1 h31.2) (.keep (.keep (.keep (.keep (.keep (.keep (.keep (.keep (.keep (.keep .nil)))))))))) (fun _ _ => (bd_name (Nat.blt_eq.mp rfl))) h32 (fun v_st v_it hm hk => ?_) (fun v_st hk => ?_)
  · obtain ⟨h1, h2, h3⟩ := hk
    refine run_asgE (i := 2) (v_st ++ (sgn (Str.ofString "abcdefghijklmnopqrstuvwxyz0123456789 -(),") ((m_law_mixed v_cell_here (((2 : Int) + (v_it : Int)))) % (41 : Int)))) (fun v_text => .fz (Dt.str v_text)) (fun _ => _) (fun v_text => [Zf (e0_scr v_script), Zf (Dt.int v_cell_here), Zf (Dt.str v_text), Zf (Dt.int (v_it : Int)), none, none, none, none, none, none]) (fun v_text => (Step.out (fun v_st : (Str) => [Zf (e0_scr v_script), Zf (Dt.int v_cell_here), Zf (Dt.str v_st), none, none, none, none, none, none, none]) (fun x : Bool => Out.rt (.fz (Dt.bl x)) none) (m_law_1 v_text))) (fun _ => True) (EX.ev (ex_cat (xv 2 rfl) (x_ixS (ex_str (h := by decide +kernel)) (ex_mod (ex_call c_law_mixed (fun _ => ⟨rfl, rfl, rfl, rfl, rfl⟩) (fun _ => hr.mono (by decide)) (fun _ => rfl) (ea_cons (xv 1 rfl) (ea_cons (ex_add ex_int (xv 3 rfl)) ea_nil)) rfl ⟨v_cell_here, ((2 : Int) + (v_it : Int)), h1, rfl, rfl⟩) ex_int (by decide)) h2) h3)) trivial sc_law.nd (fun _ => rfl) (fun v_text _ => ?_)
    exact run_end (.keep (.keep (.keep (.drop (.keep (.keep (.keep (.keep (.keep (.keep .nil))))))))))
  · obtain ⟨h28, h29⟩ := hk
    refine run_asgE (i := 4) ((m_law_cell v_script ((1 : Int))) % ((10 : Int) ^ Int.toNat (30 : Int))) (fun v_number => .fz (Dt.int v_number)) (fun _ => _) (fun v_number => [Zf (e0_scr v_script), Zf (Dt.int v_cell_here), Zf (Dt.str v_st), none, Zf (Dt.int v_number), none, none, none, none, none]) (fun v_number => .rt (.fz (Dt.bl (m_law_9 v_cell_here v_st v_number))) none) (k_law_9 v_cell_here v_st) (EX.ev (ex_mod (ex_call c_law_cell (fun _ => ⟨rfl, rfl, rfl, rfl, rfl⟩) (fun _ => hr.mono (by decide)) (fun _ => rfl) (ea_cons (xv 0 rfl) (ea_cons ex_int ea_nil)) rfl ⟨v_script, (1 : Int), h28, rfl, rfl⟩) (ex_pow ex_int ex_int ⟨by decide, by decide, by decide⟩) (by decide))) h29 sc_law.nd (fun _ => rfl) (fun v_number hk => ?_)
    obtain ⟨h24, h25, h26, h27⟩ := hk
    refine run_asgE (i := 5) (cut [v_st, (v_st ++ (Str.ofString "a")), (v_st ++ (Str.ofString "b"))] none (some ((m_law_mixed v_cell_here ((20 : Int))) % (4 : Int)))) (fun v_chain => .fz (e3_list v_chain)) (fun _ => _) (fun v_chain => [Zf (e0_scr v_script), Zf (Dt.int v_cell_here), Zf (Dt.str v_st), none, Zf (Dt.int v_number), Zf (e3_list v_chain), none, none, none, none]) (fun v_chain => .rt (.fz (Dt.bl (m_law_8 v_st v_number v_chain))) none) (k_law_8 v_st v_number) (EX.ev (EN.frz (x_sliceL Dt.str (fun _ => rfl) (EN.es (en_lst (ea_cons (xv 2 rfl) (ea_cons (ex_cat (xv 2 rfl) (ex_str (h := by decide +kernel)) h24) (ea_cons (ex_cat (xv 2 rfl) (ex_str (h := by decide +kernel)) h25) ea_nil))) (Nat.le_of_ble_eq_true rfl))) eo_none (eo_some (ex_mod (ex_call c_law_mixed (fun _ => ⟨rfl, rfl, rfl, rfl, rfl⟩) (fun _ => hr.mono (by decide)) (fun _ => rfl) (ea_cons (xv 1 rfl) (ea_cons ex_int ea_nil)) rfl ⟨v_cell_here, (20 : Int), h26, rfl, rfl⟩) ex_int (by decide)))) rfl)) h27 sc_law.nd (fun _ => rfl) (fun v_chain hk => ?_)
    obtain ⟨h22, h23⟩ := hk
    refine run_forQ (js := [6]) (P := (k_law_6 v_number v_chain)) (Q := (fun _ => True)) (s0 := ()) id (fun v_st_1 : (Unit) => [Zf (e0_scr v_script), Zf (Dt.int v_cell_here), Zf (Dt.str v_st), none, Zf (Dt.int v_number), Zf (e3_list v_chain), none, none, none, none]) (fun (v_st_1 : (Unit)) (v_it_1 : Dt) => [Zf (e0_scr v_script), Zf (Dt.int v_cell_here), Zf (Dt.str v_st), none, Zf (Dt.int v_number), Zf (e3_list v_chain), Zf v_it_1, none, none, none]) (fun x : Bool => Out.rt (.fz (Dt.bl x)) none) (m_law_6 v_number v_chain) (fun y => y) (m_law_7) (passes_of rfl) rfl (pg_name (i := 6) sc_law.nd rfl (by first | exact Or.inl rfl | exact Or.inr rfl)) rfl (fun _ => trivial) (src_list (fun _ => rfl) (EN.frz (en_lst (ea_cons (xv 2 rfl) (ea_cons (xv 4 rfl) (ea_cons (ex_tup (ea_cons (xv 2 rfl) (ea_cons (ex_cat (xv 2 rfl) (ex_str (h := by decide +kernel)) h22) ea_nil)) (Nat.le_of_ble_eq_true rfl)) (ea_cons (EN.frz (en_lst (ea_cons (xv 2 rfl) (ea_cons (xv 4 rfl) ea_nil)) (Nat.le_of_ble_eq_true rfl)) rfl) (ea_cons ex_non ea_nil))))) (Nat.le_of_ble_eq_true rfl)) rfl)) (.keep (.keep (.keep (.keep (.keep (.keep (.keep (.keep (.keep (.keep .nil)))))))))) (fun _ _ => (bd_name (Nat.blt_eq.mp rfl))) h23 (fun v_st_1 v_it_1 hm hk => ?_) (fun v_st_1 _ => ?_)
    · obtain ⟨h20, h21⟩ := hk
      refine run_asgE (i := 7) (m_law_errors v_it_1 v_number v_chain) (fun v_some => .fz (e4_list v_some)) (fun _ => _) (fun v_some => [Zf (e0_scr v_script), Zf (Dt.int v_cell_here), Zf (Dt.str v_st), none, Zf (Dt.int v_number), Zf (e3_list v_chain), Zf v_it_1, Zf (e4_list v_some), none, none]) (fun v_some => (Step.out (fun v_st_1 : (Unit) => [Zf (e0_scr v_script), Zf (Dt.int v_cell_here), Zf (Dt.str v_st), none, Zf (Dt.int v_number), Zf (e3_list v_chain), none, none, none, none]) (fun x : Bool => Out.rt (.fz (Dt.bl x)) none) (m_law_5 v_number v_chain v_it_1 v_some))) (k_law_5 v_number v_chain v_it_1) (EX.ev (ex_call c_law_errors (fun _ => ⟨rfl, rfl, rfl, rfl, rfl⟩) (fun _ => hr.mono (by decide)) (fun _ => rfl) (ea_cons (xv 6 rfl) (ea_cons (xv 4 rfl) (ea_cons (xv 5 rfl) ea_nil))) rfl ⟨v_it_1, v_number, v_chain, h20, rfl, rfl⟩)) h21 sc_law.nd (fun _ => rfl) (fun v_some hk => ?_)
      have h19 := hk
      refine run_forQ (js := [3, 8]) (P := (k_law_3)) (Q := (k_law_4 v_number v_chain v_it_1 v_some)) (s0 := ()) (fun z : (Nat × Ez) => Dt.tup [Dt.int (z.1 : Int), (enc_Ez z.2)]) (fun v_st_2 : (Unit) => [Zf (e0_scr v_script), Zf (Dt.int v_cell_here), Zf (Dt.str v_st), none, Zf (Dt.int v_number), Zf (e3_list v_chain), Zf v_it_1, Zf (e4_list v_some), none, none]) (fun (v_st_2 : (Unit)) (v_it_2 : (Nat × Ez)) => [Zf (e0_scr v_script), Zf (Dt.int v_cell_here), Zf (Dt.str v_st), Zf (Dt.int (v_it_2.1 : Int)), Zf (Dt.int v_number), Zf (e3_list v_chain), Zf v_it_1, Zf (e4_list v_some), Zf (enc_Ez v_it_2.2), none]) (fun x : (Step (Unit) Bool) => x.out (fun v_st_1 : (Unit) => [Zf (e0_scr v_script), Zf (Dt.int v_cell_here), Zf (Dt.str v_st), none, Zf (Dt.int v_number), Zf (e3_list v_chain), none, none, none, none]) (fun x : Bool => Out.rt (.fz (Dt.bl x)) none)) (m_law_3) (fun y => Step.fin y) (m_law_4 v_number v_chain v_it_1 v_some) (passes_of rfl) rfl (pg_tup (n := 2) rfl (pgs_cons (pg_name (i := 3) sc_law.nd rfl (by first | exact Or.inl rfl | exact Or.inr rfl)) (pgs_cons (pg_name (i := 8) sc_law.nd rfl (by first | exact Or.inl rfl | exact Or.inr rfl)) pgs_nil))) rfl (fun _ => trivial) (x_enum enc_Ez (fun _ => rfl) (fun _ => rfl) (fun _ => T.n_enumerate) (xv 7 rfl)) (.keep (.keep (.keep (.keep (.keep (.keep (.keep (.keep (.keep (.keep .nil)))))))))) (fun _ _ => (bd_tup (bdl_cons (bd_name (Nat.blt_eq.mp rfl)) (bdl_cons (bd_name (Nat.blt_eq.mp rfl)) bdl_nil)) rfl)) h19 (fun v_st_2 v_it_2 hm hk => ?_) (fun v_st_2 hk => ?_)
      · have h7 := hk
        refine run_gd (fun x : (Step (Unit) Bool) => x.out (fun v_st_2 : (Unit) => [Zf (e0_scr v_script), Zf (Dt.int v_cell_here), Zf (Dt.str v_st), none, Zf (Dt.int v_number), Zf (e3_list v_chain), Zf v_it_1, Zf (e4_list v_some), none, none]) (fun x : Bool => Out.rt (.fz (Dt.bl x)) none)) (.fin false) (cond (!((m_law_kinds v_it_2.2) == (List.map (fun v_item : Nat => ((v_item : Int) == (v_it_2.1 : Int))) (List.range (Int.toNat (13 : Int)))))) (.fin false) (.nx ())) (fun _ h => nomatch h) (eb_w (ebw_or (eb_not (eb_val (ex_isXc (fun _ => rfl) (xk_of T _) (xi_MostError T _) (xv 8 rfl) (fun _ => rfl) (fun _ => T.n_isinstance) (fun _ => rfl) (fun _ => T.gc_MostError)))) (fun hb8 => (ebw_or1 (eb_not (eb_val (ex_isXcV (fun _ => rfl) (xk_of T _) (xi_ValueError T _) (xv 8 rfl) (fun _ => rfl) (fun _ => T.n_isinstance) (fun _ => rfl) (fun _ => T.n_ValueError) (by decide +kernel)))))))) (fun hb => ?_) (fun hb => ?_)
        · exact run_ret ex_bl
        · have hk := h7 hb
          obtain ⟨h4, h5, h6⟩ := hk
          refine run_gd (fun x : (Step (Unit) Bool) => x.out (fun v_st_2 : (Unit) => [Zf (e0_scr v_script), Zf (Dt.int v_cell_here), Zf (Dt.str v_st), none, Zf (Dt.int v_number), Zf (e3_list v_chain), Zf v_it_1, Zf (e4_list v_some), none, none]) (fun x : Bool => Out.rt (.fz (Dt.bl x)) none)) (.fin false) (.nx ()) (fun _ h => nomatch h) (eb_cmp (says_neD (fun _ => units_of hr) (fun _ => rfl) (EqT.d (f := e5_list) (eqt_lst eqt_bl) (by decide) (m_law_kinds v_it_2.2) (List.map (fun v_item : Nat => ((v_item : Int) == (v_it_2.1 : Int))) (List.range (Int.toNat (13 : Int)))))) (ex_call c_law_kinds (fun _ => ⟨rfl, rfl, rfl, rfl, rfl⟩) (fun _ => hr.mono (by decide)) (fun _ => rfl) (ea_cons (xv 8 rfl) ea_nil) rfl ⟨v_it_2.2, h4, rfl, rfl⟩) (EN.frz (EN.isL (x_lc (own := [("_law_j", 9)]) (fun i : Nat => Dt.int (i : Int)) (fun v_item : Nat => [Zf (e0_scr v_script), Zf (Dt.int v_cell_here), Zf (Dt.str v_st), Zf (Dt.int (v_it_2.1 : Int)), Zf (Dt.int v_number), Zf (e3_list v_chain), Zf v_it_1, Zf (e4_list v_some), Zf (enc_Ez v_it_2.2), Zf (Dt.int (v_item : Int))]) (fun v_item : Nat => true) (fun v_item : Nat => (Dt.bl ((v_item : Int) == (v_it_2.1 : Int)))) (fun _ => rfl) (fun _ => sc_law.nd) (src_range1 (fun _ => rfl) (fun _ => T.n_range) ex_int h5.1 h5.2) h6 (fun _ => blkOk_by (by decide +kernel : blkC ["_law_script", "_law_cell_here", "_law_text", "_law_k", "_law_number", "_law_chain", "_law_thing", "_law_some", "_law_one", "_law_j"] (defScope s_law) _ [("_law_j", 9)] = true)) (by decide) (fun _ => (pg_name (i := 9) sc_law.nd rfl (by first | exact Or.inl rfl | exact Or.inr rfl))) (fun _ => (bd_name (Nat.blt_eq.mp rfl))) ⟨tYes, fun _ => pts_nil, fun _ _ F H σ fps Q E q => q F H (Up.refl E.sub)⟩ (fun v_item hm hp => (ex_cmp says_eqI (xv 9 rfl) (xv 3 rfl)))) (lcM_enc Dt.bl (fun v_item : Nat => ((v_item : Int) == (v_it_2.1 : Int))) (List.range (Int.toNat (13 : Int))))) rfl)) (fun hb => ?_) (fun hb => ?_)
          · exact run_ret ex_bl
          · exact run_end (.keep (.keep (.keep (.drop (.keep (.keep (.keep (.keep (.drop (.keep .nil))))))))))
      · obtain ⟨h13, h14, h15, h16, h17, h18⟩ := hk
        refine run_skip (eb_cmp (says_neSelf (fun _ => units_of hr) (fun _ => rfl) h16 h17) (EN.frz (EN.isL (x_lc (own := [("_law_one", 8)]) enc_Ez (fun v_item_2 : Ez => [Zf (e0_scr v_script), Zf (Dt.int v_cell_here), Zf (Dt.str v_st), none, Zf (Dt.int v_number), Zf (e3_list v_chain), Zf v_it_1, Zf (e4_list v_some), Zf (enc_Ez v_item_2), none]) (fun v_item_2 : Ez => true) (fun v_item_2 : Ez => (xf_found v_item_2)) (fun _ => rfl) (fun _ => sc_law.nd) (src_list (fun _ => rfl) (EN.frz (x_sliceL enc_Ez (fun _ => rfl) (EX.esL (xv 7 rfl)) eo_none (eo_some ex_int)) rfl)) h13 (fun _ => blkOk_by (by decide +kernel : blkC ["_law_script", "_law_cell_here", "_law_text", "_law_k", "_law_number", "_law_chain", "_law_thing", "_law_some", "_law_one", "_law_j"] (defScope s_law) _ [("_law_one", 8)] = true)) (by decide) (fun _ => (pg_name (i := 8) sc_law.nd rfl (by first | exact Or.inl rfl | exact Or.inr rfl))) (fun _ => (bd_name (Nat.blt_eq.mp rfl))) ⟨tYes, fun _ => pts_nil, fun _ _ F H σ fps Q E q => q F H (Up.refl E.sub)⟩ (fun v_item_2 hm hp => (ex_xk (fun _ => rfl) (xk_of T _) (xn_found T _ (h14 v_item_2 hm)) (xv 8 rfl) (xl_found _ (h14 v_item_2 hm))))) (lcM_enc id (fun v_item_2 : Ez => (xf_found v_item_2)) (cut v_some none (some (10 : Int))))) rfl) (EN.frz (x_repL id (EN.frz (en_lst (ea_cons (xv 6 rfl) ea_nil) (Nat.le_of_ble_eq_true rfl)) rfl) ex_int h15) rfl)) ?_
        have hk := h18
        obtain ⟨h9, h10, h11⟩ := hk
        refine run_gd (fun x : (Step (Unit) Bool) => x.out (fun v_st_1 : (Unit) => [Zf (e0_scr v_script), Zf (Dt.int v_cell_here), Zf (Dt.str v_st), none, Zf (Dt.int v_number), Zf (e3_list v_chain), none, none, none, none]) (fun x : Bool => Out.rt (.fz (Dt.bl x)) none)) (.fin false) (.nx ()) (fun _ h => nomatch h) (eb_w (ebw_or (eb_cmp says_neI (ex_xk (fun _ => rfl) (xk_of T _) (xn_count T _ h10) (x_ix enc_Ez (fun _ => rfl) (EX.esL (xv 7 rfl)) ex_int h9) (xl_count _ h10)) (xv 4 rfl)) (fun hb12 => (ebw_or1 (eb_cmp (says_neD (fun _ => units_of hr) (fun _ => rfl) (EqT.d (f := e3_list) (eqt_lst eqt_str) (by decide) (xf_chain (itm v_some (11 : Int))) v_chain)) (ex_xk (fun _ => rfl) (xk_of T _) (xn_chain T _ (h11 hb12).2) (x_ix enc_Ez (fun _ => rfl) (EX.esL (xv 7 rfl)) ex_int (h11 hb12).1) (xl_chain _ (h11 hb12).2)) (xv 5 rfl)))))) (fun hb => ?_) (fun hb => ?_)
        · exact run_ret ex_bl
        · exact run_end (.keep (.keep (.keep (.keep (.keep (.keep (.drop (.drop (.keep (.keep .nil))))))))))
    · exact run_ret ex_bl
theorem ok_law (T : Txt K mg) (c_law_cell : Callee P w K mg base "_law_cell" 1 2 r_law_cell) (c_law_errors : Callee P w K mg base "_law_errors" 3 3 r_law_errors) (c_law_kinds : Callee P w K mg base "_law_kinds" 1 1 r_law_kinds) (c_law_mixed : Callee P w K mg base "_law_mixed" 1 2 r_law_mixed) {f : Addr} {fd : FuncData} (F : FunD K "law" "law" (defArgs s_law) (defBody s_law) (defScope s_law) [] [] f fd) : FnOk P w K mg base (L2.CX P w) 4 f fd ["_law_script"] (spR K 1 r_law) :=
  fnOk_mk F sc_law (fun cdv A outer s H E ds a hr hR hn => by
    obtain ⟨v_script, hk, rfl, rfl⟩ := hR
    exact ⟨_, .rt _, run_law T c_law_cell c_law_errors c_law_kinds c_law_mixed hr v_script hk⟩)
theorem mk_law (T : Txt K mg) (c_law_cell : Callee P w K mg base "_law_cell" 1 2 r_law_cell) (c_law_errors : Callee P w K mg base "_law_errors" 3 3 r_law_errors) (c_law_kinds : Callee P w K mg base "_law_kinds" 1 1 r_law_kinds) (c_law_mixed : Callee P w K mg base "_law_mixed" 1 2 r_law_mixed) {f : Addr} {fd : FuncData} (F : FunD K "law" "law" (defArgs s_law) (defBody s_law) (defScope s_law) [] [] f fd) {x : Str} (gf : mg x = some (.ref f)) : Callee P w K mg base x 4 1 r_law :=
  ⟨f, fd, ["_law_script"], ok_law T c_law_cell c_law_errors c_law_kinds c_law_mixed F, gf, F.kp, FunD.bindsN F fun _ _ _ _ _ _ us hl => match us, hl with | [_], _ => rfl⟩
end
end Lw

namespace Lw
open PySem PySem.Spec L2 Vs TL
theorem mixed_ok (a k : Int) : k_law_mixed a k := by
  unfold k_law_mixed k_law_mixed_2 k_law_mixed_1 mulOk
  generalize (a + 7919 * k + 5) * 48271 = x
  have h1 := mod_nn x (show (0 : Int) < 2147483647 by decide)
  refine ⟨.inl ⟨by omega, by omega⟩, ?_⟩
  generalize x % 2147483647 * (x % 2147483647) = y
  have h3 := mod_nn y (show (0 : Int) < 2147483629 by decide)
  exact .inl ⟨by omega, by omega⟩
theorem cell_ok (ns : List Int) (hn : ns.length ≤ 63) {k : Int} (h0 : 0 ≤ k) (h1 : k ≤ 1000) : k_law_cell ns k := by
  unfold k_law_cell mulOk
  refine ⟨fun h => inI_nn h0 ?_, fun _ => .inl ⟨by omega, by omega⟩⟩
  exact of_decide_eq_true h
/-- the thirteen -/
def errs (d : Dt) (n : Int) (c : List Str) : List Ez := [.NoStatement d, .NoRow d, .NoThing d, .Doubled d, .NoLabel d, .NoFact d, .NoBeat d, .StillOpen d, .Decided d, .NoStand d, .TooMany n, .Ring c, .NoTurn ()]
theorem errs_eq (d : Dt) (n : Int) (c : List Str) : m_law_errors d n c = errs d n c := rfl
theorem k_errs (d : Dt) (n : Int) (c : List Str) : k_law_errors d n c := ⟨Nat.le_of_ble_eq_true rfl, Nat.le_of_ble_eq_true rfl⟩
theorem k_kinds (z : Ez) : k_law_kinds z := ⟨Nat.le_of_ble_eq_true rfl, Nat.le_of_ble_eq_true rfl, Nat.le_of_ble_eq_true rfl⟩
theorem one_ok (d : Dt) (n : Int) (c : List Str) : ∀ z ∈ enum (errs d n c), m_law_3 () z = .nx () := by
  intro z hz
  have hz : z ∈ [((0 : Nat), Ez.NoStatement d), (1, .NoRow d), (2, .NoThing d), (3, .Doubled d), (4, .NoLabel d), (5, .NoFact d), (6, .NoBeat d), (7, .StillOpen d), (8, .Decided d), (9, .NoStand d), (10, .TooMany n), (11, .Ring c), (12, .NoTurn ())] := hz
  simp only [List.mem_cons, List.not_mem_nil, or_false] at hz
  rcases hz with rfl | rfl | rfl | rfl | rfl | rfl | rfl | rfl | rfl | rfl | rfl | rfl | rfl <;> rfl
theorem turn (n : Int) (c : List Str) (d : Dt) (h : dynOk d = true) : k_law_6 n c () d ∧ m_law_6 n c () d = .nx () := by
  unfold k_law_6 m_law_6 k_law_5 m_law_5
  rw [errs_eq]
  have fin : k_law_4 n c d (errs d n c) () ∧ m_law_4 n c d (errs d n c) () = .nx () := by
    refine ⟨⟨Nat.le_of_ble_eq_true rfl, fun z hz => ?_, ⟨by decide, by decide, Nat.le_of_ble_eq_true rfl⟩, rfl, ?_, rfl, rfl, fun _ => ⟨rfl, rfl⟩⟩, ?_⟩
    · have hz : z ∈ [Ez.NoStatement d, .NoRow d, .NoThing d, .Doubled d, .NoLabel d, .NoFact d, .NoBeat d, .StillOpen d, .Decided d, .NoStand d] := hz
      simp only [List.mem_cons, List.not_mem_nil, or_false] at hz
      rcases hz with rfl | rfl | rfl | rfl | rfl | rfl | rfl | rfl | rfl | rfl <;> rfl
    · show dynL [d, d, d, d, d, d, d, d, d, d] = true
      simp [dynL, h]
    · show cond ((!(n == n)) || (!(c == c))) _ _ = _
      rw [beq_self_eq_true, show (c == c) = true by simp]
      rfl
  have key := loop_go (step := m_law_3) (io := fun y => Step.fin y) (k := m_law_4 n c d (errs d n c)) (P := k_law_3) (Q := k_law_4 n c d (errs d n c)) (xs := enum (errs d n c)) (s := ()) (fun _ _ => True) trivial
    (fun i x s hx _ => ⟨fun _ => ⟨k_kinds _, by unfold rngOk; decide, Nat.le_of_ble_eq_true rfl⟩, (), .inl (one_ok d n c x (List.mem_of_getElem? hx)), trivial⟩) (fun _ _ => fin.1)
  obtain ⟨a, s, e, _⟩ := key
  exact ⟨⟨k_errs _ _ _, a⟩, e.trans fin.2⟩
theorem things_ok (s t : Str) (n : Int) : ∀ d ∈ [(Dt.str s), (Dt.int n), (e1_tup (s, t)), (e2_list [(Dt.str s), (Dt.int n)]), Dt.non], dynOk d = true := by
  intro d hd
  simp only [List.mem_cons, List.not_mem_nil, or_false] at hd
  rcases hd with rfl | rfl | rfl | rfl | rfl <;> simp [dynOk, Dt.flat, Dt.flatL, Dt.py, Dt.pyL, PyData.depth, PyData.depthAll]
theorem end_true (ns : List Int) (hn : ns.length ≤ 63) : r_law [.scr (ns.map Dt.int)] (.inl (.fz (.bl true))) := by
  have m12 := mod_nn (m_law_mixed (m_law_cell ns 0) 1) (show (0 : Int) < 12 by decide)
  have l41 : (Str.ofString "abcdefghijklmnopqrstuvwxyz0123456789 -(),").cps.toList.length = 41 := by decide +kernel
  have all : ∀ (st : Str) (N : Int) (C : List Str), st.length ≤ 100 → k_law_8 st N C ∧ m_law_8 st N C = true := fun st N C hs => by
    unfold k_law_8 m_law_8
    have t := things_ok st (st ++ Str.ofString "x") N
    have key := loop_go (step := m_law_6 N C) (io := fun y => y) (k := m_law_7) (P := k_law_6 N C) (Q := fun _ => True) (xs := [(Dt.str st), (Dt.int N), (e1_tup (st, (st ++ (Str.ofString "x")))), (e2_list [(Dt.str st), (Dt.int N)]), Dt.non]) (s := ()) (fun _ _ => True) trivial
      (fun i x s hx _ => have k := turn N C x (t x (List.mem_of_getElem? hx)); ⟨k.1, (), .inl k.2, trivial⟩) (fun _ _ => trivial)
    obtain ⟨a, s, e, _⟩ := key
    refine ⟨⟨?_, a⟩, e⟩
    rw [lenS "x" (n := 1) rfl]
    show _ ≤ 900000
    omega
  have rest : ∀ st : Str, st.length ≤ 100 → k_law_10 ns (m_law_cell ns 0) st ∧ m_law_10 ns (m_law_cell ns 0) st = true := fun st hs => by
    unfold k_law_10 m_law_10 k_law_9 m_law_9
    have k := all st (m_law_cell ns 1 % (10 ^ Int.toNat 30)) (cut [st, (st ++ (Str.ofString "a")), (st ++ (Str.ofString "b"))] none (some ((m_law_mixed (m_law_cell ns 0) (20)) % 4))) hs
    refine ⟨⟨cell_ok ns hn (by decide) (by decide), ?_, ?_, mixed_ok _ _, k.1⟩, k.2⟩
    · rw [lenS "a" (n := 1) rfl]; show _ ≤ 900000; omega
    · rw [lenS "b" (n := 1) rfl]; show _ ≤ 900000; omega
  have key := loop_go (step := m_law_2 (m_law_cell ns 0)) (io := fun y => y) (k := m_law_10 ns (m_law_cell ns 0)) (P := k_law_2 (m_law_cell ns 0)) (Q := k_law_10 ns (m_law_cell ns 0)) (xs := List.range (Int.toNat (m_law_mixed (m_law_cell ns 0) 1 % 12))) (s := (Str.ofString "")) (fun i (s : Str) => s.length = i) rfl (fun i x s hx hs => by
    obtain ⟨rfl, hi⟩ := mem_range_get hx
    have hm := mod_nn (m_law_mixed (m_law_cell ns 0) (2 + (x : Int))) (show (0 : Int) < 41 by decide)
    refine ⟨⟨mixed_ok _ _, atI_nn hm.1 (by rw [l41]; exact hm.2), ?_⟩, _, .inl rfl, ?_⟩
    · rw [len_sgn, hs]; show _ ≤ 900000; omega
    · show (s ++ sgn _ _).length = x + 1
      rw [len_app, len_sgn, hs]) (fun s hs => (rest s (by rw [List.length_range] at hs; omega)).1)
  obtain ⟨a, s, e, hs⟩ := key
  rw [List.length_range] at hs
  refine ⟨ns, ⟨cell_ok ns hn (by decide) (by decide), mixed_ok _ _, ⟨by omega, by omega⟩, a⟩, rfl, ?_⟩
  show Sum.inl (Cell.fz (Dt.bl true)) = Sum.inl (Cell.fz (Dt.bl (m_law ns)))
  unfold m_law m_law_11
  rw [e, (rest s (by omega)).2]
end Lw

set_option maxHeartbeats 0
namespace Lw
open PySem PySem.Spec L2 Vs
theorem facts {P : Program} {w : World} {K : PySem.W.Frag} {h : Heap} {mg : Str → Option Value} {f : Addr} (X : K.In h) (G : h.Ns mainGlobals mg) (hfa : mg ("law" : Str) = some (.ref f)) (c : SaysY fa fn ya K) :
    ∃ fd : FuncData, (∀ (s : Shared) (v : Value), BindsTo s fd ⟨[v], []⟩ [("_law_script", v)]) ∧ ∀ base : Heap, K.In base → base.Ns mainGlobals mg → FnOk P w K mg base (L2.CX P w) 4 f fd ["_law_script"] (spR K 1 r_law) := by
  obtain ⟨fd0, F0⟩ := c.1.def_ 0 (d := d_law_cell) rfl
  obtain ⟨fd1, F1⟩ := c.1.def_ 1 (d := d_law_mixed) rfl
  obtain ⟨fd2, F2⟩ := c.1.def_ 2 (d := d_x_NoStatement) rfl
  obtain ⟨fd3, F3⟩ := c.1.def_ 3 (d := d_x_NoRow) rfl
  obtain ⟨fd4, F4⟩ := c.1.def_ 4 (d := d_x_NoThing) rfl
  obtain ⟨fd5, F5⟩ := c.1.def_ 5 (d := d_x_Doubled) rfl
  obtain ⟨fd6, F6⟩ := c.1.def_ 6 (d := d_x_NoLabel) rfl
  obtain ⟨fd7, F7⟩ := c.1.def_ 7 (d := d_x_NoFact) rfl
  obtain ⟨fd8, F8⟩ := c.1.def_ 8 (d := d_x_NoBeat) rfl
  obtain ⟨fd9, F9⟩ := c.1.def_ 9 (d := d_x_StillOpen) rfl
  obtain ⟨fd10, F10⟩ := c.1.def_ 10 (d := d_x_Decided) rfl
  obtain ⟨fd11, F11⟩ := c.1.def_ 11 (d := d_x_NoStand) rfl
  obtain ⟨fd12, F12⟩ := c.1.def_ 12 (d := d_x_TooMany) rfl
  obtain ⟨fd13, F13⟩ := c.1.def_ 13 (d := d_x_Ring) rfl
  obtain ⟨fd14, F14⟩ := c.1.def_ 14 (d := d_x_NoTurn) rfl
  obtain ⟨fd15, F15⟩ := c.1.def_ 15 (d := d_law_errors) rfl
  obtain ⟨fd16, F16⟩ := c.1.def_ 16 (d := d_law_kinds) rfl
  obtain ⟨fd17, F17⟩ := c.1.def_ 17 (d := d_law) rfl
  have e := hfa.symm.trans (He.glo_ok X G (c.1.fact 4 (f := .glo "law") rfl))
  cases e
  have T : Txt K mg := ⟨He.free_ok X G (c.1.fact 5 (f := .free "ValueError") rfl), He.free_ok X G (c.1.fact 6 (f := .free "enumerate") rfl), He.free_ok X G (c.1.fact 7 (f := .free "isinstance") rfl), He.free_ok X G (c.1.fact 8 (f := .free "len") rfl), He.free_ok X G (c.1.fact 9 (f := .free "range") rfl), bviB_ok (c.ya 0 (y := .bvi "MostError") rfl), He.glo_ok X G (c.1.fact 10 (f := .glo "Decided") rfl), He.glo_ok X G (c.1.fact 11 (f := .glo "Doubled") rfl), He.glo_ok X G (c.1.fact 12 (f := .glo "MostError") rfl), He.glo_ok X G (c.1.fact 13 (f := .glo "NoBeat") rfl), He.glo_ok X G (c.1.fact 14 (f := .glo "NoFact") rfl), He.glo_ok X G (c.1.fact 15 (f := .glo "NoLabel") rfl), He.glo_ok X G (c.1.fact 16 (f := .glo "NoRow") rfl), He.glo_ok X G (c.1.fact 17 (f := .glo "NoStand") rfl), He.glo_ok X G (c.1.fact 18 (f := .glo "NoStatement") rfl), He.glo_ok X G (c.1.fact 19 (f := .glo "NoThing") rfl), He.glo_ok X G (c.1.fact 20 (f := .glo "NoTurn") rfl), He.glo_ok X G (c.1.fact 21 (f := .glo "Ring") rfl), He.glo_ok X G (c.1.fact 22 (f := .glo "StillOpen") rfl), He.glo_ok X G (c.1.fact 23 (f := .glo "TooMany") rfl), isV_ok (c.ya 1 (y := .isV "Decided" "ValueError" true) rfl), isV_ok (c.ya 2 (y := .isV "Doubled" "ValueError" true) rfl), isV_ok (c.ya 3 (y := .isV "NoBeat" "ValueError" true) rfl), isV_ok (c.ya 4 (y := .isV "NoFact" "ValueError" true) rfl), isV_ok (c.ya 5 (y := .isV "NoLabel" "ValueError" true) rfl), isV_ok (c.ya 6 (y := .isV "NoRow" "ValueError" true) rfl), isV_ok (c.ya 7 (y := .isV "NoStand" "ValueError" true) rfl), isV_ok (c.ya 8 (y := .isV "NoStatement" "ValueError" true) rfl), isV_ok (c.ya 9 (y := .isV "NoThing" "ValueError" true) rfl), isV_ok (c.ya 10 (y := .isV "NoTurn" "ValueError" true) rfl), isV_ok (c.ya 11 (y := .isV "Ring" "ValueError" true) rfl), isV_ok (c.ya 12 (y := .isV "StillOpen" "ValueError" true) rfl), isV_ok (c.ya 13 (y := .isV "TooMany" "ValueError" true) rfl), isB_ok (c.ya 14 (y := .isA "Decided" "Decided" true) rfl), isB_ok (c.ya 15 (y := .isA "Decided" "Doubled" false) rfl), isB_ok (c.ya 16 (y := .isA "Decided" "MostError" true) rfl), isB_ok (c.ya 17 (y := .isA "Decided" "NoBeat" false) rfl), isB_ok (c.ya 18 (y := .isA "Decided" "NoFact" false) rfl), isB_ok (c.ya 19 (y := .isA "Decided" "NoLabel" false) rfl), isB_ok (c.ya 20 (y := .isA "Decided" "NoRow" false) rfl), isB_ok (c.ya 21 (y := .isA "Decided" "NoStand" false) rfl), isB_ok (c.ya 22 (y := .isA "Decided" "NoStatement" false) rfl), isB_ok (c.ya 23 (y := .isA "Decided" "NoThing" false) rfl), isB_ok (c.ya 24 (y := .isA "Decided" "NoTurn" false) rfl), isB_ok (c.ya 25 (y := .isA "Decided" "Ring" false) rfl), isB_ok (c.ya 26 (y := .isA "Decided" "StillOpen" false) rfl), isB_ok (c.ya 27 (y := .isA "Decided" "TooMany" false) rfl), isB_ok (c.ya 28 (y := .isA "Doubled" "Decided" false) rfl), isB_ok (c.ya 29 (y := .isA "Doubled" "Doubled" true) rfl), isB_ok (c.ya 30 (y := .isA "Doubled" "MostError" true) rfl), isB_ok (c.ya 31 (y := .isA "Doubled" "NoBeat" false) rfl), isB_ok (c.ya 32 (y := .isA "Doubled" "NoFact" false) rfl), isB_ok (c.ya 33 (y := .isA "Doubled" "NoLabel" false) rfl), isB_ok (c.ya 34 (y := .isA "Doubled" "NoRow" false) rfl), isB_ok (c.ya 35 (y := .isA "Doubled" "NoStand" false) rfl), isB_ok (c.ya 36 (y := .isA "Doubled" "NoStatement" false) rfl), isB_ok (c.ya 37 (y := .isA "Doubled" "NoThing" false) rfl), isB_ok (c.ya 38 (y := .isA "Doubled" "NoTurn" false) rfl), isB_ok (c.ya 39 (y := .isA "Doubled" "Ring" false) rfl), isB_ok (c.ya 40 (y := .isA "Doubled" "StillOpen" false) rfl), isB_ok (c.ya 41 (y := .isA "Doubled" "TooMany" false) rfl), isB_ok (c.ya 42 (y := .isA "NoBeat" "Decided" false) rfl), isB_ok (c.ya 43 (y := .isA "NoBeat" "Doubled" false) rfl), isB_ok (c.ya 44 (y := .isA "NoBeat" "MostError" true) rfl), isB_ok (c.ya 45 (y := .isA "NoBeat" "NoBeat" true) rfl), isB_ok (c.ya 46 (y := .isA "NoBeat" "NoFact" false) rfl), isB_ok (c.ya 47 (y := .isA "NoBeat" "NoLabel" false) rfl), isB_ok (c.ya 48 (y := .isA "NoBeat" "NoRow" false) rfl), isB_ok (c.ya 49 (y := .isA "NoBeat" "NoStand" false) rfl), isB_ok (c.ya 50 (y := .isA "NoBeat" "NoStatement" false) rfl), isB_ok (c.ya 51 (y := .isA "NoBeat" "NoThing" false) rfl), isB_ok (c.ya 52 (y := .isA "NoBeat" "NoTurn" false) rfl), isB_ok (c.ya 53 (y := .isA "NoBeat" "Ring" false) rfl), isB_ok (c.ya 54 (y := .isA "NoBeat" "StillOpen" false) rfl), isB_ok (c.ya 55 (y := .isA "NoBeat" "TooMany" false) rfl), isB_ok (c.ya 56 (y := .isA "NoFact" "Decided" false) rfl), isB_ok (c.ya 57 (y := .isA "NoFact" "Doubled" false) rfl), isB_ok (c.ya 58 (y := .isA "NoFact" "MostError" true) rfl), isB_ok (c.ya 59 (y := .isA "NoFact" "NoBeat" false) rfl), isB_ok (c.ya 60 (y := .isA "NoFact" "NoFact" true) rfl), isB_ok (c.ya 61 (y := .isA "NoFact" "NoLabel" false) rfl), isB_ok (c.ya 62 (y := .isA "NoFact" "NoRow" false) rfl), isB_ok (c.ya 63 (y := .isA "NoFact" "NoStand" false) rfl), isB_ok (c.ya 64 (y := .isA "NoFact" "NoStatement" false) rfl), isB_ok (c.ya 65 (y := .isA "NoFact" "NoThing" false) rfl), isB_ok (c.ya 66 (y := .isA "NoFact" "NoTurn" false) rfl), isB_ok (c.ya 67 (y := .isA "NoFact" "Ring" false) rfl), isB_ok (c.ya 68 (y := .isA "NoFact" "StillOpen" false) rfl), isB_ok (c.ya 69 (y := .isA "NoFact" "TooMany" false) rfl), isB_ok (c.ya 70 (y := .isA "NoLabel" "Decided" false) rfl), isB_ok (c.ya 71 (y := .isA "NoLabel" "Doubled" false) rfl), isB_ok (c.ya 72 (y := .isA "NoLabel" "MostError" true) rfl), isB_ok (c.ya 73 (y := .isA "NoLabel" "NoBeat" false) rfl), isB_ok (c.ya 74 (y := .isA "NoLabel" "NoFact" false) rfl), isB_ok (c.ya 75 (y := .isA "NoLabel" "NoLabel" true) rfl), isB_ok (c.ya 76 (y := .isA "NoLabel" "NoRow" false) rfl), isB_ok (c.ya 77 (y := .isA "NoLabel" "NoStand" false) rfl), isB_ok (c.ya 78 (y := .isA "NoLabel" "NoStatement" false) rfl), isB_ok (c.ya 79 (y := .isA "NoLabel" "NoThing" false) rfl), isB_ok (c.ya 80 (y := .isA "NoLabel" "NoTurn" false) rfl), isB_ok (c.ya 81 (y := .isA "NoLabel" "Ring" false) rfl), isB_ok (c.ya 82 (y := .isA "NoLabel" "StillOpen" false) rfl), isB_ok (c.ya 83 (y := .isA "NoLabel" "TooMany" false) rfl), isB_ok (c.ya 84 (y := .isA "NoRow" "Decided" false) rfl), isB_ok (c.ya 85 (y := .isA "NoRow" "Doubled" false) rfl), isB_ok (c.ya 86 (y := .isA "NoRow" "MostError" true) rfl), isB_ok (c.ya 87 (y := .isA "NoRow" "NoBeat" false) rfl), isB_ok (c.ya 88 (y := .isA "NoRow" "NoFact" false) rfl), isB_ok (c.ya 89 (y := .isA "NoRow" "NoLabel" false) rfl), isB_ok (c.ya 90 (y := .isA "NoRow" "NoRow" true) rfl), isB_ok (c.ya 91 (y := .isA "NoRow" "NoStand" false) rfl), isB_ok (c.ya 92 (y := .isA "NoRow" "NoStatement" false) rfl), isB_ok (c.ya 93 (y := .isA "NoRow" "NoThing" false) rfl), isB_ok (c.ya 94 (y := .isA "NoRow" "NoTurn" false) rfl), isB_ok (c.ya 95 (y := .isA "NoRow" "Ring" false) rfl), isB_ok (c.ya 96 (y := .isA "NoRow" "StillOpen" false) rfl), isB_ok (c.ya 97 (y := .isA "NoRow" "TooMany" false) rfl), isB_ok (c.ya 98 (y := .isA "NoStand" "Decided" false) rfl), isB_ok (c.ya 99 (y := .isA "NoStand" "Doubled" false) rfl), isB_ok (c.ya 100 (y := .isA "NoStand" "MostError" true) rfl), isB_ok (c.ya 101 (y := .isA "NoStand" "NoBeat" false) rfl), isB_ok (c.ya 102 (y := .isA "NoStand" "NoFact" false) rfl), isB_ok (c.ya 103 (y := .isA "NoStand" "NoLabel" false) rfl), isB_ok (c.ya 104 (y := .isA "NoStand" "NoRow" false) rfl), isB_ok (c.ya 105 (y := .isA "NoStand" "NoStand" true) rfl), isB_ok (c.ya 106 (y := .isA "NoStand" "NoStatement" false) rfl), isB_ok (c.ya 107 (y := .isA "NoStand" "NoThing" false) rfl), isB_ok (c.ya 108 (y := .isA "NoStand" "NoTurn" false) rfl), isB_ok (c.ya 109 (y := .isA "NoStand" "Ring" false) rfl), isB_ok (c.ya 110 (y := .isA "NoStand" "StillOpen" false) rfl), isB_ok (c.ya 111 (y := .isA "NoStand" "TooMany" false) rfl), isB_ok (c.ya 112 (y := .isA "NoStatement" "Decided" false) rfl), isB_ok (c.ya 113 (y := .isA "NoStatement" "Doubled" false) rfl), isB_ok (c.ya 114 (y := .isA "NoStatement" "MostError" true) rfl), isB_ok (c.ya 115 (y := .isA "NoStatement" "NoBeat" false) rfl), isB_ok (c.ya 116 (y := .isA "NoStatement" "NoFact" false) rfl), isB_ok (c.ya 117 (y := .isA "NoStatement" "NoLabel" false) rfl), isB_ok (c.ya 118 (y := .isA "NoStatement" "NoRow" false) rfl), isB_ok (c.ya 119 (y := .isA "NoStatement" "NoStand" false) rfl), isB_ok (c.ya 120 (y := .isA "NoStatement" "NoStatement" true) rfl), isB_ok (c.ya 121 (y := .isA "NoStatement" "NoThing" false) rfl), isB_ok (c.ya 122 (y := .isA "NoStatement" "NoTurn" false) rfl), isB_ok (c.ya 123 (y := .isA "NoStatement" "Ring" false) rfl), isB_ok (c.ya 124 (y := .isA "NoStatement" "StillOpen" false) rfl), isB_ok (c.ya 125 (y := .isA "NoStatement" "TooMany" false) rfl), isB_ok (c.ya 126 (y := .isA "NoThing" "Decided" false) rfl), isB_ok (c.ya 127 (y := .isA "NoThing" "Doubled" false) rfl), isB_ok (c.ya 128 (y := .isA "NoThing" "MostError" true) rfl), isB_ok (c.ya 129 (y := .isA "NoThing" "NoBeat" false) rfl), isB_ok (c.ya 130 (y := .isA "NoThing" "NoFact" false) rfl), isB_ok (c.ya 131 (y := .isA "NoThing" "NoLabel" false) rfl), isB_ok (c.ya 132 (y := .isA "NoThing" "NoRow" false) rfl), isB_ok (c.ya 133 (y := .isA "NoThing" "NoStand" false) rfl), isB_ok (c.ya 134 (y := .isA "NoThing" "NoStatement" false) rfl), isB_ok (c.ya 135 (y := .isA "NoThing" "NoThing" true) rfl), isB_ok (c.ya 136 (y := .isA "NoThing" "NoTurn" false) rfl), isB_ok (c.ya 137 (y := .isA "NoThing" "Ring" false) rfl), isB_ok (c.ya 138 (y := .isA "NoThing" "StillOpen" false) rfl), isB_ok (c.ya 139 (y := .isA "NoThing" "TooMany" false) rfl), isB_ok (c.ya 140 (y := .isA "NoTurn" "Decided" false) rfl), isB_ok (c.ya 141 (y := .isA "NoTurn" "Doubled" false) rfl), isB_ok (c.ya 142 (y := .isA "NoTurn" "MostError" true) rfl), isB_ok (c.ya 143 (y := .isA "NoTurn" "NoBeat" false) rfl), isB_ok (c.ya 144 (y := .isA "NoTurn" "NoFact" false) rfl), isB_ok (c.ya 145 (y := .isA "NoTurn" "NoLabel" false) rfl), isB_ok (c.ya 146 (y := .isA "NoTurn" "NoRow" false) rfl), isB_ok (c.ya 147 (y := .isA "NoTurn" "NoStand" false) rfl), isB_ok (c.ya 148 (y := .isA "NoTurn" "NoStatement" false) rfl), isB_ok (c.ya 149 (y := .isA "NoTurn" "NoThing" false) rfl), isB_ok (c.ya 150 (y := .isA "NoTurn" "NoTurn" true) rfl), isB_ok (c.ya 151 (y := .isA "NoTurn" "Ring" false) rfl), isB_ok (c.ya 152 (y := .isA "NoTurn" "StillOpen" false) rfl), isB_ok (c.ya 153 (y := .isA "NoTurn" "TooMany" false) rfl), isB_ok (c.ya 154 (y := .isA "Ring" "Decided" false) rfl), isB_ok (c.ya 155 (y := .isA "Ring" "Doubled" false) rfl), isB_ok (c.ya 156 (y := .isA "Ring" "MostError" true) rfl), isB_ok (c.ya 157 (y := .isA "Ring" "NoBeat" false) rfl), isB_ok (c.ya 158 (y := .isA "Ring" "NoFact" false) rfl), isB_ok (c.ya 159 (y := .isA "Ring" "NoLabel" false) rfl), isB_ok (c.ya 160 (y := .isA "Ring" "NoRow" false) rfl), isB_ok (c.ya 161 (y := .isA "Ring" "NoStand" false) rfl), isB_ok (c.ya 162 (y := .isA "Ring" "NoStatement" false) rfl), isB_ok (c.ya 163 (y := .isA "Ring" "NoThing" false) rfl), isB_ok (c.ya 164 (y := .isA "Ring" "NoTurn" false) rfl), isB_ok (c.ya 165 (y := .isA "Ring" "Ring" true) rfl), isB_ok (c.ya 166 (y := .isA "Ring" "StillOpen" false) rfl), isB_ok (c.ya 167 (y := .isA "Ring" "TooMany" false) rfl), isB_ok (c.ya 168 (y := .isA "StillOpen" "Decided" false) rfl), isB_ok (c.ya 169 (y := .isA "StillOpen" "Doubled" false) rfl), isB_ok (c.ya 170 (y := .isA "StillOpen" "MostError" true) rfl), isB_ok (c.ya 171 (y := .isA "StillOpen" "NoBeat" false) rfl), isB_ok (c.ya 172 (y := .isA "StillOpen" "NoFact" false) rfl), isB_ok (c.ya 173 (y := .isA "StillOpen" "NoLabel" false) rfl), isB_ok (c.ya 174 (y := .isA "StillOpen" "NoRow" false) rfl), isB_ok (c.ya 175 (y := .isA "StillOpen" "NoStand" false) rfl), isB_ok (c.ya 176 (y := .isA "StillOpen" "NoStatement" false) rfl), isB_ok (c.ya 177 (y := .isA "StillOpen" "NoThing" false) rfl), isB_ok (c.ya 178 (y := .isA "StillOpen" "NoTurn" false) rfl), isB_ok (c.ya 179 (y := .isA "StillOpen" "Ring" false) rfl), isB_ok (c.ya 180 (y := .isA "StillOpen" "StillOpen" true) rfl), isB_ok (c.ya 181 (y := .isA "StillOpen" "TooMany" false) rfl), isB_ok (c.ya 182 (y := .isA "TooMany" "Decided" false) rfl), isB_ok (c.ya 183 (y := .isA "TooMany" "Doubled" false) rfl), isB_ok (c.ya 184 (y := .isA "TooMany" "MostError" true) rfl), isB_ok (c.ya 185 (y := .isA "TooMany" "NoBeat" false) rfl), isB_ok (c.ya 186 (y := .isA "TooMany" "NoFact" false) rfl), isB_ok (c.ya 187 (y := .isA "TooMany" "NoLabel" false) rfl), isB_ok (c.ya 188 (y := .isA "TooMany" "NoRow" false) rfl), isB_ok (c.ya 189 (y := .isA "TooMany" "NoStand" false) rfl), isB_ok (c.ya 190 (y := .isA "TooMany" "NoStatement" false) rfl), isB_ok (c.ya 191 (y := .isA "TooMany" "NoThing" false) rfl), isB_ok (c.ya 192 (y := .isA "TooMany" "NoTurn" false) rfl), isB_ok (c.ya 193 (y := .isA "TooMany" "Ring" false) rfl), isB_ok (c.ya 194 (y := .isA "TooMany" "StillOpen" false) rfl), isB_ok (c.ya 195 (y := .isA "TooMany" "TooMany" true) rfl), xcB_ok (c.ya 196 (y := .xc "Decided" "found") rfl), xcB_ok (c.ya 197 (y := .xc "Doubled" "found") rfl), xcB_ok (c.ya 198 (y := .xc "NoBeat" "found") rfl), xcB_ok (c.ya 199 (y := .xc "NoFact" "found") rfl), xcB_ok (c.ya 200 (y := .xc "NoLabel" "found") rfl), xcB_ok (c.ya 201 (y := .xc "NoRow" "found") rfl), xcB_ok (c.ya 202 (y := .xc "NoStand" "found") rfl), xcB_ok (c.ya 203 (y := .xc "NoStatement" "found") rfl), xcB_ok (c.ya 204 (y := .xc "NoThing" "found") rfl), xcB_ok (c.ya 205 (y := .xc "NoTurn" "found") rfl), xcB_ok (c.ya 206 (y := .xc "Ring" "chain") rfl), xcB_ok (c.ya 207 (y := .xc "StillOpen" "found") rfl), xcB_ok (c.ya 208 (y := .xc "TooMany" "count") rfl)⟩
  have b := FunD.bindsA (ps := ["_law_script"]) F17 fun _ _ _ _ _ _ us hl => match us, hl with | [_], _ => rfl
  refine ⟨fd17, fun s v => b s [v] rfl, fun base _ _ => ?_⟩
  have c_law_cell := mk_law_cell (P := P) (w := w) (base := base) T  F0 (He.glo_ok X G (c.1.fact 0 (f := .glo "_law_cell") rfl))
  have c_law_mixed := mk_law_mixed (P := P) (w := w) (base := base) T  F1 (He.glo_ok X G (c.1.fact 1 (f := .glo "_law_mixed") rfl))
  have c_x_NoStatement : CalleeX P w K mg base "NoStatement" "found" := mk_x_NoStatement (P := P) (w := w) (base := base) T F2
  have c_x_NoRow : CalleeX P w K mg base "NoRow" "found" := mk_x_NoRow (P := P) (w := w) (base := base) T F3
  have c_x_NoThing : CalleeX P w K mg base "NoThing" "found" := mk_x_NoThing (P := P) (w := w) (base := base) T F4
  have c_x_Doubled : CalleeX P w K mg base "Doubled" "found" := mk_x_Doubled (P := P) (w := w) (base := base) T F5
  have c_x_NoLabel : CalleeX P w K mg base "NoLabel" "found" := mk_x_NoLabel (P := P) (w := w) (base := base) T F6
  have c_x_NoFact : CalleeX P w K mg base "NoFact" "found" := mk_x_NoFact (P := P) (w := w) (base := base) T F7
  have c_x_NoBeat : CalleeX P w K mg base "NoBeat" "found" := mk_x_NoBeat (P := P) (w := w) (base := base) T F8
  have c_x_StillOpen : CalleeX P w K mg base "StillOpen" "found" := mk_x_StillOpen (P := P) (w := w) (base := base) T F9
  have c_x_Decided : CalleeX P w K mg base "Decided" "found" := mk_x_Decided (P := P) (w := w) (base := base) T F10
  have c_x_NoStand : CalleeX P w K mg base "NoStand" "found" := mk_x_NoStand (P := P) (w := w) (base := base) T F11
  have c_x_TooMany : CalleeX P w K mg base "TooMany" "count" := mk_x_TooMany (P := P) (w := w) (base := base) T F12
  have c_x_Ring : CalleeX P w K mg base "Ring" "chain" := mk_x_Ring (P := P) (w := w) (base := base) T F13
  have c_x_NoTurn : CalleeXN P w K mg base "NoTurn" := mk_x_NoTurn (P := P) (w := w) (base := base) T F14
  have c_law_errors := mk_law_errors (P := P) (w := w) (base := base) T c_x_Decided c_x_Doubled c_x_NoBeat c_x_NoFact c_x_NoLabel c_x_NoRow c_x_NoStand c_x_NoStatement c_x_NoThing c_x_NoTurn c_x_Ring c_x_StillOpen c_x_TooMany F15 (He.glo_ok X G (c.1.fact 2 (f := .glo "_law_errors") rfl))
  have c_law_kinds := mk_law_kinds (P := P) (w := w) (base := base) T  F16 (He.glo_ok X G (c.1.fact 3 (f := .glo "_law_kinds") rfl))
  exact ok_law T c_law_cell c_law_errors c_law_kinds c_law_mixed F17
end Lw
open PySem PySem.W PySem.Calls PyProof.Rows
set_option maxRecDepth 100000 in
set_option maxHeartbeats 0 in
theorem PySem.Challenge.cw_mostwise_k05_refusals_holds : PySem.Challenge.rw_mostwise_k05_refusals.Holds := by
  w_on; o_law
  refine HandSHeadRun.head_any (r := OpenLaw.row PySem.Challenge.rw_mostwise_k05_refusals) (q := view (OpenLaw.row PySem.Challenge.rw_mostwise_k05_refusals).prog [20]) (H := Lw.hkk) (ob := Lw.ob) (M := 20000) (loose := Lw.nms) (d := HandSHeadRun.topDef (OpenLaw.row PySem.Challenge.rw_mostwise_k05_refusals).prog 20) (kwd := []) Lw.ob_eq
    (by kernel_rfl) (fun s => by kernel_rfl) Lw.run (by kernel_rfl) (by kernel_rfl) (by kernel_rfl) (by rfl) (by first | assumption | decide +kernel) (by decide +kernel) ⟨rfl, rfl, rfl, rfl, rfl, by decide +kernel⟩ ?hw ?hc
  case hw => w_witness2
  case hc =>
    refine Vs.walkW (l := PySem.Challenge.rw_mostwise_k05_refusals) (k := 4) (x := "_law_script") (r := Lw.r_law) rfl (by kernel_rfl) ⟨rfl, by decide, by decide⟩ ?F ?R
    case F =>
      intro w mg fa h Y G hmg0
      obtain ⟨K, KX, c⟩ := Y
      have hmg : mg ("law" : PySem.Str) = some (.ref fa) := by
        have e : (HandSHeadRun.topDef (OpenLaw.row PySem.Challenge.rw_mostwise_k05_refusals).prog 20).name = ("law" : PySem.Str) := by kernel_rfl
        rw [← e]
        exact hmg0
      obtain ⟨fd, hb, hF⟩ := Lw.facts (P := (PySem.Challenge.rw_mostwise_k05_refusals).prog) (w := w) KX G hmg c
      exact ⟨K, fd, KX, Vs.nolam_ok (Vs.SaysY.ya c 209 (y := .nolam) rfl), hb, hF⟩
    case R => exact Lw.end_true
