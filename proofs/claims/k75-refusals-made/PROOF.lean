import PyProof.Rows.All
import Wide.All
import OpenK.AllK
import Wide.FinOn
import KE.KStateDown
import HandS.Base
import HandS.Call
import HandS.More
import HandS.ExcInit
import HandS.Head0
import HandS.Head1
import HandS.Head2
import HandS.HeadEnd
import HandS.HeadHook1
import HandS.HeadHook2
import HandS.HeadHook3
import HandS.HeadHook4
import PySem.Challenge.RW_kinlines_k75_refusals_made
import Lean
import HandS.Ends
import HandS.Words
import HandS.WordsExc
import HandS.Defaults
import HandS.ForMost
import HandS.ForExc
import HandS.CallSlots
import HandS.TryMany
import HandS.TupAny
import KE.KDictKeyed
import KE.KDictPairs
import HandS.ExcInitHot
import HandS.CallLocal
import KE.KExcIs
import HandS.Style
import HandS.Deep
import HandS.Wide
import KE.DataCmp
import KE.SortData
import HandS.Conv
import HandS.IsInst
import HandS.Text
import KE.DataMinMax
import KE.SortCalls
import HandS.Strs
import HandS.Replace
import KE.KIntText
import HandS.TupSets
import HandS.Dict
import HandS.SetFor
import KE.KSortTupAny
import KE.GoesZip
import KE.GoesMore
import KE.GoesEnum
import HandS.HotCalls
import KE.KRevSl
import HandS.FStrTup
import HandS.ListItems
import PyProof.NeKinds
import KE.KDictSum
import HandS.Iter
import HandS.ReplaceList
import HandS.ReplaceLit
import HandS.DictEq
import HandS.DeepEq
import HandS.ExcValue
set_option Elab.async false
set_option linter.all false
set_option maxRecDepth 100000
set_option maxHeartbeats 4000000
namespace TL
open PySem PySem.Spec PyProof.Rows L2
def oexB (K : PySem.W.Frag) (C : Addr) : Bool := match K.lookup C with
  | some ⟨.type "type", _, .cls cd, sl⟩ => (match cd.mro, sl.toList with
    | .ref C' :: bm, [_, _, _, _, some (.builtin n), _] => C' == C && (n == "ValueError.__new__" && (cd.hasDict && (!cd.hasDel && PySem.HandSPX.refsVE bm)))
    | _, _ => false)
  | _ => false
def xcB (K : PySem.W.Frag) (C : Addr) : Bool :=
  oexB K C && (He.eqO (PySem.W.findIn K (.ref C) "__setattr__") (some (some (.builtin "object.__setattr__"))) && (decide (PySem.W.subIn K (.ref C) (.type "BaseException") = some true) && (decide (PySem.W.typeIn K (.ref C) = some (.type "type")) && (PySem.W.keepIn K (.ref C) &&
  (He.eqO (PySem.W.findIn K (.ref C) "__getattribute__") (some (some (.builtin "BaseException.__getattribute__"))) && (He.eqO (PySem.W.findIn K (.ref C) "__getattr__") (some none) && (PySem.W.hasDictIn K C && (He.eqO (PySem.W.findIn K (.ref C) "__class__") (some (some (.builtin "object.__class__"))) &&
  (decide (PySem.W.mroIn K C (.type "object") = some true) && (He.eqO (PySem.W.specialIn K (.builtin "object.__class__") "__get__") (some (some (.builtin "getset_descriptor.__get__"))) && decide (PySem.W.takesIn K (.builtin "object.__class__") = some true)))))))))))
def keB (K : PySem.W.Frag) (B : Addr) : Bool := PySem.W.readsIn K B (.type "type") && (He.eqO (PySem.W.specialIn K (.ref B) "__getattribute__") (some (some (.builtin "type.__getattribute__"))) && match PySem.W.findCls K (.ref B) (.type "type") "__init__" with
  | some (.val v) => decide (v = .builtin "ValueError.__init__")
  | _ => false)
def xinB (K : PySem.W.Frag) (C f : Addr) (fs : List Str) : Bool := He.eqO (PySem.W.findIn K (.ref C) "__init__") (some (some (.ref f))) && (decide (PySem.W.typeIn K (.ref f) = some (.type "function")) && fs.all fun x => He.eqO (PySem.W.findIn K (.ref C) x) (some none))
structure SaysZ (fa : List He.Fa) (fn : List He.DefD) (ts : List He.Tab) (ex : PySem.W.Frag → Bool) (w : World) (K : PySem.W.Frag) : Prop where
  t : He.SaysT fa fn ts w K
  more : ex K = true
/-- a method of a class of the module -/
def clsMeth (s : Stmt) (j : Nat) : Stmt := match s with
  | .ClassDef _ _ _ b _ _ _ _ _ _ _ => b.getD j (.Pass ⟨0, 0, 0, 0⟩)
  | _ => .Pass ⟨0, 0, 0, 0⟩
def refsW (o : Obj) : List Addr := match o.data with
  | .seq its _ => its.toList.flatMap He.refV
  | .dict es _ => es.toList.flatMap fun e => He.refV e.val
  | .func fd => He.refV fd.code
  | .cls cd => [cd.ns]
  | _ => []
def growW (g : Addr → Option Obj) (as : List Addr) : List Addr := as.flatMap fun a => match g a with
  | some o => refsW o
  | none => []
def levW (g : Addr → Option Obj) : Nat → List Addr → List Addr
  | 0, as => as
  | n + 1, as => as ++ levW g n (growW g as)
def asW (g : Addr → Option Obj) (n : Nat) : List Addr := (levW g n [mainGlobals]) ++ [cStatics]
def obsW (n : Nat) (fa : List He.Fa) (fn : List He.DefD) (ts : List He.Tab) (ex : PySem.W.Frag → Bool) (g : Addr → Option Obj) : He.AlX := (He.obsT fa fn ts (He.frT g (asW g n)), ex (He.frT g (asW g n)))
def hookW (n : Nat) (fa : List He.Fa) (fn : List He.DefD) (ts : List He.Tab) (ex : PySem.W.Frag → Bool) : PySem.W.Hook where
  α := He.AlX
  obs := fun s => obsW n fa fn ts ex s.heap.get?
  val := fun w => He.valX fn ts w
  says := fun w h => ∃ K : PySem.W.Frag, K.In h ∧ SaysZ fa fn ts ex w K
  of := fun _ _ e => ⟨_, He.frT_in, ⟨congrArg (fun z : He.AlX => z.1) e, congrArg (fun z : He.AlX => z.2) e⟩⟩
  keeps := fun _ _ _ ⟨K, hK, c⟩ k => ⟨K, PySem.W.Frag.In.keeps hK k, c⟩
theorem obsW_eq {n : Nat} {fa : List He.Fa} {fn : List He.DefD} {ts : List He.Tab} {ex : PySem.W.Frag → Bool} {g : Addr → Option Obj} {s : Shared} (h : ∀ a, g a = s.heap.get? a) : obsW n fa fn ts ex g = (hookW n fa fn ts ex).obs s := by
  have e : g = s.heap.get? := funext h
  rw [e] <;> rfl
abbrev kW (n : Nat) (s : PySem.W.SharedT) : PySem.W.Frag := He.frT (HandSHeadRun.getT s) (asW (HandSHeadRun.getT s) n)
section
open HandSHeadRun PySem.W PySem.Calls
noncomputable abbrev endW (r : OpenRow) (M : Nat) (w : World) (os : OsState) : Option SharedT := endF (stepQ (denQ tabQ) r.prog w) M r.prog w os
abbrev Part1 (r : OpenRow) (q : Program) (loose : List PySem.Str) (M : Nat) (w : World) : Prop := ∀ os, (endW r M w os).map (fun s => (looksF r.prog (boot_heap w.params) s.abs, seenQ q loose (importedModules r.prog.main.body) (fun s => xlAt q [] s && recOk r.toRowW.records s) s.abs)) = some (true, openGood q loose)
abbrev Part2 (r : OpenRow) (n : Nat) (fa : List He.Fa) (ts : List He.Tab) (ex : Frag → Bool) (M : Nat) (w : World) : Prop := ∀ os, (endW r M w os).map (fun s => (fa.all (fun f => f.ok (kW n s)), ts.map (fun t => He.dicW (kW n s) (t.1 (kW n s))), ex (kW n s))) = some (true, ts.map (fun t => some (He.keysIn w.params t.2)), true)
abbrev Part3 (r : OpenRow) (n : Nat) (fn : List He.DefD) (M : Nat) (w : World) : Prop := ∀ os, (endW r M w os).map (fun s => (fn.all (fun d => d.ok (kW n s)), fn.map fun d => He.fnW (kW n s) d.at_)) = some (true, fn.map He.DefD.val)
theorem run_parts {r : OpenRow} {q : Program} {n : Nat} {fa : List He.Fa} {fn : List He.DefD} {ts : List He.Tab} {ex : Frag → Bool} {M : Nat} {loose : List PySem.Str} {w : World} (h1 : Part1 r q loose M w) (h2 : Part2 r n fa ts ex M w) (h3 : Part3 r n fn M w) :
    RunEq r q (hookW n fa fn ts ex) (fun s => obsW n fa fn ts ex (getT s)) M loose w := fun os => by
  have k1 := h1 os
  have k2 := h2 os
  have k3 := h3 os
  unfold endW at k1 k2 k3
  obtain ⟨s, e, a1⟩ := Option.map_eq_some_iff.mp k1
  rw [e] at k2 k3 ⊢
  have a2 := Option.some.inj k2
  have a3 := Option.some.inj k3
  injection a1 with b1 b2
  injection a2 with b3 b4
  injection b4 with b4 b5
  injection a3 with b6 b7
  show some (looksF r.prog (boot_heap w.params) s.abs, seenQ q loose (importedModules r.prog.main.body) (fun s => xlAt q [] s && recOk r.toRowW.records s) s.abs, ((((fa.all fun f => f.ok (kW n s)) && fn.all fun d => d.ok (kW n s), fn.map fun d => He.fnW (kW n s) d.at_), ts.map fun t => He.dicW (kW n s) (t.1 (kW n s))), ex (kW n s))) = some (true, openGood q loose, (((true, fn.map He.DefD.val), ts.map fun t => some (He.keysIn w.params t.2)), true))
  rw [b1, b2, b3, b4, b5, b6, b7]
  rfl
end
end TL
namespace K75
open PySem PySem.Spec PyProof.Rows TL
open L2 hiding putF
def top (i : Nat) : Stmt := PySem.Challenge.pw_kinlines_k75_refusals_made.main.body.getD i (.Pass ⟨0, 0, 0, 0⟩)
abbrev s_law_pen_of : Stmt := top 20
abbrev s_law_draw : Stmt := top 21
abbrev s_law_are_same : Stmt := top 22
abbrev s_law_fault_of : Stmt := top 23
abbrev s_law_made : Stmt := top 24
abbrev s_law_field : Stmt := top 25
abbrev s_the_law : Stmt := top 26
abbrev si_NoBook : Stmt := clsMeth (top 2) 0
abbrev si_NoRow : Stmt := clsMeth (top 3) 0
abbrev si_NoName : Stmt := clsMeth (top 4) 0
abbrev si_Known : Stmt := clsMeth (top 5) 0
abbrev si_Unknown : Stmt := clsMeth (top 6) 0
abbrev si_InUse : Stmt := clsMeth (top 7) 0
abbrev si_TooMuch : Stmt := clsMeth (top 8) 0
abbrev si_NoText : Stmt := clsMeth (top 9) 0
abbrev si_TooMany : Stmt := clsMeth (top 10) 0
abbrev si_NoReading : Stmt := clsMeth (top 11) 0
abbrev si_NoRows : Stmt := clsMeth (top 12) 0
abbrev si_NoDrawing : Stmt := clsMeth (top 13) 0
abbrev si_NoPicture : Stmt := clsMeth (top 14) 0
abbrev si_NoPairs : Stmt := clsMeth (top 15) 0
abbrev si_Twice : Stmt := clsMeth (top 16) 0
abbrev si_Marks : Stmt := clsMeth (top 17) 0
abbrev si_NotPlain : Stmt := clsMeth (top 18) 0

end K75
namespace K75
open PySem PySem.Spec PyProof.Rows TL
open L2 hiding putF
def tbs : List He.Tab := []
def h_law_pen_of : He.DefD := ⟨("_law_pen_of", none), "_law_pen_of", "_law_pen_of", defArgs s_law_pen_of, defBody s_law_pen_of, defScope s_law_pen_of, [], []⟩
def h_law_draw : He.DefD := ⟨("_law_draw", none), "_law_draw", "_law_draw", defArgs s_law_draw, defBody s_law_draw, defScope s_law_draw, [], []⟩
def h_law_are_same : He.DefD := ⟨("_law_are_same", none), "_law_are_same", "_law_are_same", defArgs s_law_are_same, defBody s_law_are_same, defScope s_law_are_same, [], []⟩
def h_law_fault_of : He.DefD := ⟨("_law_fault_of", none), "_law_fault_of", "_law_fault_of", defArgs s_law_fault_of, defBody s_law_fault_of, defScope s_law_fault_of, [], []⟩
def h_law_made : He.DefD := ⟨("_law_made", none), "_law_made", "_law_made", defArgs s_law_made, defBody s_law_made, defScope s_law_made, [], []⟩
def h_law_field : He.DefD := ⟨("_law_field", none), "_law_field", "_law_field", defArgs s_law_field, defBody s_law_field, defScope s_law_field, [], []⟩
def h_the_law : He.DefD := ⟨("law", none), "law", "law", defArgs s_the_law, defBody s_the_law, defScope s_the_law, [], []⟩
def hi_NoBook : He.DefD := ⟨("NoBook", some "__init__"), "__init__", "NoBook.__init__", defArgs si_NoBook, defBody si_NoBook, defScope si_NoBook, [], []⟩
def hi_NoRow : He.DefD := ⟨("NoRow", some "__init__"), "__init__", "NoRow.__init__", defArgs si_NoRow, defBody si_NoRow, defScope si_NoRow, [], []⟩
def hi_NoName : He.DefD := ⟨("NoName", some "__init__"), "__init__", "NoName.__init__", defArgs si_NoName, defBody si_NoName, defScope si_NoName, [], []⟩
def hi_Known : He.DefD := ⟨("Known", some "__init__"), "__init__", "Known.__init__", defArgs si_Known, defBody si_Known, defScope si_Known, [], []⟩
def hi_Unknown : He.DefD := ⟨("Unknown", some "__init__"), "__init__", "Unknown.__init__", defArgs si_Unknown, defBody si_Unknown, defScope si_Unknown, [], []⟩
def hi_InUse : He.DefD := ⟨("InUse", some "__init__"), "__init__", "InUse.__init__", defArgs si_InUse, defBody si_InUse, defScope si_InUse, [], []⟩
def hi_TooMuch : He.DefD := ⟨("TooMuch", some "__init__"), "__init__", "TooMuch.__init__", defArgs si_TooMuch, defBody si_TooMuch, defScope si_TooMuch, [], []⟩
def hi_NoText : He.DefD := ⟨("NoText", some "__init__"), "__init__", "NoText.__init__", defArgs si_NoText, defBody si_NoText, defScope si_NoText, [], []⟩
def hi_TooMany : He.DefD := ⟨("TooMany", some "__init__"), "__init__", "TooMany.__init__", defArgs si_TooMany, defBody si_TooMany, defScope si_TooMany, [], []⟩
def hi_NoReading : He.DefD := ⟨("NoReading", some "__init__"), "__init__", "NoReading.__init__", defArgs si_NoReading, defBody si_NoReading, defScope si_NoReading, [], []⟩
def hi_NoRows : He.DefD := ⟨("NoRows", some "__init__"), "__init__", "NoRows.__init__", defArgs si_NoRows, defBody si_NoRows, defScope si_NoRows, [], []⟩
def hi_NoDrawing : He.DefD := ⟨("NoDrawing", some "__init__"), "__init__", "NoDrawing.__init__", defArgs si_NoDrawing, defBody si_NoDrawing, defScope si_NoDrawing, [], []⟩
def hi_NoPicture : He.DefD := ⟨("NoPicture", some "__init__"), "__init__", "NoPicture.__init__", defArgs si_NoPicture, defBody si_NoPicture, defScope si_NoPicture, [], []⟩
def hi_NoPairs : He.DefD := ⟨("NoPairs", some "__init__"), "__init__", "NoPairs.__init__", defArgs si_NoPairs, defBody si_NoPairs, defScope si_NoPairs, [], []⟩
def hi_Twice : He.DefD := ⟨("Twice", some "__init__"), "__init__", "Twice.__init__", defArgs si_Twice, defBody si_Twice, defScope si_Twice, [], []⟩
def hi_Marks : He.DefD := ⟨("Marks", some "__init__"), "__init__", "Marks.__init__", defArgs si_Marks, defBody si_Marks, defScope si_Marks, [], []⟩
def hi_NotPlain : He.DefD := ⟨("NotPlain", some "__init__"), "__init__", "NotPlain.__init__", defArgs si_NotPlain, defBody si_NotPlain, defScope si_NotPlain, [], []⟩
def fn : List He.DefD := [h_law_pen_of, h_law_draw, h_law_are_same, h_law_fault_of, h_law_made, h_law_field, h_the_law, hi_NoBook, hi_NoRow, hi_NoName, hi_Known, hi_Unknown, hi_InUse, hi_TooMuch, hi_NoText, hi_TooMany, hi_NoReading, hi_NoRows, hi_NoDrawing, hi_NoPicture, hi_NoPairs, hi_Twice, hi_Marks, hi_NotPlain]
def fa : List He.Fa := [.free "ValueError", .free "abs", .free "all", .free "bool", .free "enumerate", .free "int", .free "isinstance", .free "len", .free "list", .free "range", .free "str", .free "tuple", .free "zip", .glo "_law_pen_of", .glo "_law_draw", .glo "_law_are_same", .glo "_law_fault_of", .glo "_law_made", .glo "_law_field", .glo "law", .glo "KinError", .glo "NoBook", .glo "NoRow", .glo "NoName", .glo "Known", .glo "Unknown", .glo "InUse", .glo "TooMuch", .glo "NoText", .glo "TooMany", .glo "NoReading", .glo "NoRows", .glo "NoDrawing", .glo "NoPicture", .glo "NoPairs", .glo "Twice", .glo "Marks", .glo "NotPlain"]
def ex (K : PySem.W.Frag) : Bool := ([keB K (He.ga K "KinError"), decide (PySem.W.kitOne K (.ref (He.ga K "NoBook")) (.ref (He.ga K "Known")) = some false), decide (PySem.W.kitOne K (.ref (He.ga K "NoBook")) (.ref (He.ga K "NoName")) = some false), decide (PySem.W.kitOne K (.ref (He.ga K "NoBook")) (.ref (He.ga K "NoRow")) = some false), decide (PySem.W.kitOne K (.ref (He.ga K "NoBook")) (.ref (He.ga K "NoBook")) = some true), decide (PySem.W.kitOne K (.ref (He.ga K "NoBook")) (.ref (He.ga K "NoText")) = some false), decide (PySem.W.kitOne K (.ref (He.ga K "NoBook")) (.ref (He.ga K "TooMuch")) = some false), decide (PySem.W.kitOne K (.ref (He.ga K "NoBook")) (.ref (He.ga K "InUse")) = some false), decide (PySem.W.kitOne K (.ref (He.ga K "NoBook")) (.ref (He.ga K "Unknown")) = some false), decide (PySem.W.kitOne K (.ref (He.ga K "NoBook")) (.ref (He.ga K "NoDrawing")) = some false), decide (PySem.W.kitOne K (.ref (He.ga K "NoBook")) (.ref (He.ga K "NoRows")) = some false), decide (PySem.W.kitOne K (.ref (He.ga K "NoBook")) (.ref (He.ga K "NoReading")) = some false), decide (PySem.W.kitOne K (.ref (He.ga K "NoBook")) (.ref (He.ga K "TooMany")) = some false), decide (PySem.W.kitOne K (.ref (He.ga K "NoBook")) (.ref (He.ga K "Marks")) = some false), decide (PySem.W.kitOne K (.ref (He.ga K "NoBook")) (.ref (He.ga K "Twice")) = some false), decide (PySem.W.kitOne K (.ref (He.ga K "NoBook")) (.ref (He.ga K "NoPairs")) = some false), decide (PySem.W.kitOne K (.ref (He.ga K "NoBook")) (.ref (He.ga K "NoPicture")) = some false), decide (PySem.W.kitOne K (.ref (He.ga K "NoBook")) (.ref (He.ga K "NotPlain")) = some false), decide (PySem.W.kitOne K (.ref (He.ga K "NoBook")) (.type "ValueError") = some true), decide (PySem.W.kitOne K (.ref (He.ga K "NoBook")) (.ref (He.ga K "KinError")) = some true), decide (PySem.W.kitOne K (.ref (He.ga K "NoRow")) (.ref (He.ga K "Known")) = some false), decide (PySem.W.kitOne K (.ref (He.ga K "NoRow")) (.ref (He.ga K "NoName")) = some false), decide (PySem.W.kitOne K (.ref (He.ga K "NoRow")) (.ref (He.ga K "NoRow")) = some true), decide (PySem.W.kitOne K (.ref (He.ga K "NoRow")) (.ref (He.ga K "NoBook")) = some false), decide (PySem.W.kitOne K (.ref (He.ga K "NoRow")) (.ref (He.ga K "NoText")) = some false), decide (PySem.W.kitOne K (.ref (He.ga K "NoRow")) (.ref (He.ga K "TooMuch")) = some false), decide (PySem.W.kitOne K (.ref (He.ga K "NoRow")) (.ref (He.ga K "InUse")) = some false), decide (PySem.W.kitOne K (.ref (He.ga K "NoRow")) (.ref (He.ga K "Unknown")) = some false), decide (PySem.W.kitOne K (.ref (He.ga K "NoRow")) (.ref (He.ga K "NoDrawing")) = some false), decide (PySem.W.kitOne K (.ref (He.ga K "NoRow")) (.ref (He.ga K "NoRows")) = some false), decide (PySem.W.kitOne K (.ref (He.ga K "NoRow")) (.ref (He.ga K "NoReading")) = some false), decide (PySem.W.kitOne K (.ref (He.ga K "NoRow")) (.ref (He.ga K "TooMany")) = some false), decide (PySem.W.kitOne K (.ref (He.ga K "NoRow")) (.ref (He.ga K "Marks")) = some false), decide (PySem.W.kitOne K (.ref (He.ga K "NoRow")) (.ref (He.ga K "Twice")) = some false), decide (PySem.W.kitOne K (.ref (He.ga K "NoRow")) (.ref (He.ga K "NoPairs")) = some false), decide (PySem.W.kitOne K (.ref (He.ga K "NoRow")) (.ref (He.ga K "NoPicture")) = some false), decide (PySem.W.kitOne K (.ref (He.ga K "NoRow")) (.ref (He.ga K "NotPlain")) = some false), decide (PySem.W.kitOne K (.ref (He.ga K "NoRow")) (.type "ValueError") = some true), decide (PySem.W.kitOne K (.ref (He.ga K "NoRow")) (.ref (He.ga K "KinError")) = some true), decide (PySem.W.kitOne K (.ref (He.ga K "NoName")) (.ref (He.ga K "Known")) = some false), decide (PySem.W.kitOne K (.ref (He.ga K "NoName")) (.ref (He.ga K "NoName")) = some true), decide (PySem.W.kitOne K (.ref (He.ga K "NoName")) (.ref (He.ga K "NoRow")) = some false), decide (PySem.W.kitOne K (.ref (He.ga K "NoName")) (.ref (He.ga K "NoBook")) = some false), decide (PySem.W.kitOne K (.ref (He.ga K "NoName")) (.ref (He.ga K "NoText")) = some false), decide (PySem.W.kitOne K (.ref (He.ga K "NoName")) (.ref (He.ga K "TooMuch")) = some false), decide (PySem.W.kitOne K (.ref (He.ga K "NoName")) (.ref (He.ga K "InUse")) = some false), decide (PySem.W.kitOne K (.ref (He.ga K "NoName")) (.ref (He.ga K "Unknown")) = some false), decide (PySem.W.kitOne K (.ref (He.ga K "NoName")) (.ref (He.ga K "NoDrawing")) = some false), decide (PySem.W.kitOne K (.ref (He.ga K "NoName")) (.ref (He.ga K "NoRows")) = some false), decide (PySem.W.kitOne K (.ref (He.ga K "NoName")) (.ref (He.ga K "NoReading")) = some false), decide (PySem.W.kitOne K (.ref (He.ga K "NoName")) (.ref (He.ga K "TooMany")) = some false), decide (PySem.W.kitOne K (.ref (He.ga K "NoName")) (.ref (He.ga K "Marks")) = some false), decide (PySem.W.kitOne K (.ref (He.ga K "NoName")) (.ref (He.ga K "Twice")) = some false), decide (PySem.W.kitOne K (.ref (He.ga K "NoName")) (.ref (He.ga K "NoPairs")) = some false), decide (PySem.W.kitOne K (.ref (He.ga K "NoName")) (.ref (He.ga K "NoPicture")) = some false), decide (PySem.W.kitOne K (.ref (He.ga K "NoName")) (.ref (He.ga K "NotPlain")) = some false), decide (PySem.W.kitOne K (.ref (He.ga K "NoName")) (.type "ValueError") = some true), decide (PySem.W.kitOne K (.ref (He.ga K "NoName")) (.ref (He.ga K "KinError")) = some true), decide (PySem.W.kitOne K (.ref (He.ga K "Known")) (.ref (He.ga K "Known")) = some true), decide (PySem.W.kitOne K (.ref (He.ga K "Known")) (.ref (He.ga K "NoName")) = some false), decide (PySem.W.kitOne K (.ref (He.ga K "Known")) (.ref (He.ga K "NoRow")) = some false), decide (PySem.W.kitOne K (.ref (He.ga K "Known")) (.ref (He.ga K "NoBook")) = some false), decide (PySem.W.kitOne K (.ref (He.ga K "Known")) (.ref (He.ga K "NoText")) = some false), decide (PySem.W.kitOne K (.ref (He.ga K "Known")) (.ref (He.ga K "TooMuch")) = some false), decide (PySem.W.kitOne K (.ref (He.ga K "Known")) (.ref (He.ga K "InUse")) = some false), decide (PySem.W.kitOne K (.ref (He.ga K "Known")) (.ref (He.ga K "Unknown")) = some false), decide (PySem.W.kitOne K (.ref (He.ga K "Known")) (.ref (He.ga K "NoDrawing")) = some false), decide (PySem.W.kitOne K (.ref (He.ga K "Known")) (.ref (He.ga K "NoRows")) = some false), decide (PySem.W.kitOne K (.ref (He.ga K "Known")) (.ref (He.ga K "NoReading")) = some false), decide (PySem.W.kitOne K (.ref (He.ga K "Known")) (.ref (He.ga K "TooMany")) = some false), decide (PySem.W.kitOne K (.ref (He.ga K "Known")) (.ref (He.ga K "Marks")) = some false), decide (PySem.W.kitOne K (.ref (He.ga K "Known")) (.ref (He.ga K "Twice")) = some false), decide (PySem.W.kitOne K (.ref (He.ga K "Known")) (.ref (He.ga K "NoPairs")) = some false), decide (PySem.W.kitOne K (.ref (He.ga K "Known")) (.ref (He.ga K "NoPicture")) = some false), decide (PySem.W.kitOne K (.ref (He.ga K "Known")) (.ref (He.ga K "NotPlain")) = some false), decide (PySem.W.kitOne K (.ref (He.ga K "Known")) (.type "ValueError") = some true), decide (PySem.W.kitOne K (.ref (He.ga K "Known")) (.ref (He.ga K "KinError")) = some true), decide (PySem.W.kitOne K (.ref (He.ga K "Unknown")) (.ref (He.ga K "Known")) = some false), decide (PySem.W.kitOne K (.ref (He.ga K "Unknown")) (.ref (He.ga K "NoName")) = some false), decide (PySem.W.kitOne K (.ref (He.ga K "Unknown")) (.ref (He.ga K "NoRow")) = some false), decide (PySem.W.kitOne K (.ref (He.ga K "Unknown")) (.ref (He.ga K "NoBook")) = some false), decide (PySem.W.kitOne K (.ref (He.ga K "Unknown")) (.ref (He.ga K "NoText")) = some false), decide (PySem.W.kitOne K (.ref (He.ga K "Unknown")) (.ref (He.ga K "TooMuch")) = some false), decide (PySem.W.kitOne K (.ref (He.ga K "Unknown")) (.ref (He.ga K "InUse")) = some false), decide (PySem.W.kitOne K (.ref (He.ga K "Unknown")) (.ref (He.ga K "Unknown")) = some true), decide (PySem.W.kitOne K (.ref (He.ga K "Unknown")) (.ref (He.ga K "NoDrawing")) = some false), decide (PySem.W.kitOne K (.ref (He.ga K "Unknown")) (.ref (He.ga K "NoRows")) = some false), decide (PySem.W.kitOne K (.ref (He.ga K "Unknown")) (.ref (He.ga K "NoReading")) = some false), decide (PySem.W.kitOne K (.ref (He.ga K "Unknown")) (.ref (He.ga K "TooMany")) = some false), decide (PySem.W.kitOne K (.ref (He.ga K "Unknown")) (.ref (He.ga K "Marks")) = some false), decide (PySem.W.kitOne K (.ref (He.ga K "Unknown")) (.ref (He.ga K "Twice")) = some false), decide (PySem.W.kitOne K (.ref (He.ga K "Unknown")) (.ref (He.ga K "NoPairs")) = some false), decide (PySem.W.kitOne K (.ref (He.ga K "Unknown")) (.ref (He.ga K "NoPicture")) = some false), decide (PySem.W.kitOne K (.ref (He.ga K "Unknown")) (.ref (He.ga K "NotPlain")) = some false), decide (PySem.W.kitOne K (.ref (He.ga K "Unknown")) (.type "ValueError") = some true), decide (PySem.W.kitOne K (.ref (He.ga K "Unknown")) (.ref (He.ga K "KinError")) = some true), decide (PySem.W.kitOne K (.ref (He.ga K "InUse")) (.ref (He.ga K "Known")) = some false), decide (PySem.W.kitOne K (.ref (He.ga K "InUse")) (.ref (He.ga K "NoName")) = some false), decide (PySem.W.kitOne K (.ref (He.ga K "InUse")) (.ref (He.ga K "NoRow")) = some false), decide (PySem.W.kitOne K (.ref (He.ga K "InUse")) (.ref (He.ga K "NoBook")) = some false), decide (PySem.W.kitOne K (.ref (He.ga K "InUse")) (.ref (He.ga K "NoText")) = some false), decide (PySem.W.kitOne K (.ref (He.ga K "InUse")) (.ref (He.ga K "TooMuch")) = some false), decide (PySem.W.kitOne K (.ref (He.ga K "InUse")) (.ref (He.ga K "InUse")) = some true), decide (PySem.W.kitOne K (.ref (He.ga K "InUse")) (.ref (He.ga K "Unknown")) = some false), decide (PySem.W.kitOne K (.ref (He.ga K "InUse")) (.ref (He.ga K "NoDrawing")) = some false), decide (PySem.W.kitOne K (.ref (He.ga K "InUse")) (.ref (He.ga K "NoRows")) = some false), decide (PySem.W.kitOne K (.ref (He.ga K "InUse")) (.ref (He.ga K "NoReading")) = some false), decide (PySem.W.kitOne K (.ref (He.ga K "InUse")) (.ref (He.ga K "TooMany")) = some false), decide (PySem.W.kitOne K (.ref (He.ga K "InUse")) (.ref (He.ga K "Marks")) = some false), decide (PySem.W.kitOne K (.ref (He.ga K "InUse")) (.ref (He.ga K "Twice")) = some false), decide (PySem.W.kitOne K (.ref (He.ga K "InUse")) (.ref (He.ga K "NoPairs")) = some false), decide (PySem.W.kitOne K (.ref (He.ga K "InUse")) (.ref (He.ga K "NoPicture")) = some false), decide (PySem.W.kitOne K (.ref (He.ga K "InUse")) (.ref (He.ga K "NotPlain")) = some false), decide (PySem.W.kitOne K (.ref (He.ga K "InUse")) (.type "ValueError") = some true), decide (PySem.W.kitOne K (.ref (He.ga K "InUse")) (.ref (He.ga K "KinError")) = some true), decide (PySem.W.kitOne K (.ref (He.ga K "TooMuch")) (.ref (He.ga K "Known")) = some false), decide (PySem.W.kitOne K (.ref (He.ga K "TooMuch")) (.ref (He.ga K "NoName")) = some false), decide (PySem.W.kitOne K (.ref (He.ga K "TooMuch")) (.ref (He.ga K "NoRow")) = some false), decide (PySem.W.kitOne K (.ref (He.ga K "TooMuch")) (.ref (He.ga K "NoBook")) = some false), decide (PySem.W.kitOne K (.ref (He.ga K "TooMuch")) (.ref (He.ga K "NoText")) = some false), decide (PySem.W.kitOne K (.ref (He.ga K "TooMuch")) (.ref (He.ga K "TooMuch")) = some true), decide (PySem.W.kitOne K (.ref (He.ga K "TooMuch")) (.ref (He.ga K "InUse")) = some false), decide (PySem.W.kitOne K (.ref (He.ga K "TooMuch")) (.ref (He.ga K "Unknown")) = some false), decide (PySem.W.kitOne K (.ref (He.ga K "TooMuch")) (.ref (He.ga K "NoDrawing")) = some false), decide (PySem.W.kitOne K (.ref (He.ga K "TooMuch")) (.ref (He.ga K "NoRows")) = some false), decide (PySem.W.kitOne K (.ref (He.ga K "TooMuch")) (.ref (He.ga K "NoReading")) = some false), decide (PySem.W.kitOne K (.ref (He.ga K "TooMuch")) (.ref (He.ga K "TooMany")) = some false), decide (PySem.W.kitOne K (.ref (He.ga K "TooMuch")) (.ref (He.ga K "Marks")) = some false), decide (PySem.W.kitOne K (.ref (He.ga K "TooMuch")) (.ref (He.ga K "Twice")) = some false), decide (PySem.W.kitOne K (.ref (He.ga K "TooMuch")) (.ref (He.ga K "NoPairs")) = some false), decide (PySem.W.kitOne K (.ref (He.ga K "TooMuch")) (.ref (He.ga K "NoPicture")) = some false), decide (PySem.W.kitOne K (.ref (He.ga K "TooMuch")) (.ref (He.ga K "NotPlain")) = some false), decide (PySem.W.kitOne K (.ref (He.ga K "TooMuch")) (.type "ValueError") = some true), decide (PySem.W.kitOne K (.ref (He.ga K "TooMuch")) (.ref (He.ga K "KinError")) = some true), decide (PySem.W.kitOne K (.ref (He.ga K "NoText")) (.ref (He.ga K "Known")) = some false), decide (PySem.W.kitOne K (.ref (He.ga K "NoText")) (.ref (He.ga K "NoName")) = some false), decide (PySem.W.kitOne K (.ref (He.ga K "NoText")) (.ref (He.ga K "NoRow")) = some false), decide (PySem.W.kitOne K (.ref (He.ga K "NoText")) (.ref (He.ga K "NoBook")) = some false), decide (PySem.W.kitOne K (.ref (He.ga K "NoText")) (.ref (He.ga K "NoText")) = some true), decide (PySem.W.kitOne K (.ref (He.ga K "NoText")) (.ref (He.ga K "TooMuch")) = some false), decide (PySem.W.kitOne K (.ref (He.ga K "NoText")) (.ref (He.ga K "InUse")) = some false), decide (PySem.W.kitOne K (.ref (He.ga K "NoText")) (.ref (He.ga K "Unknown")) = some false), decide (PySem.W.kitOne K (.ref (He.ga K "NoText")) (.ref (He.ga K "NoDrawing")) = some false), decide (PySem.W.kitOne K (.ref (He.ga K "NoText")) (.ref (He.ga K "NoRows")) = some false), decide (PySem.W.kitOne K (.ref (He.ga K "NoText")) (.ref (He.ga K "NoReading")) = some false), decide (PySem.W.kitOne K (.ref (He.ga K "NoText")) (.ref (He.ga K "TooMany")) = some false), decide (PySem.W.kitOne K (.ref (He.ga K "NoText")) (.ref (He.ga K "Marks")) = some false), decide (PySem.W.kitOne K (.ref (He.ga K "NoText")) (.ref (He.ga K "Twice")) = some false), decide (PySem.W.kitOne K (.ref (He.ga K "NoText")) (.ref (He.ga K "NoPairs")) = some false), decide (PySem.W.kitOne K (.ref (He.ga K "NoText")) (.ref (He.ga K "NoPicture")) = some false), decide (PySem.W.kitOne K (.ref (He.ga K "NoText")) (.ref (He.ga K "NotPlain")) = some false), decide (PySem.W.kitOne K (.ref (He.ga K "NoText")) (.type "ValueError") = some true), decide (PySem.W.kitOne K (.ref (He.ga K "NoText")) (.ref (He.ga K "KinError")) = some true), decide (PySem.W.kitOne K (.ref (He.ga K "TooMany")) (.ref (He.ga K "Known")) = some false), decide (PySem.W.kitOne K (.ref (He.ga K "TooMany")) (.ref (He.ga K "NoName")) = some false), decide (PySem.W.kitOne K (.ref (He.ga K "TooMany")) (.ref (He.ga K "NoRow")) = some false), decide (PySem.W.kitOne K (.ref (He.ga K "TooMany")) (.ref (He.ga K "NoBook")) = some false), decide (PySem.W.kitOne K (.ref (He.ga K "TooMany")) (.ref (He.ga K "NoText")) = some false), decide (PySem.W.kitOne K (.ref (He.ga K "TooMany")) (.ref (He.ga K "TooMuch")) = some false), decide (PySem.W.kitOne K (.ref (He.ga K "TooMany")) (.ref (He.ga K "InUse")) = some false), decide (PySem.W.kitOne K (.ref (He.ga K "TooMany")) (.ref (He.ga K "Unknown")) = some false), decide (PySem.W.kitOne K (.ref (He.ga K "TooMany")) (.ref (He.ga K "NoDrawing")) = some false), decide (PySem.W.kitOne K (.ref (He.ga K "TooMany")) (.ref (He.ga K "NoRows")) = some false), decide (PySem.W.kitOne K (.ref (He.ga K "TooMany")) (.ref (He.ga K "NoReading")) = some false), decide (PySem.W.kitOne K (.ref (He.ga K "TooMany")) (.ref (He.ga K "TooMany")) = some true), decide (PySem.W.kitOne K (.ref (He.ga K "TooMany")) (.ref (He.ga K "Marks")) = some false), decide (PySem.W.kitOne K (.ref (He.ga K "TooMany")) (.ref (He.ga K "Twice")) = some false), decide (PySem.W.kitOne K (.ref (He.ga K "TooMany")) (.ref (He.ga K "NoPairs")) = some false), decide (PySem.W.kitOne K (.ref (He.ga K "TooMany")) (.ref (He.ga K "NoPicture")) = some false), decide (PySem.W.kitOne K (.ref (He.ga K "TooMany")) (.ref (He.ga K "NotPlain")) = some false), decide (PySem.W.kitOne K (.ref (He.ga K "TooMany")) (.type "ValueError") = some true), decide (PySem.W.kitOne K (.ref (He.ga K "TooMany")) (.ref (He.ga K "KinError")) = some true), decide (PySem.W.kitOne K (.ref (He.ga K "NoReading")) (.ref (He.ga K "Known")) = some false), decide (PySem.W.kitOne K (.ref (He.ga K "NoReading")) (.ref (He.ga K "NoName")) = some false), decide (PySem.W.kitOne K (.ref (He.ga K "NoReading")) (.ref (He.ga K "NoRow")) = some false), decide (PySem.W.kitOne K (.ref (He.ga K "NoReading")) (.ref (He.ga K "NoBook")) = some false), decide (PySem.W.kitOne K (.ref (He.ga K "NoReading")) (.ref (He.ga K "NoText")) = some false), decide (PySem.W.kitOne K (.ref (He.ga K "NoReading")) (.ref (He.ga K "TooMuch")) = some false), decide (PySem.W.kitOne K (.ref (He.ga K "NoReading")) (.ref (He.ga K "InUse")) = some false), decide (PySem.W.kitOne K (.ref (He.ga K "NoReading")) (.ref (He.ga K "Unknown")) = some false), decide (PySem.W.kitOne K (.ref (He.ga K "NoReading")) (.ref (He.ga K "NoDrawing")) = some false), decide (PySem.W.kitOne K (.ref (He.ga K "NoReading")) (.ref (He.ga K "NoRows")) = some false), decide (PySem.W.kitOne K (.ref (He.ga K "NoReading")) (.ref (He.ga K "NoReading")) = some true), decide (PySem.W.kitOne K (.ref (He.ga K "NoReading")) (.ref (He.ga K "TooMany")) = some false), decide (PySem.W.kitOne K (.ref (He.ga K "NoReading")) (.ref (He.ga K "Marks")) = some false), decide (PySem.W.kitOne K (.ref (He.ga K "NoReading")) (.ref (He.ga K "Twice")) = some false), decide (PySem.W.kitOne K (.ref (He.ga K "NoReading")) (.ref (He.ga K "NoPairs")) = some false), decide (PySem.W.kitOne K (.ref (He.ga K "NoReading")) (.ref (He.ga K "NoPicture")) = some false), decide (PySem.W.kitOne K (.ref (He.ga K "NoReading")) (.ref (He.ga K "NotPlain")) = some false), decide (PySem.W.kitOne K (.ref (He.ga K "NoReading")) (.type "ValueError") = some true), decide (PySem.W.kitOne K (.ref (He.ga K "NoReading")) (.ref (He.ga K "KinError")) = some true), decide (PySem.W.kitOne K (.ref (He.ga K "NoRows")) (.ref (He.ga K "Known")) = some false), decide (PySem.W.kitOne K (.ref (He.ga K "NoRows")) (.ref (He.ga K "NoName")) = some false), decide (PySem.W.kitOne K (.ref (He.ga K "NoRows")) (.ref (He.ga K "NoRow")) = some false), decide (PySem.W.kitOne K (.ref (He.ga K "NoRows")) (.ref (He.ga K "NoBook")) = some false), decide (PySem.W.kitOne K (.ref (He.ga K "NoRows")) (.ref (He.ga K "NoText")) = some false), decide (PySem.W.kitOne K (.ref (He.ga K "NoRows")) (.ref (He.ga K "TooMuch")) = some false), decide (PySem.W.kitOne K (.ref (He.ga K "NoRows")) (.ref (He.ga K "InUse")) = some false), decide (PySem.W.kitOne K (.ref (He.ga K "NoRows")) (.ref (He.ga K "Unknown")) = some false), decide (PySem.W.kitOne K (.ref (He.ga K "NoRows")) (.ref (He.ga K "NoDrawing")) = some false), decide (PySem.W.kitOne K (.ref (He.ga K "NoRows")) (.ref (He.ga K "NoRows")) = some true), decide (PySem.W.kitOne K (.ref (He.ga K "NoRows")) (.ref (He.ga K "NoReading")) = some false), decide (PySem.W.kitOne K (.ref (He.ga K "NoRows")) (.ref (He.ga K "TooMany")) = some false), decide (PySem.W.kitOne K (.ref (He.ga K "NoRows")) (.ref (He.ga K "Marks")) = some false), decide (PySem.W.kitOne K (.ref (He.ga K "NoRows")) (.ref (He.ga K "Twice")) = some false), decide (PySem.W.kitOne K (.ref (He.ga K "NoRows")) (.ref (He.ga K "NoPairs")) = some false), decide (PySem.W.kitOne K (.ref (He.ga K "NoRows")) (.ref (He.ga K "NoPicture")) = some false), decide (PySem.W.kitOne K (.ref (He.ga K "NoRows")) (.ref (He.ga K "NotPlain")) = some false), decide (PySem.W.kitOne K (.ref (He.ga K "NoRows")) (.type "ValueError") = some true), decide (PySem.W.kitOne K (.ref (He.ga K "NoRows")) (.ref (He.ga K "KinError")) = some true), decide (PySem.W.kitOne K (.ref (He.ga K "NoDrawing")) (.ref (He.ga K "Known")) = some false), decide (PySem.W.kitOne K (.ref (He.ga K "NoDrawing")) (.ref (He.ga K "NoName")) = some false), decide (PySem.W.kitOne K (.ref (He.ga K "NoDrawing")) (.ref (He.ga K "NoRow")) = some false), decide (PySem.W.kitOne K (.ref (He.ga K "NoDrawing")) (.ref (He.ga K "NoBook")) = some false), decide (PySem.W.kitOne K (.ref (He.ga K "NoDrawing")) (.ref (He.ga K "NoText")) = some false), decide (PySem.W.kitOne K (.ref (He.ga K "NoDrawing")) (.ref (He.ga K "TooMuch")) = some false), decide (PySem.W.kitOne K (.ref (He.ga K "NoDrawing")) (.ref (He.ga K "InUse")) = some false), decide (PySem.W.kitOne K (.ref (He.ga K "NoDrawing")) (.ref (He.ga K "Unknown")) = some false), decide (PySem.W.kitOne K (.ref (He.ga K "NoDrawing")) (.ref (He.ga K "NoDrawing")) = some true), decide (PySem.W.kitOne K (.ref (He.ga K "NoDrawing")) (.ref (He.ga K "NoRows")) = some false), decide (PySem.W.kitOne K (.ref (He.ga K "NoDrawing")) (.ref (He.ga K "NoReading")) = some false), decide (PySem.W.kitOne K (.ref (He.ga K "NoDrawing")) (.ref (He.ga K "TooMany")) = some false), decide (PySem.W.kitOne K (.ref (He.ga K "NoDrawing")) (.ref (He.ga K "Marks")) = some false), decide (PySem.W.kitOne K (.ref (He.ga K "NoDrawing")) (.ref (He.ga K "Twice")) = some false), decide (PySem.W.kitOne K (.ref (He.ga K "NoDrawing")) (.ref (He.ga K "NoPairs")) = some false), decide (PySem.W.kitOne K (.ref (He.ga K "NoDrawing")) (.ref (He.ga K "NoPicture")) = some false), decide (PySem.W.kitOne K (.ref (He.ga K "NoDrawing")) (.ref (He.ga K "NotPlain")) = some false), decide (PySem.W.kitOne K (.ref (He.ga K "NoDrawing")) (.type "ValueError") = some true), decide (PySem.W.kitOne K (.ref (He.ga K "NoDrawing")) (.ref (He.ga K "KinError")) = some true), decide (PySem.W.kitOne K (.ref (He.ga K "NoPicture")) (.ref (He.ga K "Known")) = some false), decide (PySem.W.kitOne K (.ref (He.ga K "NoPicture")) (.ref (He.ga K "NoName")) = some false), decide (PySem.W.kitOne K (.ref (He.ga K "NoPicture")) (.ref (He.ga K "NoRow")) = some false), decide (PySem.W.kitOne K (.ref (He.ga K "NoPicture")) (.ref (He.ga K "NoBook")) = some false), decide (PySem.W.kitOne K (.ref (He.ga K "NoPicture")) (.ref (He.ga K "NoText")) = some false), decide (PySem.W.kitOne K (.ref (He.ga K "NoPicture")) (.ref (He.ga K "TooMuch")) = some false), decide (PySem.W.kitOne K (.ref (He.ga K "NoPicture")) (.ref (He.ga K "InUse")) = some false), decide (PySem.W.kitOne K (.ref (He.ga K "NoPicture")) (.ref (He.ga K "Unknown")) = some false), decide (PySem.W.kitOne K (.ref (He.ga K "NoPicture")) (.ref (He.ga K "NoDrawing")) = some false), decide (PySem.W.kitOne K (.ref (He.ga K "NoPicture")) (.ref (He.ga K "NoRows")) = some false), decide (PySem.W.kitOne K (.ref (He.ga K "NoPicture")) (.ref (He.ga K "NoReading")) = some false), decide (PySem.W.kitOne K (.ref (He.ga K "NoPicture")) (.ref (He.ga K "TooMany")) = some false), decide (PySem.W.kitOne K (.ref (He.ga K "NoPicture")) (.ref (He.ga K "Marks")) = some false), decide (PySem.W.kitOne K (.ref (He.ga K "NoPicture")) (.ref (He.ga K "Twice")) = some false), decide (PySem.W.kitOne K (.ref (He.ga K "NoPicture")) (.ref (He.ga K "NoPairs")) = some false), decide (PySem.W.kitOne K (.ref (He.ga K "NoPicture")) (.ref (He.ga K "NoPicture")) = some true), decide (PySem.W.kitOne K (.ref (He.ga K "NoPicture")) (.ref (He.ga K "NotPlain")) = some false), decide (PySem.W.kitOne K (.ref (He.ga K "NoPicture")) (.type "ValueError") = some true), decide (PySem.W.kitOne K (.ref (He.ga K "NoPicture")) (.ref (He.ga K "KinError")) = some true), decide (PySem.W.kitOne K (.ref (He.ga K "NoPairs")) (.ref (He.ga K "Known")) = some false), decide (PySem.W.kitOne K (.ref (He.ga K "NoPairs")) (.ref (He.ga K "NoName")) = some false), decide (PySem.W.kitOne K (.ref (He.ga K "NoPairs")) (.ref (He.ga K "NoRow")) = some false), decide (PySem.W.kitOne K (.ref (He.ga K "NoPairs")) (.ref (He.ga K "NoBook")) = some false), decide (PySem.W.kitOne K (.ref (He.ga K "NoPairs")) (.ref (He.ga K "NoText")) = some false), decide (PySem.W.kitOne K (.ref (He.ga K "NoPairs")) (.ref (He.ga K "TooMuch")) = some false), decide (PySem.W.kitOne K (.ref (He.ga K "NoPairs")) (.ref (He.ga K "InUse")) = some false), decide (PySem.W.kitOne K (.ref (He.ga K "NoPairs")) (.ref (He.ga K "Unknown")) = some false), decide (PySem.W.kitOne K (.ref (He.ga K "NoPairs")) (.ref (He.ga K "NoDrawing")) = some false), decide (PySem.W.kitOne K (.ref (He.ga K "NoPairs")) (.ref (He.ga K "NoRows")) = some false), decide (PySem.W.kitOne K (.ref (He.ga K "NoPairs")) (.ref (He.ga K "NoReading")) = some false), decide (PySem.W.kitOne K (.ref (He.ga K "NoPairs")) (.ref (He.ga K "TooMany")) = some false), decide (PySem.W.kitOne K (.ref (He.ga K "NoPairs")) (.ref (He.ga K "Marks")) = some false), decide (PySem.W.kitOne K (.ref (He.ga K "NoPairs")) (.ref (He.ga K "Twice")) = some false), decide (PySem.W.kitOne K (.ref (He.ga K "NoPairs")) (.ref (He.ga K "NoPairs")) = some true), decide (PySem.W.kitOne K (.ref (He.ga K "NoPairs")) (.ref (He.ga K "NoPicture")) = some false), decide (PySem.W.kitOne K (.ref (He.ga K "NoPairs")) (.ref (He.ga K "NotPlain")) = some false), decide (PySem.W.kitOne K (.ref (He.ga K "NoPairs")) (.type "ValueError") = some true), decide (PySem.W.kitOne K (.ref (He.ga K "NoPairs")) (.ref (He.ga K "KinError")) = some true), decide (PySem.W.kitOne K (.ref (He.ga K "Twice")) (.ref (He.ga K "Known")) = some false), decide (PySem.W.kitOne K (.ref (He.ga K "Twice")) (.ref (He.ga K "NoName")) = some false), decide (PySem.W.kitOne K (.ref (He.ga K "Twice")) (.ref (He.ga K "NoRow")) = some false), decide (PySem.W.kitOne K (.ref (He.ga K "Twice")) (.ref (He.ga K "NoBook")) = some false), decide (PySem.W.kitOne K (.ref (He.ga K "Twice")) (.ref (He.ga K "NoText")) = some false), decide (PySem.W.kitOne K (.ref (He.ga K "Twice")) (.ref (He.ga K "TooMuch")) = some false), decide (PySem.W.kitOne K (.ref (He.ga K "Twice")) (.ref (He.ga K "InUse")) = some false), decide (PySem.W.kitOne K (.ref (He.ga K "Twice")) (.ref (He.ga K "Unknown")) = some false), decide (PySem.W.kitOne K (.ref (He.ga K "Twice")) (.ref (He.ga K "NoDrawing")) = some false), decide (PySem.W.kitOne K (.ref (He.ga K "Twice")) (.ref (He.ga K "NoRows")) = some false), decide (PySem.W.kitOne K (.ref (He.ga K "Twice")) (.ref (He.ga K "NoReading")) = some false), decide (PySem.W.kitOne K (.ref (He.ga K "Twice")) (.ref (He.ga K "TooMany")) = some false), decide (PySem.W.kitOne K (.ref (He.ga K "Twice")) (.ref (He.ga K "Marks")) = some false), decide (PySem.W.kitOne K (.ref (He.ga K "Twice")) (.ref (He.ga K "Twice")) = some true), decide (PySem.W.kitOne K (.ref (He.ga K "Twice")) (.ref (He.ga K "NoPairs")) = some false), decide (PySem.W.kitOne K (.ref (He.ga K "Twice")) (.ref (He.ga K "NoPicture")) = some false), decide (PySem.W.kitOne K (.ref (He.ga K "Twice")) (.ref (He.ga K "NotPlain")) = some false), decide (PySem.W.kitOne K (.ref (He.ga K "Twice")) (.type "ValueError") = some true), decide (PySem.W.kitOne K (.ref (He.ga K "Twice")) (.ref (He.ga K "KinError")) = some true), decide (PySem.W.kitOne K (.ref (He.ga K "Marks")) (.ref (He.ga K "Known")) = some false), decide (PySem.W.kitOne K (.ref (He.ga K "Marks")) (.ref (He.ga K "NoName")) = some false), decide (PySem.W.kitOne K (.ref (He.ga K "Marks")) (.ref (He.ga K "NoRow")) = some false), decide (PySem.W.kitOne K (.ref (He.ga K "Marks")) (.ref (He.ga K "NoBook")) = some false), decide (PySem.W.kitOne K (.ref (He.ga K "Marks")) (.ref (He.ga K "NoText")) = some false), decide (PySem.W.kitOne K (.ref (He.ga K "Marks")) (.ref (He.ga K "TooMuch")) = some false), decide (PySem.W.kitOne K (.ref (He.ga K "Marks")) (.ref (He.ga K "InUse")) = some false), decide (PySem.W.kitOne K (.ref (He.ga K "Marks")) (.ref (He.ga K "Unknown")) = some false), decide (PySem.W.kitOne K (.ref (He.ga K "Marks")) (.ref (He.ga K "NoDrawing")) = some false), decide (PySem.W.kitOne K (.ref (He.ga K "Marks")) (.ref (He.ga K "NoRows")) = some false), decide (PySem.W.kitOne K (.ref (He.ga K "Marks")) (.ref (He.ga K "NoReading")) = some false), decide (PySem.W.kitOne K (.ref (He.ga K "Marks")) (.ref (He.ga K "TooMany")) = some false), decide (PySem.W.kitOne K (.ref (He.ga K "Marks")) (.ref (He.ga K "Marks")) = some true), decide (PySem.W.kitOne K (.ref (He.ga K "Marks")) (.ref (He.ga K "Twice")) = some false), decide (PySem.W.kitOne K (.ref (He.ga K "Marks")) (.ref (He.ga K "NoPairs")) = some false), decide (PySem.W.kitOne K (.ref (He.ga K "Marks")) (.ref (He.ga K "NoPicture")) = some false), decide (PySem.W.kitOne K (.ref (He.ga K "Marks")) (.ref (He.ga K "NotPlain")) = some false), decide (PySem.W.kitOne K (.ref (He.ga K "Marks")) (.type "ValueError") = some true), decide (PySem.W.kitOne K (.ref (He.ga K "Marks")) (.ref (He.ga K "KinError")) = some true), decide (PySem.W.kitOne K (.ref (He.ga K "NotPlain")) (.ref (He.ga K "Known")) = some false), decide (PySem.W.kitOne K (.ref (He.ga K "NotPlain")) (.ref (He.ga K "NoName")) = some false), decide (PySem.W.kitOne K (.ref (He.ga K "NotPlain")) (.ref (He.ga K "NoRow")) = some false), decide (PySem.W.kitOne K (.ref (He.ga K "NotPlain")) (.ref (He.ga K "NoBook")) = some false), decide (PySem.W.kitOne K (.ref (He.ga K "NotPlain")) (.ref (He.ga K "NoText")) = some false), decide (PySem.W.kitOne K (.ref (He.ga K "NotPlain")) (.ref (He.ga K "TooMuch")) = some false), decide (PySem.W.kitOne K (.ref (He.ga K "NotPlain")) (.ref (He.ga K "InUse")) = some false), decide (PySem.W.kitOne K (.ref (He.ga K "NotPlain")) (.ref (He.ga K "Unknown")) = some false), decide (PySem.W.kitOne K (.ref (He.ga K "NotPlain")) (.ref (He.ga K "NoDrawing")) = some false), decide (PySem.W.kitOne K (.ref (He.ga K "NotPlain")) (.ref (He.ga K "NoRows")) = some false), decide (PySem.W.kitOne K (.ref (He.ga K "NotPlain")) (.ref (He.ga K "NoReading")) = some false), decide (PySem.W.kitOne K (.ref (He.ga K "NotPlain")) (.ref (He.ga K "TooMany")) = some false), decide (PySem.W.kitOne K (.ref (He.ga K "NotPlain")) (.ref (He.ga K "Marks")) = some false), decide (PySem.W.kitOne K (.ref (He.ga K "NotPlain")) (.ref (He.ga K "Twice")) = some false), decide (PySem.W.kitOne K (.ref (He.ga K "NotPlain")) (.ref (He.ga K "NoPairs")) = some false), decide (PySem.W.kitOne K (.ref (He.ga K "NotPlain")) (.ref (He.ga K "NoPicture")) = some false), decide (PySem.W.kitOne K (.ref (He.ga K "NotPlain")) (.ref (He.ga K "NotPlain")) = some true), decide (PySem.W.kitOne K (.ref (He.ga K "NotPlain")) (.type "ValueError") = some true), decide (PySem.W.kitOne K (.ref (He.ga K "NotPlain")) (.ref (He.ga K "KinError")) = some true), xcB K (He.ga K "NoBook"), xinB K (He.ga K "NoBook") (He.fAd K ("NoBook", some "__init__")) ["word", "number"], xcB K (He.ga K "NoRow"), xinB K (He.ga K "NoRow") (He.fAd K ("NoRow", some "__init__")) [], xcB K (He.ga K "NoName"), xinB K (He.ga K "NoName") (He.fAd K ("NoName", some "__init__")) ["name"], xcB K (He.ga K "Known"), xinB K (He.ga K "Known") (He.fAd K ("Known", some "__init__")) [], xcB K (He.ga K "Unknown"), xinB K (He.ga K "Unknown") (He.fAd K ("Unknown", some "__init__")) [], xcB K (He.ga K "InUse"), xinB K (He.ga K "InUse") (He.fAd K ("InUse", some "__init__")) [], xcB K (He.ga K "TooMuch"), xinB K (He.ga K "TooMuch") (He.fAd K ("TooMuch", some "__init__")) [], xcB K (He.ga K "NoText"), xinB K (He.ga K "NoText") (He.fAd K ("NoText", some "__init__")) ["line"], xcB K (He.ga K "TooMany"), xinB K (He.ga K "TooMany") (He.fAd K ("TooMany", some "__init__")) [], xcB K (He.ga K "NoReading"), xinB K (He.ga K "NoReading") (He.fAd K ("NoReading", some "__init__")) [], xcB K (He.ga K "NoRows"), xinB K (He.ga K "NoRows") (He.fAd K ("NoRows", some "__init__")) ["ring"], xcB K (He.ga K "NoDrawing"), xinB K (He.ga K "NoDrawing") (He.fAd K ("NoDrawing", some "__init__")) [], xcB K (He.ga K "NoPicture"), xinB K (He.ga K "NoPicture") (He.fAd K ("NoPicture", some "__init__")) [], xcB K (He.ga K "NoPairs"), xinB K (He.ga K "NoPairs") (He.fAd K ("NoPairs", some "__init__")) [], xcB K (He.ga K "Twice"), xinB K (He.ga K "Twice") (He.fAd K ("Twice", some "__init__")) ["name"], xcB K (He.ga K "Marks"), xinB K (He.ga K "Marks") (He.fAd K ("Marks", some "__init__")) ["name"], xcB K (He.ga K "NotPlain"), xinB K (He.ga K "NotPlain") (He.fAd K ("NotPlain", some "__init__")) []] : List Bool).all id
def loose : List Str := (["KinError", "NoBook", "NoRow", "NoName", "Known", "Unknown", "InUse", "TooMuch", "NoText", "TooMany", "NoReading", "NoRows", "NoDrawing", "NoPicture", "NoPairs", "Twice", "Marks", "NotPlain", "_law_pen_of", "_law_draw", "_law_are_same", "_law_fault_of", "_law_made", "_law_field"] : List Str)
abbrev R : PySem.W.OpenRow := PySem.W.OpenLaw.row PySem.Challenge.rw_kinlines_k75_refusals_made
abbrev hk : PySem.W.Hook := hookW 4 fa fn tbs ex
def ob (s : PySem.W.SharedT) : He.AlX := obsW 4 fa fn tbs ex (HandSHeadRun.getT s)
theorem ob_eq (s : PySem.W.SharedT) : ob s = hk.obs s.abs := obsW_eq (HandSHeadRun.getT_eq s)
theorem run1 (w : World) : Part1 R (PySem.W.view R.prog [26]) loose 6000 w := by
  intro os
  kernel_rfl
theorem run2 (w : World) : Part2 R 4 fa tbs ex 6000 w := by
  intro os
  kernel_rfl
theorem run3 (w : World) : Part3 R 4 fn 6000 w := by
  intro os
  kernel_rfl
theorem run (w : World) : HandSHeadRun.RunEq R (PySem.W.view R.prog [26]) hk ob 6000 loose w := run_parts (run1 w) (run2 w) (run3 w)

end K75
namespace TL
open PySem PySem.Spec PyProof.Rows L2
/-- a tracked tuple whose object is known -/
abbrev fT (o : Obj) (xs : List V) : HO := .frz o (.tup xs)
section
variable {X : Cx} {es : List Expr} {t : TA} {pos : Pos}
theorem new_tup {pins : List (Addr × Obj)} {σ : L2.St} {H : Hp} {s : Shared} {its : List Value} {xs : List V} {Q : VK} (I : Inv X pins σ H s) (r : Vals xs its) (z : xs.length ≤ sizeLine)
    (q : ∀ o : Obj, o.dict = none → Q (.ref s.heap.objs.size) (upd H s.heap.objs.size (fT o xs))) : EP X pins σ Q (.ref s.heap.objs.size) { s with heap := s.heap.push { cls := .type "tuple", data := .seq its.toArray } } := by
  have at_ : (s.heap.push { cls := .type "tuple", data := .seq its.toArray }).get? s.heap.objs.size = some { cls := .type "tuple", data := .seq its.toArray } := Heap.get?_push_size _ rfl
  exact ⟨.ref _, _, I.laid (t' := s.toks) (o := fT { cls := .type "tuple", data := .seq its.toArray } xs) (fun b u e => Heap.get?_push_of_some _ e) (Nat.le_refl _) ⟨at_, z, its, r, _, at_, rfl, 0, rfl⟩, rfl, q _ rfl⟩
def tTupF (t : TA) : L2.TE := fun σ H Q => t σ H fun xs H1 => xs.length ≤ sizeLine ∧ ∀ p o, H1 p = none → o.dict = none → Q (.ref p) (upd H1 p (fT o xs))
theorem pe_tupF {k1} (h : PA X es t) : PE X (.Tuple es k1 pos) (tTupF t) := ⟨fun pins s σ H Q I hq =>
  wpAny_Tuple_spliced (thn (h.run pos pins s σ H _ I hq) fun us s1 ⟨xs, H1, I1, r, z, q⟩ => ⟨by rw [← r.length]; exact z, new_tup I1 r z fun o d => q _ o (I1.hok.fresh (Nat.le_refl _)) d⟩)⟩
/-- t + u -/
def rCatF (K : PySem.W.Frag) : R2 := fun x y H Q => ∃ a b xs ys, x = .ref a ∧ y = .ref b ∧ SqT K H a xs ∧ SqT K H b ys ∧ xs.length + ys.length ≤ sizeLine ∧
  (xs = [] → Q (.ref b) H) ∧ (xs ≠ [] → ys = [] → Q (.ref a) H) ∧ (xs ≠ [] → ys ≠ [] → ∀ p o, H p = none → o.dict = none → Q (.ref p) (upd H p (fT o (xs ++ ys))))
theorem op_catF : OpR X (binaryOp .Add) (rCatF X.K) := by
  intro pins s σ H x y v u Q I rx ry ⟨a, b, xs, ys, e1, e2, ha, hb, hz, q0, q1, q2⟩
  subst e1 e2
  cases rx
  cases ry
  obtain ⟨is1, r1, p1, _⟩ := I.tuple ha
  obtain ⟨is2, r2, p2, _⟩ := I.tuple hb
  by_cases hx : xs = []
  · subst hx
    cases r1
    exact cat_tup0 p1 p2 ⟨.ref b, H, I, rfl, q0 rfl⟩
  · refine HT.cat_tup p1 p2 (fun z => hx (r1.nil_iff.mp z)) (fun z => ⟨.ref a, H, I, rfl, q1 hx (r2.nil_iff.mp z)⟩) (fun z => ?_) (by rw [← r1.length, ← r2.length]; exact hz)
    exact new_tup I (r1.append r2) (by rw [List.length_append]; exact hz) fun o d => q2 hx (fun w => z (r2.nil_iff.mpr w)) _ o (I.hok.fresh (Nat.le_refl _)) d
/-- t[lo:hi] -/
def rSlF (K : PySem.W.Frag) : V → Option Int → Option Int → Hp → VK → Prop := fun x lo hi H Q => ∃ a xs, x = .ref a ∧ SqT K H a xs ∧
  (HT.sIx xs.length 0 lo = 0 ∧ HT.sIx xs.length xs.length hi = xs.length → Q (.ref a) H) ∧ (¬ (HT.sIx xs.length 0 lo = 0 ∧ HT.sIx xs.length xs.length hi = xs.length) → ∀ p o, H p = none → o.dict = none → Q (.ref p) (upd H p (fT o (cutV xs lo hi))))
theorem sl_tupF : SlR X (rSlF X.K) := by
  intro pins s σ H x v vl vu lo hi sl Q I rx hs pl pu ⟨a, xs, e1, hx, q1, q2⟩
  subst e1
  cases rx
  obtain ⟨its, r, ht, hz⟩ := I.tuple hx
  have hlen : its.toArray.size = xs.length := by rw [List.size_toArray]; exact r.length.symm
  refine ⟨"tuple", _, PyProof.Rows.slot_tuple_getitem.lookup, ht.typeIs, ?_⟩
  by_cases hw : HT.sIx xs.length 0 lo = 0 ∧ HT.sIx xs.length xs.length hi = xs.length
  · exact getItem_tuple_whole ht hs pl pu (by rw [hlen]; exact hw) ⟨.ref a, H, I, rfl, q1 hw⟩
  · refine HT.getItem_tuple_cut ht hs pl pu (by rw [hlen]; exact hw) ?_ (by rw [hlen]; exact hz)
    rw [hlen]
    exact new_tup I ((r.drop (HT.sIx xs.length 0 lo)).take (HT.sIx xs.length xs.length hi - HT.sIx xs.length 0 lo)) (Nat.le_trans (cutV_length xs lo hi) hz) fun o d => q2 hw _ o (I.hok.fresh (Nat.le_refl _)) d
/-- a tuple whose object is known to have no dict -/
def BareT (K : PySem.W.Frag) (H : Hp) (a : Addr) (xs : List V) : Prop := (∃ o, H a = some (fT o xs) ∧ o.dict = none) ∨
  ∃ (o : Obj) (its : Array Value) (n : Nat), K.lookup a = some o ∧ o.cls = .type "tuple" ∧ o.dict = none ∧ o.data = .seq its n ∧ its.size ≤ sizeLine ∧ Vals xs its.toList
theorem BareT.sq {K : PySem.W.Frag} {H : Hp} {a : Addr} {xs : List V} (h : BareT K H a xs) : SqT K H a xs := h.elim (fun ⟨o, z, _⟩ => .inl (.inr ⟨o, z⟩)) fun ⟨o, its, n, a1, a2, _, a4⟩ => .inr ⟨o, its, n, a1, a2, a4⟩
theorem BareT.plain {pins : List (Addr × Obj)} {σ : L2.St} {H : Hp} {s : Shared} {a : Addr} {xs : List V} (I : Inv X pins σ H s) (h : BareT X.K H a xs) : ∃ its : List Value, Vals xs its ∧ PlainSeq "tuple" s.heap a its.toArray ∧ xs.length ≤ sizeLine := by
  obtain ⟨its, r, ⟨ob, hb, hc, n, hd⟩, hz⟩ := I.tuple h.sq
  refine ⟨its, r, ⟨ob, n, hb, hc, ?_, hd⟩, hz⟩
  rcases h with ⟨o, e, d⟩ | ⟨o, is2, n2, a1, a2, a3, _⟩
  · obtain ⟨g, _⟩ := I.hok a _ e
    rw [hb] at g
    cases g
    exact d
  · have g := I.kIn _ _ a1
    rw [hb] at g
    cases g
    exact a3
end
end TL
namespace TL
open PySem PySem.Spec PyProof.Rows L2
/-- a sign: texts are of these alone -/
abbrev Sg := Fin 128
def txt (x : List Sg) : Str := ⟨(x.map (·.val)).toArray⟩
theorem txt_list (x : List Sg) : (txt x).cps.toList = x.map (·.val) := rfl
theorem map_val_inj : ∀ {x y : List Sg}, x.map (·.val) = y.map (·.val) → x = y
  | [], [], _ => rfl
  | [], _ :: _, h => by cases h
  | _ :: _, [], h => by cases h
  | a :: x, b :: y, h => by
    rw [List.map_cons, List.map_cons] at h
    injection h with h1 h2
    rw [Fin.ext h1, map_val_inj h2]
theorem txt_inj {x y : List Sg} (h : txt x = txt y) : x = y := map_val_inj (by rw [← txt_list, h, txt_list])
theorem txt_len (x : List Sg) : (txt x).length = x.length := by
  show (x.map (·.val)).toArray.size = x.length
  simp
theorem txt_app (x y : List Sg) : txt (x ++ y) = txt x ++ txt y := by
  show (⟨((x ++ y).map (·.val)).toArray⟩ : Str) = ⟨(x.map (·.val)).toArray ++ (y.map (·.val)).toArray⟩
  simp
/-- a value as a tree; ref: a thing that may change, told by the store -/
inductive T where
  | non
  | bl (b : Bool)
  | int (i : Int)
  | str (x : List Sg)
  | tup (xs : List T)
  | lst (xs : List T)
  | ref (a : Addr)
  | exc (c : Str) (ns : List Str) (vs : List T)
  | dct (nst : Bool) (ks vs : List T)
  | obj (c : Str) (ns : List Str) (vs : List T)
  | fn (x : Str)
  | scr (ns : List Int)
  deriving Inhabited

/-- what may change -/
inductive Cell where
  | lst (xs : List T)
  | dct (nst : Bool) (ks vs : List T)
  | ins (c : Str) (ns : List Str) (vs : List T)

abbrev Sto := Addr → Option Cell
abbrev TEnv := List (Option T)
def ups (S : Sto) (a : Addr) (c : Cell) : Sto := fun b => if b = a then some c else S b
theorem ups_same {S : Sto} {a : Addr} {c : Cell} : ups S a c a = some c := if_pos rfl
theorem ups_ne {S : Sto} {a b : Addr} {c : Cell} (h : b ≠ a) : ups S a c b = S b := if_neg h
def offs (S : Sto) (a : Addr) : Sto := fun b => if b = a then none else S b
theorem offs_same {S : Sto} {a : Addr} : offs S a a = none := if_pos rfl
theorem offs_ne {S : Sto} {a b : Addr} (h : b ≠ a) : offs S a b = S b := if_neg h

mutual
/-- a key, up to == -/
def keyOf : T → Option NestedKey
  | .non => some .none
  | .bl b => some (.num (if b = true then 1 else 0))
  | .int i => some (.num i)
  | .str x => some (.text (txt x))
  | .tup ts => (keysOf ts).map .tup
  | _ => none
def keysOf : List T → Option (List NestedKey)
  | [] => some []
  | t :: ts => match keyOf t, keysOf ts with
    | some k, some ks => some (k :: ks)
    | _, _ => none
end
def isFrz : HO → Bool
  | .frz _ _ => true
  | _ => false
/-- the written part and the world -/
structure Gd where
  P : Program
  K : PySem.W.Frag
  w : World
  /-- what is not looked at -/
  M : Addr → Prop
/-- an object of the written part -/
def StT (K : PySem.W.Frag) (a : Addr) (xs : List V) : Prop :=
  ∃ (o : Obj) (its : Array Value) (n : Nat), K.lookup a = some o ∧ o.cls = .type "tuple" ∧ o.dict = none ∧ o.data = .seq its n ∧ its.size ≤ sizeLine ∧ Vals xs its.toList
def StL (K : PySem.W.Frag) (a : Addr) (xs : List V) : Prop :=
  ∃ (o : Obj) (its : Array Value) (n : Nat), K.lookup a = some o ∧ o.cls = .type "list" ∧ o.dict = none ∧ o.data = .seq its n ∧ its.size ≤ sizeLine ∧ Vals xs its.toList
/-- tracked as u, and no cell -/
def At (M : Addr → Prop) (H : Hp) (S : Sto) (a : Addr) (u : HO) : Prop := Rd H a u ∧ S a = none ∧ ¬ M a
def TupAt (G : Gd) (H : Hp) (S : Sto) (a : Addr) (xs : List V) : Prop := (∃ o, (H a = some (fT o xs) ∧ o.dict = none) ∧ S a = none ∧ ¬ G.M a) ∨ StT G.K a xs
def LstAt (G : Gd) (H : Hp) (S : Sto) (a : Addr) (xs : List V) : Prop := H a = some (.lst xs) ∧ S a = none ∧ ¬ G.M a
/-- the law's script -/
def ScrAt (G : Gd) (H : Hp) (S : Sto) (a : Addr) (xs : List V) : Prop := (∃ o, H a = some (.frz o (.lst xs)) ∧ S a = none ∧ ¬ G.M a) ∨ StL G.K a xs
theorem ScrAt.sq {G : Gd} {H : Hp} {S : Sto} {a : Addr} {xs : List V} (h : ScrAt G H S a xs) : SqL G.K H a xs := h.elim (fun ⟨o, z, _⟩ => .inl (.inr ⟨o, z⟩)) .inr
theorem TupAt.sq {G : Gd} {H : Hp} {S : Sto} {a : Addr} {xs : List V} (h : TupAt G H S a xs) : SqT G.K H a xs := h.elim (fun ⟨o, z, _⟩ => .inl (.inr ⟨o, z.1⟩)) fun ⟨o, its, n, a1, a2, _, a4⟩ => .inr ⟨o, its, n, a1, a2, a4⟩
theorem LstAt.sq {G : Gd} {H : Hp} {S : Sto} {a : Addr} {xs : List V} (h : LstAt G H S a xs) : SqL G.K H a xs := SqL.of h.1
/-- the entries of a dict by tuples, as its object holds them -/
def rawN (w : World) (a : Addr) (es : List (NestedKey × Addr × V)) (h : Heap) : Prop :=
  es.length ≤ sizeLine ∧ (a == sysModules) = false ∧ (∀ e ∈ es, e.1.depth ≤ 8) ∧ (es.map (·.1)).Nodup ∧
    ∃ us : List Value, Vals (es.map (·.2.2)) us ∧ ∃ o en ep, h.get? a = some o ∧ o.ExactDict ∧ o.data = .dict en ep ∧
      en.toList = (es.zip us).map fun q => (⟨q.1.1.hash w, .ref q.1.2.1, q.2⟩ : DictEntry)
def dN (w : World) (a : Addr) (es : List (NestedKey × Addr × V)) : HO := .ext (rawN w a es)

/-- at a: an exception of the class at C, its dict (none | at d) -/
def exv (a C : Addr) (d : Option Addr) : HO := .ext fun h => ∃ (o : Obj) (vs : Array Value), h.get? a = some o ∧ L2N.Zn (.ref C) d o ∧ o.data = .fields vs

mutual
/-- the tree t lies as v -/
inductive Rep (G : Gd) (H : Hp) (S : Sto) : T → V → Prop
  | non : Rep G H S .non .non
  | bl (b : Bool) : Rep G H S (.bl b) (.bl b)
  | int (i : Int) : Rep G H S (.int i) (.int i)
  | str (x : List Sg) : Rep G H S (.str x) (.str (txt x))
  | ref (a : Addr) : Rep G H S (.ref a) (.ref a)
  | fn (x : Str) : Rep G H S (.fn x) (.ref (He.ga G.K x))
  | scr {a : Addr} {ns : List Int} : ScrAt G H S a (ns.map V.int) → Rep G H S (.scr ns) (.ref a)
  | tup {a : Addr} {xs : List V} {ts : List T} : TupAt G H S a xs → Reps G H S ts xs → Rep G H S (.tup ts) (.ref a)
  | lst {a : Addr} {xs : List V} {ts : List T} : LstAt G H S a xs → Reps G H S ts xs → Rep G H S (.lst ts) (.ref a)
  | exc0 {a : Addr} {c : Str} : At G.M H S a (exv a (He.ga G.K c) none) → Rep G H S (.exc c [] []) (.ref a)
  | exc1 {a d : Addr} {c : Str} {ns : List Str} {ts : List T} {xs : List V} : At G.M H S a (exv a (He.ga G.K c) (some d)) → At G.M H S d (.xd (ns.zip xs)) → ns.length = xs.length → Reps G H S ts xs → Rep G H S (.exc c ns ts) (.ref a)
  | dK {a : Addr} {kvs : List (Key × V)} {ks vs : List T} : At G.M H S a (.dK kvs) → Reps G H S ks (kvs.map fun p => kV p.1) → Reps G H S vs (kvs.map (·.2)) → Rep G H S (.dct false ks vs) (.ref a)
  | dN {a : Addr} {es : List (NestedKey × Addr × V)} {ks vs : List T} : At G.M H S a (dN G.w a es) → keysOf ks = some (es.map (·.1)) → Reps G H S ks (es.map fun e => V.ref e.2.1) → Reps G H S vs (es.map (·.2.2)) → Rep G H S (.dct true ks vs) (.ref a)
  | obj {a d : Addr} {c : Str} {ns : List Str} {ts : List T} {xs : List V} : (H a = some (.ins (He.ga G.K c) d (ns.zip xs)) ∧ S a = none ∧ ¬ G.M a) → ns.length = xs.length → Reps G H S ts xs → Rep G H S (.obj c ns ts) (.ref a)
inductive Reps (G : Gd) (H : Hp) (S : Sto) : List T → List V → Prop
  | nil : Reps G H S [] []
  | cons {t : T} {ts : List T} {v : V} {vs : List V} : Rep G H S t v → Reps G H S ts vs → Reps G H S (t :: ts) (v :: vs)
end
/-- a thing that may change, as it lies -/
def CellOk (G : Gd) (H : Hp) (S : Sto) (a : Addr) : Cell → Prop
  | .lst ts => ∃ xs, H a = some (.lst xs) ∧ Reps G H S ts xs
  | .dct false ks vs => ∃ kvs : List (Key × V), H a = some (.dK kvs) ∧ Reps G H S ks (kvs.map fun p => kV p.1) ∧ Reps G H S vs (kvs.map (·.2))
  | .dct true ks vs => ∃ es : List (NestedKey × Addr × V), H a = some (dN G.w a es) ∧ keysOf ks = some (es.map (·.1)) ∧ Reps G H S ks (es.map fun e => V.ref e.2.1) ∧ Reps G H S vs (es.map (·.2.2))
  | .ins c ns ts => ∃ d xs, H a = some (.ins (He.ga G.K c) d (ns.zip xs)) ∧ ns.length = xs.length ∧ Reps G H S ts xs
structure StoOk (G : Gd) (H : Hp) (S : Sto) : Prop where
  at_ : ∀ a c, S a = some c → CellOk G H S a c
  msk : ∀ a, G.M a → H a ≠ none
  sep : ∀ a, G.M a → S a = none

/-- what a loop may lock -/
def isD : HO → Bool
  | .dK _ => true
  | .dT _ => true
  | .ext _ => true
  | _ => false
def lkd : HO → Bool
  | .frz _ u => isD u
  | u => isD u
/-- what lay still lies still, but for what is not looked at -/
def ExtM (M : Addr → Prop) (S : Sto) (H : Hp) (S' : Sto) (H' : Hp) : Prop := ∀ b u, ¬ M b → S b = none → (H b = some u → lkd u = false → H' b = some u ∧ S' b = none) ∧ (Rd H b u → isD u = true → Rd H' b u ∧ S' b = none)
/-- what lay still lies still -/
def Ext (S : Sto) (H : Hp) (S' : Sto) (H' : Hp) : Prop := ∀ b u, S b = none → (H b = some u → isD u = false → H' b = some u ∧ S' b = none) ∧ (Rd H b u → isD u = true → Rd H' b u ∧ S' b = none)
section
variable {G : Gd} {H H' H2 : Hp} {S S' S2 : Sto} {M : Addr → Prop}
theorem lkd_isD {u : HO} (h : lkd u = false) : isD u = false := by
  cases u <;> first | exact h | rfl
theorem Ext.m (x : Ext S H S' H') : ExtM M S H S' H' := fun b u _ n => ⟨fun h f => (x b u n).1 h (lkd_isD f), (x b u n).2⟩
theorem Ext.refl : Ext S H S H := fun _ _ n => ⟨fun h _ => ⟨h, n⟩, fun h _ => ⟨h, n⟩⟩
theorem Ext.trans (x : Ext S H S' H') (y : Ext S' H' S2 H2) : Ext S H S2 H2 := fun b u n =>
  ⟨fun h f => let z := (x b u n).1 h f; (y b u z.2).1 z.1 f, fun h f => let z := (x b u n).2 h f; (y b u z.2).2 z.1 f⟩
theorem At.extM {a : Addr} {u : HO} (h : At M H S a u) (x : ExtM M S H S' H') (f : isFrz u = false := by rfl) : At M H' S' a u := by
  obtain ⟨h1, h2, h3⟩ := h
  cases hd : isD u with
  | true =>
    have w := (x a u h3 h2).2 h1 hd
    exact ⟨w.1, w.2, h3⟩
  | false =>
    rcases h1 with z | ⟨o, z⟩
    · have k : lkd u = false := by
        cases u <;> first | exact hd | cases f
      have w := (x a u h3 h2).1 z k
      exact ⟨.inl w.1, w.2, h3⟩
    · have w := (x a (.frz o u) h3 h2).1 z hd
      exact ⟨.inr ⟨o, w.1⟩, w.2, h3⟩
theorem TupAt.extM {a : Addr} {xs : List V} (h : TupAt G H S a xs) (x : ExtM G.M S H S' H') : TupAt G H' S' a xs := h.elim (fun ⟨o, z, s, m⟩ => let w := (x a _ m s).1 z.1 rfl; .inl ⟨o, ⟨w.1, z.2⟩, w.2, m⟩) .inr
theorem LstAt.extM {a : Addr} {xs : List V} (h : LstAt G H S a xs) (x : ExtM G.M S H S' H') : LstAt G H' S' a xs := let w := (x a _ h.2.2 h.2.1).1 h.1 rfl; ⟨w.1, w.2, h.2.2⟩
theorem At.ext {a : Addr} {u : HO} (h : At M H S a u) (x : Ext S H S' H') (f : isFrz u = false := by rfl) : At M H' S' a u := h.extM x.m f
theorem TupAt.ext {a : Addr} {xs : List V} (h : TupAt G H S a xs) (x : Ext S H S' H') : TupAt G H' S' a xs := h.extM x.m
theorem LstAt.ext {a : Addr} {xs : List V} (h : LstAt G H S a xs) (x : Ext S H S' H') : LstAt G H' S' a xs := h.extM x.m
theorem Ext.exact {a : Addr} {u : HO} (x : Ext S H S' H') (h : H a = some u) (n : S a = none) (k : isD u = false := by rfl) : H' a = some u ∧ S' a = none := (x a u n).1 h k
mutual
theorem Rep.extM (x : ExtM G.M S H S' H') : ∀ (t : T) (v : V), Rep G H S t v → Rep G H' S' t v
  | .non, _, h => by cases h; exact .non
  | .bl _, _, h => by cases h; exact .bl _
  | .int _, _, h => by cases h; exact .int _
  | .str _, _, h => by cases h; exact .str _
  | .ref _, _, h => by cases h; exact .ref _
  | .fn _, _, h => by cases h; exact .fn _
  | .scr _, _, h => by
    cases h with
    | scr h1 => exact .scr (h1.imp (fun ⟨o, z1, z2, z3⟩ => ⟨o, ((x _ _ z3 z2).1 z1 rfl).1, ((x _ _ z3 z2).1 z1 rfl).2, z3⟩) id)
  | .tup ts, _, h => by
    cases h with
    | tup h1 h2 => exact .tup (h1.extM x) (Reps.extM x ts _ h2)
  | .lst ts, _, h => by
    cases h with
    | lst h1 h2 => exact .lst (h1.extM x) (Reps.extM x ts _ h2)
  | .exc c ns ts, _, h => by
    cases h with
    | exc0 h1 => exact .exc0 (h1.extM x)
    | exc1 h1 h2 h3 h4 => exact .exc1 (h1.extM x) (h2.extM x) h3 (Reps.extM x ts _ h4)
  | .dct b ks vs, _, h => by
    cases h with
    | dK h1 h2 h3 => exact .dK (h1.extM x) (Reps.extM x ks _ h2) (Reps.extM x vs _ h3)
    | dN h1 h2 h3 h4 => exact .dN (h1.extM x) h2 (Reps.extM x ks _ h3) (Reps.extM x vs _ h4)
  | .obj c ns ts, _, h => by
    cases h with
    | obj h1 h2 h3 =>
      have w := (x _ _ h1.2.2 h1.2.1).1 h1.1 rfl
      exact .obj ⟨w.1, w.2, h1.2.2⟩ h2 (Reps.extM x ts _ h3)
theorem Reps.extM (x : ExtM G.M S H S' H') : ∀ (ts : List T) (vs : List V), Reps G H S ts vs → Reps G H' S' ts vs
  | [], _, h => by cases h; exact .nil
  | t :: ts, _, h => by
    cases h with
    | cons h1 h2 => exact .cons (Rep.extM x t _ h1) (Reps.extM x ts _ h2)
end
theorem Rep.ext (x : Ext S H S' H') (t : T) (v : V) (h : Rep G H S t v) : Rep G H' S' t v := Rep.extM x.m t v h
theorem Reps.ext (x : Ext S H S' H') (t : List T) (v : List V) (h : Reps G H S t v) : Reps G H' S' t v := Reps.extM x.m t v h
theorem CellOk.extM {a : Addr} {c : Cell} (h : CellOk G H S a c) (x : ExtM G.M S H S' H') (e : H' a = H a) : CellOk G H' S' a c := by
  cases c with
  | lst ts =>
    obtain ⟨xs, h1, h2⟩ := h
    exact ⟨xs, e.trans h1, Reps.extM x _ _ h2⟩
  | dct b ks vs =>
    cases b with
    | false =>
      obtain ⟨kvs, h1, h2, h3⟩ := h
      exact ⟨kvs, e.trans h1, Reps.extM x _ _ h2, Reps.extM x _ _ h3⟩
    | true =>
      obtain ⟨es, h1, h2, h3, h4⟩ := h
      exact ⟨es, e.trans h1, h2, Reps.extM x _ _ h3, Reps.extM x _ _ h4⟩
  | ins c ns ts =>
    obtain ⟨d, xs, h1, h2, h3⟩ := h
    exact ⟨d, xs, e.trans h1, h2, Reps.extM x _ _ h3⟩
theorem CellOk.ext {a : Addr} {c : Cell} (h : CellOk G H S a c) (x : Ext S H S' H') (e : H' a = H a) : CellOk G H' S' a c := h.extM x.m e
theorem CellOk.there {a : Addr} {c : Cell} (h : CellOk G H S a c) : ∃ o, H a = some o := by
  cases c with
  | lst ts => obtain ⟨xs, h1, _⟩ := h; exact ⟨_, h1⟩
  | dct b ks vs =>
    cases b with
    | false => obtain ⟨kvs, h1, _⟩ := h; exact ⟨_, h1⟩
    | true => obtain ⟨es, h1, _⟩ := h; exact ⟨_, h1⟩
  | ins c ns ts => obtain ⟨d, xs, h1, _⟩ := h; exact ⟨_, h1⟩
theorem StoOk.free (h : StoOk G H S) {a : Addr} (n : H a = none) : S a = none := by
  cases e : S a with
  | none => rfl
  | some c =>
    obtain ⟨o, q⟩ := (h.at_ a c e).there
    rw [n] at q
    cases q
theorem StoOk.nom (h : StoOk G H S) {a : Addr} (n : H a = none) : ¬ G.M a := fun m => h.msk a m n
theorem upd_some {p a : Addr} {o : HO} (h : H a ≠ none) : upd H p o a ≠ none := fun z => by
  by_cases e : a = p
  · subst e
    rw [upd_same] at z
    cases z
  · rw [upd_ne e] at z
    exact h z
theorem Rd.ne {p b : Addr} {u : HO} (n : H p = none) (h : Rd H b u) : b ≠ p := fun e => by
  subst e
  rcases h with h | ⟨_, h⟩ <;> rw [n] at h <;> cases h
theorem Rd.upd {p b : Addr} {u o : HO} (ne : b ≠ p) (h : Rd H b u) : Rd (upd H p o) b u := by
  rcases h with h | ⟨q, h⟩
  · exact .inl ((upd_ne ne).trans h)
  · exact .inr ⟨q, (upd_ne ne).trans h⟩
/-- a new object that no cell is -/
theorem Ext.new {p : Addr} {o : HO} (n : H p = none) : Ext S H S (upd H p o) := fun b u k =>
  ⟨fun h _ => ⟨(upd_ne (ne_of_none h n)).trans h, k⟩, fun h _ => ⟨Rd.upd (Rd.ne n h) h, k⟩⟩
theorem StoOk.new {p : Addr} {o : HO} (h : StoOk G H S) (n : H p = none) : StoOk G (upd H p o) S := ⟨fun a c e =>
  (h.at_ a c e).ext (Ext.new n) (upd_ne fun z => by
    subst z
    obtain ⟨o, q⟩ := (h.at_ _ c e).there
    rw [n] at q
    cases q), fun a m => upd_some (h.msk a m), h.sep⟩
/-- a cell written, or a new one -/
theorem Ext.cell {p : Addr} {o : HO} {c : Cell} (n : H p = none ∨ ∃ c, S p = some c) : Ext S H (ups S p c) (upd H p o) := fun b u k => by
  have ne : ∀ {u}, Rd H b u → b ≠ p := fun h e => by
    subst e
    rcases n with n | ⟨c, n⟩
    · exact Rd.ne n h rfl
    · rw [n] at k; cases k
  exact ⟨fun h _ => ⟨(upd_ne (ne (.inl h))).trans h, (ups_ne (ne (.inl h))).trans k⟩, fun h _ => ⟨Rd.upd (ne h) h, (ups_ne (ne h)).trans k⟩⟩
theorem StoOk.cell {p : Addr} {o : HO} {c : Cell} (h : StoOk G H S) (n : H p = none ∨ ∃ c, S p = some c) (k : CellOk G (upd H p o) (ups S p c) p c) : StoOk G (upd H p o) (ups S p c) := ⟨fun a d e => by
  by_cases q : a = p
  · subst q
    rw [ups_same] at e
    cases e
    exact k
  · rw [ups_ne q] at e
    exact (h.at_ a d e).ext (Ext.cell n) (upd_ne q), fun a m => upd_some (h.msk a m), fun a m => by
  have q : a ≠ p := fun e => by
    subst e
    rcases n with n | ⟨c, n⟩
    · exact h.nom n m
    · rw [h.sep _ m] at n
      cases n
  rw [ups_ne q]
  exact h.sep a m⟩
/-- a cell given up: it stands from now on -/
theorem Ext.drop (h : ∀ a, S a = none → S' a = none) : Ext S H S' H := fun b _ n => ⟨fun r _ => ⟨r, h b n⟩, fun r _ => ⟨r, h b n⟩⟩
theorem StoOk.drop (h : StoOk G H S) (k : ∀ a c, S' a = some c → S a = some c) : StoOk G H S' := ⟨fun a c e =>
  (h.at_ a c (k a c e)).ext (Ext.drop fun b n => by
    cases q : S' b with
    | none => rfl
    | some d => rw [k b d q] at n; cases n) rfl, h.msk, fun a m => by
  cases q : S' a with
  | none => rfl
  | some d =>
    have z := k a d q
    rw [h.sep a m] at z
    cases z⟩
/-- a thing that is not looked at is written -/
theorem ExtM.at {p : Addr} {o : HO} (h : M p) : ExtM M S H S (upd H p o) := fun b u nb k => by
  have ne : b ≠ p := fun e => nb (e ▸ h)
  exact ⟨fun h _ => ⟨(upd_ne ne).trans h, k⟩, fun h _ => ⟨Rd.upd ne h, k⟩⟩
theorem Reps.length : ∀ {ts : List T} {vs : List V}, Reps G H S ts vs → ts.length = vs.length
  | [], _, h => by cases h; rfl
  | _ :: _, _, h => by
    cases h with
    | cons _ h2 => rw [List.length_cons, List.length_cons, Reps.length h2]
theorem Reps.append : ∀ {ts us : List T} {vs ws : List V}, Reps G H S ts vs → Reps G H S us ws → Reps G H S (ts ++ us) (vs ++ ws)
  | [], _, _, _, h, h2 => by cases h; exact h2
  | _ :: _, _, _, _, h, h2 => by
    cases h with
    | cons q1 q2 => exact .cons q1 (Reps.append q2 h2)
theorem Reps.get : ∀ {ts : List T} {vs : List V} {i : Nat} {t : T}, Reps G H S ts vs → ts[i]? = some t → ∃ v, vs[i]? = some v ∧ Rep G H S t v
  | [], _, _, _, _, e => by simp at e
  | _ :: _, _, 0, _, h, e => by
    cases h with
    | cons q1 _ =>
      simp at e
      subst e
      exact ⟨_, rfl, q1⟩
  | _ :: _, _, i + 1, _, h, e => by
    cases h with
    | cons _ q2 =>
      obtain ⟨v, h1, h2⟩ := Reps.get (i := i) q2 (by simpa using e)
      exact ⟨v, by simpa using h1, h2⟩
theorem Reps.set {t : T} {v : V} (r : Rep G H S t v) : ∀ {ts : List T} {vs : List V} (i : Nat), Reps G H S ts vs → Reps G H S (ts.set i t) (vs.set i v)
  | [], _, _, h => by cases h; exact .nil
  | _ :: _, _, 0, h => by
    cases h with
    | cons _ q2 => exact .cons r q2
  | _ :: _, _, i + 1, h => by
    cases h with
    | cons q1 q2 => exact .cons q1 (Reps.set r i q2)
theorem Reps.take : ∀ {ts : List T} {vs : List V} (n : Nat), Reps G H S ts vs → Reps G H S (ts.take n) (vs.take n)
  | _, _, 0, _ => .nil
  | [], _, _ + 1, h => by cases h; exact .nil
  | _ :: _, _, n + 1, h => by
    cases h with
    | cons q1 q2 => exact .cons q1 (Reps.take n q2)
theorem Reps.drop : ∀ {ts : List T} {vs : List V} (n : Nat), Reps G H S ts vs → Reps G H S (ts.drop n) (vs.drop n)
  | _, _, 0, h => h
  | [], _, _ + 1, h => by cases h; exact .nil
  | _ :: _, _, n + 1, h => by
    cases h with
    | cons _ q2 => exact Reps.drop n q2
end
abbrev Gd.mask (G : Gd) (M : Addr → Prop) : Gd := { G with M := M }
section
variable {G : Gd} {H : Hp} {S : Sto} {M : Addr → Prop}
theorem At.mask {a : Addr} {u : HO} (k : ∀ a u, Rd H a u → ¬ G.M a → ¬ M a) (h : At G.M H S a u) : At (G.mask M).M H S a u := ⟨h.1, h.2.1, k a u h.1 h.2.2⟩
mutual
theorem Rep.mask (k : ∀ a u, Rd H a u → ¬ G.M a → ¬ M a) : ∀ (t : T) (v : V), Rep G H S t v → Rep (G.mask M) H S t v
  | .non, _, h => by cases h; exact .non
  | .bl _, _, h => by cases h; exact .bl _
  | .int _, _, h => by cases h; exact .int _
  | .str _, _, h => by cases h; exact .str _
  | .ref _, _, h => by cases h; exact .ref _
  | .fn _, _, h => by cases h; exact .fn _
  | .scr _, _, h => by
    cases h with
    | scr h1 => exact .scr (h1.imp (fun ⟨o, z1, z2, z3⟩ => ⟨o, z1, z2, k _ _ (.inl z1) z3⟩) id)
  | .tup ts, _, h => by
    cases h with
    | tup h1 h2 => exact .tup (h1.elim (fun ⟨o, z, s, m⟩ => .inl ⟨o, z, s, k _ _ (.inl z.1) m⟩) .inr) (Reps.mask k ts _ h2)
  | .lst ts, _, h => by
    cases h with
    | lst h1 h2 => exact .lst ⟨h1.1, h1.2.1, k _ _ (.inl h1.1) h1.2.2⟩ (Reps.mask k ts _ h2)
  | .exc c ns ts, _, h => by
    cases h with
    | exc0 h1 => exact .exc0 (h1.mask k)
    | exc1 h1 h2 h3 h4 => exact .exc1 (h1.mask k) (h2.mask k) h3 (Reps.mask k ts _ h4)
  | .dct b ks vs, _, h => by
    cases h with
    | dK h1 h2 h3 => exact .dK (h1.mask k) (Reps.mask k ks _ h2) (Reps.mask k vs _ h3)
    | dN h1 h2 h3 h4 => exact .dN (h1.mask k) h2 (Reps.mask k ks _ h3) (Reps.mask k vs _ h4)
  | .obj c ns ts, _, h => by
    cases h with
    | obj h1 h2 h3 => exact .obj ⟨h1.1, h1.2.1, k _ _ (.inl h1.1) h1.2.2⟩ h2 (Reps.mask k ts _ h3)
theorem Reps.mask (k : ∀ a u, Rd H a u → ¬ G.M a → ¬ M a) : ∀ (ts : List T) (vs : List V), Reps G H S ts vs → Reps (G.mask M) H S ts vs
  | [], _, h => by cases h; exact .nil
  | t :: ts, _, h => by
    cases h with
    | cons h1 h2 => exact .cons (Rep.mask k t _ h1) (Reps.mask k ts _ h2)
end
theorem CellOk.mask (k : ∀ a u, Rd H a u → ¬ G.M a → ¬ M a) {a : Addr} {c : Cell} (q : CellOk G H S a c) : CellOk (G.mask M) H S a c := by
  cases c with
  | lst ts =>
    obtain ⟨xs, h1, h2⟩ := q
    exact ⟨xs, h1, Reps.mask k _ _ h2⟩
  | dct b ks vs =>
    cases b with
    | false =>
      obtain ⟨kvs, h1, h2, h3⟩ := q
      exact ⟨kvs, h1, Reps.mask k _ _ h2, Reps.mask k _ _ h3⟩
    | true =>
      obtain ⟨es, h1, h2, h3, h4⟩ := q
      exact ⟨es, h1, h2, Reps.mask k _ _ h3, Reps.mask k _ _ h4⟩
  | ins c ns ts =>
    obtain ⟨d, xs, h1, h2, h3⟩ := q
    exact ⟨d, xs, h1, h2, Reps.mask k _ _ h3⟩
/-- the mask put on a new object, and taken off -/
theorem StoOk.putOn {D : Addr} {o : HO} (h : StoOk G H S) (n : H D = none) : StoOk (G.mask fun a => G.M a ∨ a = D) (upd H D o) S := by
  have k : ∀ a u, Rd H a u → ¬ G.M a → ¬ (G.M a ∨ a = D) := fun a u r m z => z.elim m fun e => Rd.ne n r e
  refine ⟨fun a c e => ((h.at_ a c e).mask k).ext (Ext.new n) (upd_ne fun z => ?_), fun a m => ?_, fun a m => ?_⟩
  · subst z
    rw [h.free n] at e
    cases e
  · rcases m with m | m
    · exact upd_some (h.msk a m)
    · rw [m, upd_same]
      exact fun z => nomatch z
  · rcases m with m | m
    · exact h.sep a m
    · rw [m]
      exact h.free n
theorem StoOk.takeOff {M' : Addr → Prop} (h : StoOk (G.mask M') H S) (k : ∀ a, G.M a → M' a) : StoOk G H S :=
  ⟨fun a c e => (h.at_ a c e).mask (M := G.M) fun a _ _ n m => n (k a m), fun a m => h.msk a (k a m), fun a m => h.sep a (k a m)⟩
theorem Reps.takeOff {M' : Addr → Prop} {ts : List T} {vs : List V} (h : Reps (G.mask M') H S ts vs) (k : ∀ a, G.M a → M' a) : Reps G H S ts vs := Reps.mask (G := G.mask M') (M := G.M) (fun a _ _ n m => n (k a m)) _ _ h
theorem Rep.takeOff {M' : Addr → Prop} {t : T} {v : V} (h : Rep (G.mask M') H S t v) (k : ∀ a, G.M a → M' a) : Rep G H S t v := Rep.mask (G := G.mask M') (M := G.M) (fun a _ _ n m => n (k a m)) _ _ h
/-- a masked object is written -/
theorem StoOk.at {p : Addr} {o : HO} (h : StoOk G H S) (m : G.M p) (n : S p = none) : StoOk G (upd H p o) S := ⟨fun a c e =>
  (h.at_ a c e).extM (ExtM.at m) (upd_ne fun z => by subst z; rw [n] at e; cases e), fun a m => upd_some (h.msk a m), h.sep⟩
end
end TL
namespace TL
open PySem PySem.Spec PyProof.Rows L2
abbrev TTE := TEnv → Sto → (T → Sto → Prop) → (T → Sto → Prop) → Prop
abbrev TTA := TEnv → Sto → (List T → Sto → Prop) → (T → Sto → Prop) → Prop
abbrev TTB := TEnv → Sto → (Bool → Sto → Prop) → (T → Sto → Prop) → Prop
structure TD where
  nx : TEnv → Sto → Prop
  rt : T → Sto → Prop
  bk : TEnv → Sto → Prop := fun _ _ => False
  ct : TEnv → Sto → Prop := fun _ _ => False
abbrev TTS := TD → TEnv → Sto → (T → TEnv → Sto → Prop) → Prop

abbrev gdOf (X : Cx) (M : Addr → Prop) : Gd := ⟨X.prog, X.K, X.w, M⟩
def EnvR (G : Gd) (H : Hp) (S : Sto) (σ : L2.St) (τ : TEnv) : Prop := σ.length = τ.length ∧ ∀ (i : Nat) (t : T), τ[i]? = some (some t) → ∃ v, σ[i]? = some (some v) ∧ Rep G H S t v
/-- a state and its trees; S0, H0: at the def's entry -/
structure Rel (G : Gd) (S0 : Sto) (H0 : Hp) (σ : L2.St) (H : Hp) (τ : TEnv) (S : Sto) : Prop where
  env : EnvR G H S σ τ
  sto : StoOk G H S
  ext : Ext S0 H0 S H
/-- an exception that flies -/
def ExcIs (G : Gd) (H : Hp) (S : Sto) (x : T) (cls : Value) (d : Option Addr) : Prop :=
  ∃ c ns ts, x = .exc c ns ts ∧ cls = .ref (He.ga G.K c) ∧ ((ns = [] ∧ ts = [] ∧ d = none) ∨ ∃ da xs, d = some da ∧ At G.M H S da (.xd (ns.zip xs)) ∧ ns.length = xs.length ∧ Reps G H S ts xs)
def wOf (X : Cx) (M : Addr → Prop) (S0 : Sto) (H0 : Hp) (E : T → TEnv → Sto → Prop) : WX := fun cls d σ H => ∃ τ S x, Rel (gdOf X M) S0 H0 σ H τ S ∧ ExcIs (gdOf X M) H S x cls d ∧ E x τ S

abbrev Takes (X : Cx) (W : WX) : Prop := L2N.Takes X W
theorem Takes.imp {X : Cx} {W W' : WX} (t : Takes X W) (h : ∀ c d σ H, W' c d σ H → W c d σ H) : Takes X W' := L2N.Takes.imp t h
theorem takes0 {X : Cx} : Takes X (fun _ _ _ _ => False) := fun _ _ x => by
  obtain ⟨_, _, _, _, _, _, _, _, _, _, _, _, _, _, _, _, z⟩ := x
  exact z.elim

section
variable {G : Gd} {S0 S S' : Sto} {H0 H H' : Hp} {σ : L2.St} {τ : TEnv}
theorem EnvR.ext (h : EnvR G H S σ τ) (x : Ext S H S' H') : EnvR G H' S' σ τ := ⟨h.1, fun i t e => let ⟨v, h1, h2⟩ := h.2 i t e; ⟨v, h1, Rep.ext x t v h2⟩⟩
theorem Rel.step (r : Rel G S0 H0 σ H τ S) (h : StoOk G H' S') (x : Ext S H S' H') : Rel G S0 H0 σ H' τ S' := ⟨r.env.ext x, h, r.ext.trans x⟩
theorem Rel.set {i : Nat} {t : T} {v : V} (r : Rel G S0 H0 σ H τ S) (h : Rep G H S t v) : Rel G S0 H0 (σ.set i (some v)) H (τ.set i (some t)) S := by
  refine ⟨⟨by rw [List.length_set, List.length_set]; exact r.env.1, fun j u e => ?_⟩, r.sto, r.ext⟩
  have l := r.env.1
  by_cases hj : i = j
  · subst hj
    have hi : i < τ.length := by
      have z := (List.getElem?_eq_some_iff.mp e).1
      rwa [List.length_set] at z
    rw [List.getElem?_set_self hi] at e
    cases e
    exact ⟨v, List.getElem?_set_self (by omega), h⟩
  · rw [List.getElem?_set_ne hj] at e
    obtain ⟨w, h1, h2⟩ := r.env.2 j u e
    exact ⟨w, by rw [List.getElem?_set_ne hj]; exact h1, h2⟩
end
def LE (X : Cx) (M : Addr → Prop) (S0 : Sto) (H0 : Hp) (t : TTE) (E : T → TEnv → Sto → Prop) : L2.TE := fun σ H Q => ∃ τ S Qt, Rel (gdOf X M) S0 H0 σ H τ S ∧ t τ S Qt (fun x S' => E x τ S') ∧
  ∀ z S' v H', Qt z S' → StoOk (gdOf X M) H' S' → Ext S H S' H' → Rep (gdOf X M) H' S' z v → Q v H'
def LB (X : Cx) (M : Addr → Prop) (S0 : Sto) (H0 : Hp) (t : TTB) (E : T → TEnv → Sto → Prop) : L2.TT := fun σ H Q => ∃ τ S Qt, Rel (gdOf X M) S0 H0 σ H τ S ∧ t τ S Qt (fun x S' => E x τ S') ∧
  ∀ b S' H', Qt b S' → StoOk (gdOf X M) H' S' → Ext S H S' H' → Q b H'
def LA (X : Cx) (M : Addr → Prop) (S0 : Sto) (H0 : Hp) (t : TTA) (E : T → TEnv → Sto → Prop) : L2.TA := fun σ H Q => ∃ τ S Qt, Rel (gdOf X M) S0 H0 σ H τ S ∧ t τ S Qt (fun x S' => E x τ S') ∧
  ∀ zs S' vs H', Qt zs S' → StoOk (gdOf X M) H' S' → Ext S H S' H' → Reps (gdOf X M) H' S' zs vs → Q vs H'
def LS (X : Cx) (M : Addr → Prop) (S0 : Sto) (H0 : Hp) (t : TTS) (E : T → TEnv → Sto → Prop) : L2.TS := fun D σ H => ∃ τ S B, Rel (gdOf X M) S0 H0 σ H τ S ∧ t B τ S E ∧
  (∀ σ' H' τ' S', Rel (gdOf X M) S0 H0 σ' H' τ' S' → Ext S H S' H' → B.nx τ' S' → D.nx σ' H') ∧ (∀ z S' v H', StoOk (gdOf X M) H' S' → Ext S H S' H' → Rep (gdOf X M) H' S' z v → B.rt z S' → D.rt v H') ∧
  (∀ σ' H' τ' S', Rel (gdOf X M) S0 H0 σ' H' τ' S' → Ext S H S' H' → B.bk τ' S' → D.bk σ' H') ∧ (∀ σ' H' τ' S', Rel (gdOf X M) S0 H0 σ' H' τ' S' → Ext S H S' H' → B.ct τ' S' → D.ct σ' H')

/-- e reads as t -/
def TE (X : Cx) (e : Expr) (t : TTE) : Prop := ∀ M S0 H0 E, Takes X (wOf X M S0 H0 E) → PE X e (LE X M S0 H0 t E)
def TB (X : Cx) (e : Expr) (t : TTB) : Prop := ∀ M S0 H0 E, Takes X (wOf X M S0 H0 E) → PT X e (LB X M S0 H0 t E)
def TW (X : Cx) (e : Expr) (t : TTB) : Prop := ∀ M S0 H0 E, Takes X (wOf X M S0 H0 E) → PW X e (LB X M S0 H0 t E)
def TA (X : Cx) (es : List Expr) (t : TTA) : Prop := ∀ M S0 H0 E, Takes X (wOf X M S0 H0 E) → PA X es (LA X M S0 H0 t E)
def TS (X : Cx) (s : Stmt) (t : TTS) : Prop := ∀ M S0 H0 E, Takes X (wOf X M S0 H0 E) → PS X s (LS X M S0 H0 t E)
def TSs (X : Cx) (s : List Stmt) (t : TTS) : Prop := ∀ M S0 H0 E, Takes X (wOf X M S0 H0 E) → PSs X s (LS X M S0 H0 t E)

theorem _root_.L2.PE.weak {X : Cx} {e : Expr} {t u : L2.TE} (h : PE X e t) (k : ∀ σ H Q, u σ H Q → t σ H Q) : PE X e u := ⟨fun pins s σ H Q I q => h.run pins s σ H Q I (k _ _ _ q)⟩
theorem _root_.L2.PT.weak {X : Cx} {e : Expr} {t u : L2.TT} (h : PT X e t) (k : ∀ σ H Q, u σ H Q → t σ H Q) : PT X e u := ⟨fun pins s σ H Q I q => h.run pins s σ H Q I (k _ _ _ q)⟩
theorem _root_.L2.PW.weak {X : Cx} {e : Expr} {t u : L2.TT} (h : PW X e t) (k : ∀ σ H Q, u σ H Q → t σ H Q) : PW X e u := ⟨fun wh pins s σ H Q I q => h.run wh pins s σ H Q I (k _ _ _ q)⟩
theorem _root_.L2.PA.weak {X : Cx} {es : List Expr} {t u : L2.TA} (h : PA X es t) (k : ∀ σ H Q, u σ H Q → t σ H Q) : PA X es u := ⟨fun pos pins s σ H Q I q => h.run pos pins s σ H Q I (k _ _ _ q)⟩
theorem _root_.L2.PS.weak {X : Cx} {s : Stmt} {t u : L2.TS} (h : PS X s t) (k : ∀ D σ H, u D σ H → t D σ H) : PS X s u := ⟨fun pins s σ H D I q => h.run pins s σ H D I (k _ _ _ q)⟩
theorem _root_.L2.PSs.weak {X : Cx} {s : List Stmt} {t u : L2.TS} (h : PSs X s t) (k : ∀ D σ H, u D σ H → t D σ H) : PSs X s u := ⟨fun pins s σ H D I q => h.run pins s σ H D I (k _ _ _ q)⟩

def cVar (i : Nat) : TTE := fun τ S Q _ => ∃ t, τ[i]? = some (some t) ∧ Q t S
def cC (t : T) : TTE := fun _ S Q _ => Q t S
def cOp (op : Sto → T → T → Option T) (a b : TTE) : TTE := fun τ S Q E => a τ S (fun x S1 => b τ S1 (fun y S2 => ∃ z, op S2 x y = some z ∧ Q z S2) E) E
def cUn (op : Sto → T → Option T) (a : TTE) : TTE := fun τ S Q E => a τ S (fun x S1 => ∃ z, op S1 x = some z ∧ Q z S1) E
def cIf (c : TTB) (a b : TTE) : TTE := fun τ S Q E => c τ S (fun k S1 => if k = true then a τ S1 Q E else b τ S1 Q E) E
def cNil : TTA := fun _ S Q _ => Q [] S
def cCons (a : TTE) (r : TTA) : TTA := fun τ S Q E => a τ S (fun x S1 => r τ S1 (fun xs S2 => Q (x :: xs) S2) E) E
def cTup (a : TTA) : TTE := fun τ S Q E => a τ S (fun xs S1 => xs.length ≤ sizeLine ∧ Q (.tup xs) S1) E
def cLst (a : TTA) : TTE := fun τ S Q E => a τ S (fun xs S1 => xs.length ≤ sizeLine ∧ Q (.lst xs) S1) E
def cLstM (a : TTA) : TTE := fun τ S Q E => a τ S (fun xs S1 => xs.length ≤ sizeLine ∧ ∀ p, S1 p = none → Q (.ref p) (ups S1 p (.lst xs))) E
def bVal (a : TTE) : TTB := fun τ S Q E => a τ S (fun x S1 => ∃ b, x = .bl b ∧ Q b S1) E
def bAnd (a b : TTB) : TTB := fun τ S Q E => a τ S (fun k S1 => if k = true then b τ S1 Q E else Q false S1) E
def bOr (a b : TTB) : TTB := fun τ S Q E => a τ S (fun k S1 => if k = true then Q true S1 else b τ S1 Q E) E
def bNot (a : TTB) : TTB := fun τ S Q E => a τ S (fun k S1 => Q (!k) S1) E
/-- and, or, not of truths as values -/
def cAnd (a b : TTE) : TTE := fun τ S Q E => a τ S (fun x S1 => ∃ k, x = .bl k ∧ if k = true then b τ S1 Q E else Q (.bl false) S1) E
def cOr (a b : TTE) : TTE := fun τ S Q E => a τ S (fun x S1 => ∃ k, x = .bl k ∧ if k = true then Q (.bl true) S1 else b τ S1 Q E) E
def cNot (a : TTE) : TTE := fun τ S Q E => a τ S (fun x S1 => ∃ k, x = .bl k ∧ Q (.bl (!k)) S1) E

section
variable {X : Cx} {S0 : Sto} {H0 : Hp} {e a b : Expr} {es : List Expr} {ta tb : TTE} {tA tB : TTB} {tr : TTA} {pos : Pos}
theorem te_var {i : Nat} {x : Str} (hN : X.N[i]? = some x) (hv : Vis X.env.scope x) (hd : (x == ("__debug__" : Str)) = false := by decide) (hcd : (x == ("__classdict__" : Str)) = false := by decide) : TE X (.Name x pos) (cVar i) := fun M S0 H0 E tk =>
  (pe_var hN hv hd hcd).weak fun σ H Q ⟨τ, S, Qt, r, ⟨t, e, h⟩, k⟩ => let ⟨v, h1, h2⟩ := r.env.2 i t e; ⟨v, h1, k t S v H h r.sto Ext.refl h2⟩
theorem te_const {t : T} {v : V} (h : PE X e (tC v)) (hr : ∀ M H S, Rep (gdOf X M) H S t v) : TE X e (cC t) := fun M S0 H0 E tk =>
  h.weak fun σ H Q ⟨τ, S, Qt, r, h, k⟩ => k t S v H h r.sto Ext.refl (hr M H S)
theorem te_int {i j} : TE X (.Constant (.int i) j pos) (cC (.int i)) := te_const pe_int fun _ _ _ => .int i
theorem te_bl {i j} : TE X (.Constant (.bool i) j pos) (cC (.bl i)) := te_const pe_bl fun _ _ _ => .bl i
/-- a written text's signs -/
def q (s : Str) : List Sg := s.cps.toList.map fun c => ⟨c % 128, Nat.mod_lt _ (by decide)⟩
theorem te_str {x : Str} {j} (h : txt (q x) = x := by decide +kernel) : TE X (.Constant (.str x) j pos) (cC (.str (q x))) := te_const pe_str fun M H S => by
  have r := Rep.str (G := gdOf X M) (H := H) (S := S) (q x)
  rw [h] at r
  exact r

/-- an operation on trees -/
def OpT (X : Cx) (f : Value → Value → Sem Value) (op : Sto → T → T → Option T) : Prop :=
  OpR X f fun x y H Q => ∃ M S tx ty t, StoOk (gdOf X M) H S ∧ Rep (gdOf X M) H S tx x ∧ Rep (gdOf X M) H S ty y ∧ op S tx ty = some t ∧ ∀ v H', StoOk (gdOf X M) H' S → Ext S H S H' → Rep (gdOf X M) H' S t v → Q v H'
/-- two expressions in a row -/
theorem two {r : R2} {M : Addr → Prop} {op : Sto → T → T → Option T} {E : T → TEnv → Sto → Prop} {σ : L2.St} {H : Hp} {Q : VK}
    (hr : ∀ x y H Q, (∃ M S tx ty t, StoOk (gdOf X M) H S ∧ Rep (gdOf X M) H S tx x ∧ Rep (gdOf X M) H S ty y ∧ op S tx ty = some t ∧ ∀ v H', StoOk (gdOf X M) H' S → Ext S H S H' → Rep (gdOf X M) H' S t v → Q v H') → r x y H Q)
    (h : LE X M S0 H0 (cOp op ta tb) E σ H Q) : tOp r (LE X M S0 H0 ta E) (LE X M S0 H0 tb E) σ H Q := by
  obtain ⟨τ, S, Qt, rel, h, k⟩ := h
  refine ⟨τ, S, _, rel, h, fun zx S1 x H1 hb o1 x1 r1 => ⟨τ, S1, _, rel.step o1 x1, hb, fun zy S2 y H2 hz o2 x2 r2 => hr _ _ _ _ ?_⟩⟩
  obtain ⟨z, e, hq⟩ := hz
  exact ⟨M, S2, zx, zy, z, o2, Rep.ext x2 _ _ r1, r2, e, fun v H' o3 x3 r3 => k z S2 v H' hq o3 ((x1.trans x2).trans x3) r3⟩
theorem te_bin {op : Operator} {f : Sto → T → T → Option T} (ho : OpT X (binaryOp op) f) (ha : TE X a ta) (hb : TE X b tb) : TE X (.BinOp a op b pos) (cOp f ta tb) := fun M S0 H0 E tk =>
  (pe_op ho (ha M S0 H0 E tk) (hb M S0 H0 E tk)).weak fun _ _ _ h => two (fun _ _ _ _ z => z) h
theorem te_cmp {op : CmpOp} {f : Sto → T → T → Option T} (ho : OpT X (compareOp op) f) (ha : TE X a ta) (hb : TE X b tb) (hm : behindInMarks op b = false) : TE X (.Compare a [op] [b] pos) (cOp f ta tb) := fun M S0 H0 E tk =>
  (pe_cmpR ho (ha M S0 H0 E tk) (hb M S0 H0 E tk) hm).weak fun _ _ _ h => two (fun _ _ _ _ z => z) h
/-- a truth as a test -/
theorem tb_val (ha : TE X a ta) (he : ∀ whole, isTrue a X.env whole = (do let v ← whole; standAt a.pos; holding [v] (truthy v)) := by intro _; rfl) : TB X a (bVal ta) := fun M S0 H0 E tk =>
  (pt_val (ha M S0 H0 E tk) he).weak fun σ H Q ⟨τ, S, Qt, rel, h, k⟩ => ⟨τ, S, _, rel, h, fun zx S1 x H1 ⟨b, e, hq⟩ o1 x1 r1 => by
    subst e
    cases r1
    exact ⟨b, rfl, k b S1 H1 hq o1 x1⟩⟩
theorem tb_cmp {op : CmpOp} {f : Sto → T → T → Option T} (ho : OpT X (compareOp op) f) (ha : TE X a ta) (hb : TE X b tb) (hm : behindInMarks op b = false) : TB X (.Compare a [op] [b] pos) (bVal (cOp f ta tb)) := fun M S0 H0 E tk =>
  (pt_cmpR ho (ha M S0 H0 E tk) (hb M S0 H0 E tk) hm).weak fun σ H Q ⟨τ, S, Qt, rel, h, k⟩ => two (S0 := S0) (H0 := H0) (fun _ _ _ _ z => z) ⟨τ, S, _, rel, h, fun zx S1 x H1 ⟨b, e, hq⟩ o1 x1 r1 => by
    subst e
    cases r1
    exact ⟨b, rfl, k b S1 H1 hq o1 x1⟩⟩
theorem TW.toB (h : TW X a tA) : TB X a tA := fun M S0 H0 E tk => (h M S0 H0 E tk).pt
theorem tw_and1 (ha : TB X a tA) : TW X (.BoolOp .And [a] pos) tA := fun M S0 H0 E tk => pw_and1 (ha M S0 H0 E tk)
theorem tw_or1 (ha : TB X a tA) : TW X (.BoolOp .Or [a] pos) tA := fun M S0 H0 E tk => pw_or1 (ha M S0 H0 E tk)
theorem tw_and {rest : List Expr} (ha : TB X a tA) (hb : TW X (.BoolOp .And (b :: rest) pos) tB) : TW X (.BoolOp .And (a :: b :: rest) pos) (bAnd tA tB) := fun M S0 H0 E tk =>
  (pw_and (ha M S0 H0 E tk) (hb M S0 H0 E tk)).weak fun σ H Q ⟨τ, S, Qt, rel, h, k⟩ => ⟨τ, S, _, rel, h, fun c S1 H1 hq o1 x1 => by
    cases c with
    | true => exact ⟨τ, S1, _, rel.step o1 x1, hq, fun d S2 H2 hq2 o2 x2 => k d S2 H2 hq2 o2 (x1.trans x2)⟩
    | false => exact k false S1 H1 hq o1 x1⟩
theorem tw_or {rest : List Expr} (ha : TB X a tA) (hb : TW X (.BoolOp .Or (b :: rest) pos) tB) : TW X (.BoolOp .Or (a :: b :: rest) pos) (bOr tA tB) := fun M S0 H0 E tk =>
  (pw_or (ha M S0 H0 E tk) (hb M S0 H0 E tk)).weak fun σ H Q ⟨τ, S, Qt, rel, h, k⟩ => ⟨τ, S, _, rel, h, fun c S1 H1 hq o1 x1 => by
    cases c with
    | false => exact ⟨τ, S1, _, rel.step o1 x1, hq, fun d S2 H2 hq2 o2 x2 => k d S2 H2 hq2 o2 (x1.trans x2)⟩
    | true => exact k true S1 H1 hq o1 x1⟩
theorem tb_not (ha : TB X a tA) : TB X (.UnaryOp .Not a pos) (bNot tA) := fun M S0 H0 E tk =>
  (pt_not (ha M S0 H0 E tk)).weak fun σ H Q ⟨τ, S, Qt, rel, h, k⟩ => ⟨τ, S, _, rel, h, fun c S1 H1 hq o1 x1 => k (!c) S1 H1 hq o1 x1⟩
theorem te_one {op} (ha : TE X a ta) : TE X (.BoolOp op [a] pos) ta := fun M S0 H0 E tk => pe_one (ha M S0 H0 E tk)
theorem te_and {rest : List Expr} (ha : TE X a ta) (hb : TE X (.BoolOp .And (b :: rest) pos) tb) : TE X (.BoolOp .And (a :: b :: rest) pos) (cAnd ta tb) := fun M S0 H0 E tk =>
  (pe_and (ha M S0 H0 E tk) (hb M S0 H0 E tk)).weak fun σ H Q ⟨τ, S, Qt, rel, h, k⟩ => ⟨τ, S, _, rel, h, fun z S1 v H1 ⟨c, e, hq⟩ o1 x1 r1 => by
    subst e
    cases r1
    cases c with
    | true => exact ⟨true, rfl, τ, S1, _, rel.step o1 x1, hq, fun d S2 v H2 hq2 o2 x2 r2 => k d S2 v H2 hq2 o2 (x1.trans x2) r2⟩
    | false => exact ⟨false, rfl, k (.bl false) S1 _ H1 hq o1 x1 (.bl _)⟩⟩
theorem ta_nil : TA X [] cNil := fun M S0 H0 E tk => pa_nil.weak fun σ H Q ⟨τ, S, Qt, rel, h, k⟩ => k [] S [] H h rel.sto Ext.refl .nil
theorem ta_cons (ha : TE X e ta) (hr : TA X es tr) (hs : starEach (e :: es) X.env = (false, eval e X.env) :: starEach es X.env := by rfl) : TA X (e :: es) (cCons ta tr) := fun M S0 H0 E tk =>
  (pa_cons (ha M S0 H0 E tk) (hr M S0 H0 E tk) hs).weak fun σ H Q ⟨τ, S, Qt, rel, h, k⟩ => ⟨τ, S, _, rel, h, fun z S1 v H1 hq o1 x1 r1 =>
    ⟨τ, S1, _, rel.step o1 x1, hq, fun zs S2 vs H2 hq2 o2 x2 r2 => k (z :: zs) S2 (v :: vs) H2 hq2 o2 (x1.trans x2) (.cons (Rep.ext x2 _ _ r1) r2)⟩⟩
theorem te_tup {k} (h : TA X es tr) : TE X (.Tuple es k pos) (cTup tr) := fun M S0 H0 E tk =>
  (pe_tupF (h M S0 H0 E tk)).weak fun σ H Q ⟨τ, S, Qt, rel, h, k⟩ => ⟨τ, S, _, rel, h, fun zs S1 vs H1 ⟨hl, hq⟩ o1 x1 r1 =>
    ⟨by rw [← r1.length]; exact hl, fun p o n d => k (.tup zs) S1 (.ref p) _ hq (o1.new n) (x1.trans (Ext.new n)) (.tup (.inl ⟨o, ⟨upd_same, d⟩, o1.free n, o1.nom n⟩) (Reps.ext (Ext.new n) _ _ r1))⟩⟩
theorem te_lst (h : TA X es tr) : TE X (.List es pos) (cLst tr) := fun M S0 H0 E tk =>
  (pe_lst (h M S0 H0 E tk)).weak fun σ H Q ⟨τ, S, Qt, rel, h, k⟩ => ⟨τ, S, _, rel, h, fun zs S1 vs H1 ⟨hl, hq⟩ o1 x1 r1 =>
    ⟨by rw [← r1.length]; exact hl, fun p n => k (.lst zs) S1 (.ref p) _ hq (o1.new n) (x1.trans (Ext.new n)) (.lst ⟨upd_same, o1.free n, o1.nom n⟩ (Reps.ext (Ext.new n) _ _ r1))⟩⟩
theorem te_lstM (h : TA X es tr) : TE X (.List es pos) (cLstM tr) := fun M S0 H0 E tk =>
  (pe_lst (h M S0 H0 E tk)).weak fun σ H Q ⟨τ, S, Qt, rel, h, k⟩ => ⟨τ, S, _, rel, h, fun zs S1 vs H1 ⟨hl, hq⟩ o1 x1 r1 =>
    ⟨by rw [← r1.length]; exact hl, fun p n => k (.ref p) (ups S1 p (.lst zs)) (.ref p) _ (hq p (o1.free n)) (o1.cell (.inl n) ⟨vs, upd_same, Reps.ext (Ext.cell (.inl n)) _ _ r1⟩) (x1.trans (Ext.cell (.inl n))) (.ref p)⟩⟩
end
end TL
namespace TL
open PySem PySem.Spec PyProof.Rows L2
abbrev TTG := T → TEnv → Sto → (TEnv → Sto → Prop) → Prop
abbrev TTGs := List T → TEnv → Sto → (TEnv → Sto → Prop) → Prop
def LG (X : Cx) (M : Addr → Prop) (vs : List Nat) (S0 : Sto) (H0 : Hp) (g : TTG) : L2.TG := fun v σ H Q => ∃ τ S z Qt, Rel (gdOf X M) S0 H0 σ H τ S ∧ Rep (gdOf X M) H S z v ∧ g z τ S Qt ∧
  ∀ σ' H' τ' S', Rel (gdOf X M) S0 H0 σ' H' τ' S' → Ext S H S' H' → wipe σ' vs = wipe σ vs → Qt τ' S' → Q σ' H'
def LGs (X : Cx) (M : Addr → Prop) (vs : List Nat) (S0 : Sto) (H0 : Hp) (g : TTGs) : L2.TGs := fun xs σ H Q => ∃ τ S zs Qt, Rel (gdOf X M) S0 H0 σ H τ S ∧ Reps (gdOf X M) H S zs xs ∧ g zs τ S Qt ∧
  ∀ σ' H' τ' S', Rel (gdOf X M) S0 H0 σ' H' τ' S' → Ext S H S' H' → wipe σ' vs = wipe σ vs → Qt τ' S' → Q σ' H'
/-- a target; vs: the names that it may store -/
def TGt (X : Cx) (vs : List Nat) (e : Expr) (g : TTG) : Prop := ∀ M S0 H0 E, Takes X (wOf X M S0 H0 E) → PG X e (LG X M vs S0 H0 g)
def TGts (X : Cx) (vs : List Nat) (es : List Expr) (g : TTGs) : Prop := ∀ M S0 H0 E, Takes X (wOf X M S0 H0 E) → PGs X es (LGs X M vs S0 H0 g)
theorem _root_.L2.PG.weak {X : Cx} {e : Expr} {t u : L2.TG} (h : PG X e t) (k : ∀ v σ H Q, u v σ H Q → t v σ H Q) : PG X e u := ⟨fun pins s σ H v w Q I r q => h.run pins s σ H v w Q I r (k _ _ _ _ q)⟩
theorem _root_.L2.PGs.weak {X : Cx} {es : List Expr} {t u : L2.TGs} (h : PGs X es t) (k : ∀ v σ H Q, u v σ H Q → t v σ H Q) : PGs X es u := ⟨fun pins s σ H v w Q I r q => h.run pins s σ H v w Q I r (k _ _ _ _ q)⟩
theorem wipe_at {σ : L2.St} {i : Nat} : ∀ (vs : List Nat), (wipe σ vs)[i]? = if i ∈ vs then (σ[i]?).map (fun _ => none) else σ[i]?
  | [] => by simp [wipe]
  | v :: vs => by
    unfold wipe
    by_cases h : v = i
    · subst h
      rw [List.getElem?_set_self', wipe_at vs]
      by_cases hm : v ∈ vs
      · simp [hm]
        cases σ[v]? <;> rfl
      · simp [hm]
        rfl
    · rw [List.getElem?_set_ne h, wipe_at vs]
      have h' : ¬ i = v := fun e => h e.symm
      simp [h']
theorem wipe_set {σ : L2.St} {i : Nat} {x : Option V} (vs : List Nat) (h : i ∈ vs) : wipe (σ.set i x) vs = wipe σ vs := by
  apply List.ext_getElem?
  intro j
  rw [wipe_at, wipe_at]
  by_cases e : i = j
  · subst e
    rw [if_pos h, if_pos h, List.getElem?_set_self']
    cases σ[i]? <;> rfl
  · rw [List.getElem?_set_ne e]
def gN (i : Nat) : TTG := fun z τ S Q => Q (τ.set i (some z)) S
def gT (g : TTGs) : TTG := fun z τ S Q => ∃ zs, z = .tup zs ∧ g zs τ S Q
def gL (g : TTGs) : TTG := fun z τ S Q => ∃ zs, z = .lst zs ∧ g zs τ S Q
def gZ : TTGs := fun zs τ S Q => zs = [] ∧ Q τ S
def gC (g : TTG) (r : TTGs) : TTGs := fun zs τ S Q => ∃ z ys, zs = z :: ys ∧ g z τ S fun τ' S' => r ys τ' S' Q
section
variable {X : Cx} {vs : List Nat} {e : Expr} {es : List Expr} {g : TTG} {r : TTGs} {pos : Pos}
theorem tg_name {i : Nat} {x : Str} (hi : i ∈ vs) (hN : X.N.Nodup) (hx : X.N[i]? = some x) (hl : Loc X.env.scope x) (hf : X.fn x = true ∨ X.env.scope.names.lookup x = some .local := by first | exact .inl rfl | exact .inr rfl | assumption) : TGt X vs (.Name x pos) (gN i) := fun M S0 H0 E tk =>
  (pg_name hN hx hl hf).weak fun v σ H Q ⟨τ, S, z, Qt, rel, hz, h, k⟩ => k _ _ _ _ (rel.set hz) Ext.refl (wipe_set vs hi) h
theorem tgs_nil : TGts X vs [] gZ := fun M S0 H0 E tk => pgs_nil.weak fun v σ H Q ⟨τ, S, z, Qt, rel, hz, ⟨h0, h⟩, k⟩ => by
  subst h0
  cases hz
  exact ⟨rfl, k _ _ _ _ rel Ext.refl rfl h⟩
theorem tgs_cons (h1 : TGt X vs e g) (h2 : TGts X vs es r) (hs : (assignEach (e :: es) X.env).map (·.2) = assign e X.env :: (assignEach es X.env).map (·.2) := by rfl) : TGts X vs (e :: es) (gC g r) := fun M S0 H0 E tk =>
  (pgs_cons (h1 M S0 H0 E tk) (h2 M S0 H0 E tk) hs).weak fun v σ H Q ⟨τ, S, z, Qt, rel, hz, ⟨y, ys, h0, h⟩, k⟩ => by
    subst h0
    cases hz with
    | cons a b =>
      exact ⟨_, _, rfl, τ, S, y, _, rel, a, h, fun σ1 H1 τ1 S1 rel1 x1 w1 q1 => ⟨τ1, S1, ys, _, rel1, Reps.ext x1 _ _ b, q1, fun σ2 H2 τ2 S2 rel2 x2 w2 q2 => k _ _ _ _ rel2 (x1.trans x2) (w2.trans w1) q2⟩⟩
theorem tg_tup {k : Nat} {n : Nat} (hc : X.calm = true) (h : TGts X vs es r) (hn : (assignEach es X.env).length = n := by rfl) (hst : (assignEach es X.env).findIdx? (·.1) = none := by rfl)
    (hr : ∀ zs τ S Q, r zs τ S Q → zs.length = n := by intro zs τ S Q z; obtain ⟨_, _, rfl, z⟩ := z; first | (obtain ⟨rfl, _⟩ := z; rfl) | skip) : TGt X vs (.Tuple es k pos) (gT r) := fun M S0 H0 E tk =>
  (pg_tup hc (h M S0 H0 E tk) hn hst).weak fun v σ H Q ⟨τ, S, z, Qt, rel, hz, ⟨zs, h0, h⟩, k⟩ => by
    subst h0
    cases hz with
    | tup a b => exact ⟨_, _, rfl, a.sq, by rw [← b.length]; exact hr _ _ _ _ h, τ, S, zs, _, rel, b, h, k⟩
/-- how many things a row of targets takes -/
def takes (r : TTGs) (n : Nat) : Prop := ∀ zs τ S Q, r zs τ S Q → zs.length = n
theorem takes_z : takes gZ 0 := fun zs τ S Q h => by rw [h.1]; rfl
theorem takes_c {n : Nat} (h : ∀ zs τ S Q, r zs τ S Q → zs.length = n) : takes (gC (gN i) r) (n + 1) := fun zs τ S Q ⟨z, ys, e, q⟩ => by rw [e, List.length_cons, h _ _ _ _ q]
end
def cSkip : TTS := fun D τ S _ => D.nx τ S
def cSeq (t u : TTS) : TTS := fun D τ S E => t { D with nx := fun τ' S' => u D τ' S' E } τ S E
def cAsg (e : TTE) (g : TTG) : TTS := fun D τ S E => e τ S (fun z S' => g z τ S' D.nx) (fun x S' => E x τ S')
def cSet (i : Nat) (e : TTE) : TTS := fun D τ S E => e τ S (fun z S' => D.nx (τ.set i (some z)) S') (fun x S' => E x τ S')
def cRet (e : TTE) : TTS := fun D τ S E => e τ S D.rt (fun x S' => E x τ S')
def cRetN : TTS := fun D _ S _ => D.rt .non S
def cDo (e : TTE) : TTS := fun D τ S E => e τ S (fun _ S' => D.nx τ S') (fun x S' => E x τ S')
def cIfS (c : TTB) (a b : TTS) : TTS := fun D τ S E => c τ S (fun k S' => if k = true then a D τ S' E else b D τ S' E) (fun x S' => E x τ S')
def cPar2 (i j : Nat) (a b : TTE) : TTS := fun D τ S E => a τ S (fun x S1 => b τ S1 (fun y S2 => D.nx ((τ.set i (some x)).set j (some y)) S2) (fun x S' => E x τ S')) (fun x S' => E x τ S')
def cPar3 (i j l : Nat) (a b c : TTE) : TTS := fun D τ S E => a τ S (fun x S1 => b τ S1 (fun y S2 => c τ S2 (fun z S3 => D.nx (((τ.set i (some x)).set j (some y)).set l (some z)) S3) (fun x S' => E x τ S')) (fun x S' => E x τ S')) (fun x S' => E x τ S')
def cBrk : TTS := fun D τ S _ => D.bk τ S
def cCont : TTS := fun D τ S _ => D.ct τ S
section
variable {X : Cx} {st : Stmt} {rest body orelse : List Stmt} {t u : TTS} {e tg : Expr} {te ta tb tc : TTE} {tB : TTB} {g : TTG} {vs : List Nat} {pos : Pos}
theorem tss_nil : TSs X [] cSkip := fun M S0 H0 E tk => pss_nil.weak fun D σ H ⟨τ, S, B, rel, h, k, _⟩ => k _ _ _ _ rel Ext.refl h
theorem tss_cons (h : TS X st t) (hr : TSs X rest u) : TSs X (st :: rest) (cSeq t u) := fun M S0 H0 E tk =>
  (pss_cons (h M S0 H0 E tk) (hr M S0 H0 E tk)).weak fun D σ H ⟨τ, S, B, rel, h, k1, k2, k3, k4⟩ => ⟨τ, S, _, rel, h,
    fun σ1 H1 τ1 S1 rel1 x1 q => ⟨τ1, S1, B, rel1, q, fun σ2 H2 τ2 S2 rel2 x2 q2 => k1 _ _ _ _ rel2 (x1.trans x2) q2, fun z S2 v H2 o2 x2 r2 q2 => k2 z S2 v H2 o2 (x1.trans x2) r2 q2,
      fun σ2 H2 τ2 S2 rel2 x2 q2 => k3 _ _ _ _ rel2 (x1.trans x2) q2, fun σ2 H2 τ2 S2 rel2 x2 q2 => k4 _ _ _ _ rel2 (x1.trans x2) q2⟩, k2, k3, k4⟩
theorem ts_ret (h : TE X e te) : TS X (.Return (some e) pos) (cRet te) := fun M S0 H0 E tk => (ps_ret (h M S0 H0 E tk)).weak fun D σ H ⟨τ, S, B, rel, q, _, k, _⟩ =>
  ⟨τ, S, _, rel, q, fun z S1 v H1 hq o1 x1 r1 => k z S1 v H1 o1 x1 r1 hq⟩
theorem ts_do (h : TE X e te) (hs : swapsWith e none pos.line X.env = pure false := by rfl) : TS X (.Expr e pos) (cDo te) := fun M S0 H0 E tk => (ps_expr (h M S0 H0 E tk) hs).weak fun D σ H ⟨τ, S, B, rel, q, k, _⟩ =>
  ⟨τ, S, _, rel, q, fun z S1 v H1 hq o1 x1 r1 => k _ _ _ _ (rel.step o1 x1) x1 hq⟩
theorem ts_if {c : Expr} {a b : List Stmt} (hc : TB X c tB) (ha : TSs X a t) (hb : TSs X b u) : TS X (.If c a b pos) (cIfS tB t u) := fun M S0 H0 E tk => (ps_if (hc M S0 H0 E tk) (ha M S0 H0 E tk) (hb M S0 H0 E tk)).weak fun D σ H ⟨τ, S, B, rel, q, k1, k2, k3, k4⟩ =>
  ⟨τ, S, _, rel, q, fun c S1 H1 hq o1 x1 => by
    have fin : ∀ t : TTS, t B τ S1 E → LS X M S0 H0 t E D σ H1 := fun t h => ⟨τ, S1, B, rel.step o1 x1, h, fun σ2 H2 τ2 S2 rel2 x2 q2 => k1 _ _ _ _ rel2 (x1.trans x2) q2, fun z S2 v H2 o2 x2 r2 q2 => k2 z S2 v H2 o2 (x1.trans x2) r2 q2,
      fun σ2 H2 τ2 S2 rel2 x2 q2 => k3 _ _ _ _ rel2 (x1.trans x2) q2, fun σ2 H2 τ2 S2 rel2 x2 q2 => k4 _ _ _ _ rel2 (x1.trans x2) q2⟩
    cases c with
    | true => exact fin t hq
    | false => exact fin u hq⟩
theorem ts_set {i : Nat} {x : Str} {pos' : Pos} (hN : X.N.Nodup) (hi : X.N[i]? = some x) (hx : Loc X.env.scope x) (he : TE X e te) (hs : swapsWith e (some (.Name x pos')) pos.line X.env = pure false := by rfl) (hf : X.fn x = true ∨ X.env.scope.names.lookup x = some .local := by first | exact .inl rfl | exact .inr rfl | assumption) :
    TS X (.Assign [.Name x pos'] e pos) (cSet i te) := fun M S0 H0 E tk => (ps_set hN hi hx (he M S0 H0 E tk) hs hf).weak fun D σ H ⟨τ, S, B, rel, q, k, _⟩ =>
  ⟨τ, S, _, rel, q, fun z S1 v H1 hq o1 x1 r1 => k _ _ _ _ ((rel.step o1 x1).set r1) x1 hq⟩
theorem ts_asg (he : TE X e te) (hg : TGt X vs tg g) (hs : swapsWithSole [tg] e pos.line X.env = pure false := by rfl) (hw : swappedStores [tg] e X.env = pure none := by rfl)
    (h1 : (assignEach [tg] X.env).map (·.2) = [assign tg X.env] := by rfl) : TS X (.Assign [tg] e pos) (cAsg te g) := fun M S0 H0 E tk => (ps_asg (he M S0 H0 E tk) (hg M S0 H0 E tk) hs hw h1).weak fun D σ H ⟨τ, S, B, rel, q, k, _⟩ =>
  ⟨τ, S, _, rel, q, fun z S1 v H1 hq o1 x1 r1 => ⟨τ, S1, z, _, rel.step o1 x1, r1, hq, fun σ2 H2 τ2 S2 rel2 x2 _ q2 => k _ _ _ _ rel2 (x1.trans x2) q2⟩⟩
theorem ts_par2 {i j : Nat} {x y : Str} {a b : Expr} {px py pt : Pos} {kt k2 pt2} (hc : X.calm = true) (hN : X.N.Nodup) (hi : X.N[i]? = some x) (hj : X.N[j]? = some y) (hij : i ≠ j)
    (hx : X.env.scope.names.lookup x = some .local) (hy : X.env.scope.names.lookup y = some .local) (ha : TA X [a, b] (cCons ta (cCons tb cNil)))
    (hw : swappedStores [.Tuple [.Name x px, .Name y py] kt pt] (.Tuple [a, b] k2 pt2) X.env = pure (some [x, y]))
    (hs : swapsWithSole [.Tuple [.Name x px, .Name y py] kt pt] (.Tuple [a, b] k2 pt2) pos.line X.env = pure false := by rfl) :
    TS X (.Assign [.Tuple [.Name x px, .Name y py] kt pt] (.Tuple [a, b] k2 pt2) pos) (cPar2 i j ta tb) := fun M S0 H0 E tk => (ps_par hc hN hi hj hij hx hy (ha M S0 H0 E tk) hw hs).weak fun D σ H ⟨τ, S, B, rel, q, k, _⟩ =>
  ⟨τ, S, fun zs S2 => ∃ z1 z2, zs = [z1, z2] ∧ B.nx ((τ.set i (some z1)).set j (some z2)) S2, rel, by
      refine (show ta τ S (fun x S1 => tb τ S1 (fun y S2 => ∃ z1 z2, [x, y] = [z1, z2] ∧ B.nx ((τ.set i (some z1)).set j (some z2)) S2) fun x S' => E x τ S') fun x S' => E x τ S' from ?_)
      have e : (fun (x : T) (S1 : Sto) => tb τ S1 (fun y S2 => ∃ z1 z2, [x, y] = [z1, z2] ∧ B.nx ((τ.set i (some z1)).set j (some z2)) S2) fun x S' => E x τ S') = fun (x : T) (S1 : Sto) => tb τ S1 (fun y S2 => B.nx ((τ.set i (some x)).set j (some y)) S2) fun x S' => E x τ S' := by
        funext x S1
        congr 1
        funext y S2
        apply propext
        constructor
        · rintro ⟨z1, z2, e, h⟩
          injection e with e1 e2
          injection e2 with e2 _
          subst e1 e2
          exact h
        · exact fun h => ⟨x, y, rfl, h⟩
      rw [e]
      exact q, fun zs S1 ws H1 hq o1 x1 r1 => by
    obtain ⟨z1, z2, e, h⟩ := hq
    subst e
    cases r1 with
    | cons r1 r2 =>
      cases r2 with
      | cons r2 r3 =>
        cases r3
        exact ⟨_, _, rfl, k _ _ _ _ (((rel.step o1 x1).set r1).set r2) x1 h⟩⟩
end
end TL
namespace TL
open PySem PySem.Spec PyProof.Rows L2
/-- the iterator J hands out the trees xs while gd holds of the store -/
structure Wks (G : Gd) (J : It) (xs : List T) (gd : Sto → Prop) (S1 : Sto) (H1 : Hp) : Prop where
  go : ∀ (M' : Addr → Prop) S H i z, (∀ a, M' a → ¬ G.M a → H1 a = none) → StoOk (G.mask M') H S → Ext S1 H1 S H → gd S → xs[i]? = some z → J.go i H ∧ ∀ x H', J.yld i H x H' → StoOk (G.mask M') H' S ∧ Ext S H S H' ∧ Rep (G.mask M') H' S z x
  stop : ∀ (M' : Addr → Prop) S H, StoOk (G.mask M') H S → Ext S1 H1 S H → gd S → J.stop xs.length H
abbrev TTI := TEnv → Sto → (List T → (Sto → Prop) → Sto → Prop) → (T → Sto → Prop) → Prop
def LI (X : Cx) (M : Addr → Prop) (S0 : Sto) (H0 : Hp) (t : TTI) (E : T → TEnv → Sto → Prop) : L2.TI := fun σ H R => ∃ τ S Qt, Rel (gdOf X M) S0 H0 σ H τ S ∧ t τ S Qt (fun x S' => E x τ S') ∧
  ∀ xs gd S' J H', Qt xs gd S' → StoOk (gdOf X M) H' S' → Ext S H S' H' → Wks (gdOf X M) J xs gd S' H' → R J H'
def TI (X : Cx) (tg e : Expr) (t : TTI) : Prop := ∀ M S0 H0 E, Takes X (wOf X M S0 H0 E) → PI X tg e (LI X M S0 H0 t E)

def yes : Sto → Prop := fun _ => True
def items (S : Sto) : T → Option (List T × (Sto → Prop))
  | .tup xs => some (xs, yes)
  | .lst xs => some (xs, yes)
  | .str x => some (x.map (fun c => .str [c]), yes)
  | .ref a => match S a with
    | some (.lst xs) => some (xs, fun S' => S' a = some (.lst xs))
    | _ => none
  | _ => none
section
variable {X : Cx} {tg e : Expr}
def iAny (K : PySem.W.Frag) (tl : L2.TE) : L2.TI := fun σ H R => tl σ H fun x H1 => (∃ a xs, x = .ref a ∧ SqL K H1 a xs ∧ R (Itl K a) H1) ∨ (∃ a xs, x = .ref a ∧ SqT K H1 a xs ∧ R (Itt K a) H1) ∨ ∃ y, x = .str y ∧ R (Its y) H1
theorem pi_any {tl : L2.TE} (hl : PE X e tl) : PI X tg e (iAny X.K tl) := by
  constructor
  intro pins s σ H R I h
  refine thn (hl.run pins s σ H _ I h) fun v s1 q1 => ?_
  obtain ⟨x, H1, I1, r1, q1⟩ := q1
  rcases q1 with ⟨a, xs, rfl, hq, q⟩ | ⟨a, xs, rfl, hq, q⟩ | ⟨y, rfl, q⟩
  · obtain rfl : v = .ref a := r1
    obtain ⟨its, _, p, _⟩ := I1.list hq
    exact wpAny_pyIter_list p.isList (pi_one (tk := s1.toks) I1 _ (turn_list a _) ⟨_, Heap.get?_push_size _ rfl, rfl, rfl⟩ q)
  · obtain rfl : v = .ref a := r1
    obtain ⟨its, _, p, _⟩ := I1.tuple hq
    exact wpAny_pyIter_tuple p (pi_one (tk := s1.toks) I1 _ (turn_tuple a _) ⟨_, Heap.get?_push_size _ rfl, rfl, rfl⟩ q)
  · obtain ⟨t, rfl⟩ := r1
    cases ha : y.cps.all (· < 128) with
    | false => exact wpAny_pyIter_wide ha (pi_one (tk := s1.toks) I1 _ (turn_str _ y t "str_iterator" (Or.inr rfl)) ⟨_, Heap.get?_push_size _ rfl, rfl, rfl⟩ q)
    | true => exact wpAny_pyIter_ascii ha (pi_one (tk := s1.toks) I1 _ (turn_str _ y t "str_ascii_iterator" (Or.inl rfl)) ⟨_, Heap.get?_push_size _ rfl, rfl, rfl⟩ q)
end
section
variable {G : Gd} {S1 : Sto} {H1 : Hp}
theorem newK {M' : Addr → Prop} (k : ∀ a, M' a → ¬ G.M a → H1 a = none) : ∀ a u, Rd H1 a u → ¬ G.M a → ¬ M' a := fun a u r m z => by
  have n := k a z m
  rcases r with r | ⟨_, r⟩ <;> rw [n] at r <;> cases r
theorem wks_list {a : Addr} {ws : List V} {ts : List T} (h : LstAt G H1 S1 a ws) (r : Reps G H1 S1 ts ws) : Wks G (Itl G.K a) ts yes S1 H1 where
  go := fun M' S H i z nk o x _ hz => by
    have q := (h.ext x).sq
    obtain ⟨v, h1, h2⟩ := (Reps.ext x _ _ (Reps.mask (newK nk) _ _ r)).get hz
    refine ⟨⟨ws, v, q, h1⟩, ?_⟩
    rintro y H' ⟨rfl, hy⟩
    obtain rfl : v = y := Option.some.inj (h1.symm.trans (hy ws q))
    exact ⟨o, Ext.refl, h2⟩
  stop := fun M' S H o x _ => ⟨ws, (h.ext x).sq, by rw [r.length]; exact Nat.le_refl _⟩
theorem wks_tup {a : Addr} {ws : List V} {ts : List T} (h : TupAt G H1 S1 a ws) (r : Reps G H1 S1 ts ws) : Wks G (Itt G.K a) ts yes S1 H1 where
  go := fun M' S H i z nk o x _ hz => by
    have q := (h.ext x).sq
    obtain ⟨v, h1, h2⟩ := (Reps.ext x _ _ (Reps.mask (newK nk) _ _ r)).get hz
    refine ⟨⟨ws, v, q, h1⟩, ?_⟩
    rintro y H' ⟨rfl, hy⟩
    obtain rfl : v = y := Option.some.inj (h1.symm.trans (hy ws q))
    exact ⟨o, Ext.refl, h2⟩
  stop := fun M' S H o x _ => ⟨ws, (h.ext x).sq, by rw [r.length]; exact Nat.le_refl _⟩
theorem wks_cell {a : Addr} {ts : List T} : Wks G (Itl G.K a) ts (fun S' => S' a = some (.lst ts)) S1 H1 where
  go := fun M' S H i z nk o x hg hz => by
    obtain ⟨ws, hw, r⟩ := o.at_ a _ hg
    obtain ⟨v, h1, h2⟩ := r.get hz
    have q : SqL G.K H a ws := SqL.of hw
    refine ⟨⟨ws, v, q, h1⟩, ?_⟩
    rintro y H' ⟨rfl, hy⟩
    obtain rfl : v = y := Option.some.inj (h1.symm.trans (hy ws q))
    exact ⟨o, Ext.refl, h2⟩
  stop := fun M' S H o x hg => by
    obtain ⟨ws, hw, r⟩ := o.at_ a _ hg
    exact ⟨ws, SqL.of hw, by rw [r.length]; exact Nat.le_refl _⟩
theorem wks_str {x : List Sg} : Wks G (Its (txt x)) (x.map fun c => T.str [c]) yes S1 H1 where
  go := fun M' S H i z nk o _ _ hz => by
    rw [List.getElem?_map] at hz
    cases hc : x[i]? with
    | none => rw [hc] at hz; cases hz
    | some c =>
      rw [hc] at hz
      obtain rfl : T.str [c] = z := Option.some.inj hz
      refine ⟨?_, ?_⟩
      · show i < (x.map (·.val)).toArray.size
        have := (List.getElem?_eq_some_iff.mp hc).1
        simpa using this
      rintro y H' ⟨rfl, d, hd, rfl⟩
      obtain rfl : c.val = d := by
        have hd' : ((x.map (·.val)).toArray)[i]? = some d := hd
        rw [List.getElem?_toArray, List.getElem?_map, hc] at hd'
        exact Option.some.inj hd'
      exact ⟨o, Ext.refl, .str [c]⟩
  stop := fun M' S H o _ _ => by
    show ((x.map (·.val)).toArray).size ≤ (x.map fun c => T.str [c]).length
    simp
theorem wks_range {lo : Int} {n : Nat} : Wks G (Itr lo n) ((List.range n).map fun i => T.int (lo + (i : Nat))) yes S1 H1 where
  go := fun M' S H i z nk o _ _ hz => by
    rw [List.getElem?_map] at hz
    cases hc : (List.range n)[i]? with
    | none => rw [hc] at hz; cases hz
    | some c =>
      rw [hc] at hz
      have hi : i < n := by
        have := (List.getElem?_eq_some_iff.mp hc).1
        simpa using this
      have hci : i = c := by
        rw [List.getElem?_range hi] at hc
        exact Option.some.inj hc
      subst hci
      obtain rfl : T.int (lo + (i : Nat)) = z := Option.some.inj hz
      refine ⟨hi, ?_⟩
      rintro y H' ⟨rfl, rfl⟩
      exact ⟨o, Ext.refl, .int _⟩
  stop := fun M' S H o _ _ => by
    show n ≤ ((List.range n).map fun i => T.int (lo + (i : Nat))).length
    simp
end
/-- what is walked of a value -/
def iSeq (e : TTE) : TTI := fun τ S Q E => e τ S (fun x S1 => ∃ p, items S1 x = some p ∧ Q p.1 p.2 S1) E
def iRange1 (a : TTE) : TTI := fun τ S Q E => a τ S (fun x S1 => ∃ j : Int, x = .int j ∧ -(2 ^ 62) ≤ j ∧ j < 2 ^ 62 ∧ Q ((List.range j.toNat).map fun i => T.int (0 + (i : Nat))) yes S1) E
theorem _root_.L2.PI.weak {X : Cx} {tg e : Expr} {t u : L2.TI} (h : PI X tg e t) (k : ∀ σ H R, u σ H R → t σ H R) : PI X tg e u := ⟨fun pins s σ H R I q => h.run pins s σ H R I (k _ _ _ q)⟩
section
variable {X : Cx} {tg e a b : Expr} {te ta tb : TTE} {p pos : Pos}
theorem ti_seq (h : TE X e te) : TI X tg e (iSeq te) := fun M S0 H0 E tk => (pi_any (h M S0 H0 E tk)).weak fun σ H R ⟨τ, S, Qt, rel, q, k⟩ => ⟨τ, S, _, rel, q, fun z S1 v H1 ⟨pr, hp, hq⟩ o1 x1 r1 => by
  cases r1 with
  | tup h1 h2 =>
    obtain rfl := Option.some.inj hp
    exact .inr (.inl ⟨_, _, rfl, h1.sq, k _ _ S1 _ H1 hq o1 x1 (wks_tup h1 h2)⟩)
  | lst h1 h2 =>
    obtain rfl := Option.some.inj hp
    exact .inl ⟨_, _, rfl, h1.sq, k _ _ S1 _ H1 hq o1 x1 (wks_list h1 h2)⟩
  | str y =>
    obtain rfl := Option.some.inj hp
    exact .inr (.inr ⟨_, rfl, k _ _ S1 _ H1 hq o1 x1 wks_str⟩)
  | ref a =>
    cases hs : S1 a with
    | none => simp [items, hs] at hp
    | some c =>
      cases c with
      | lst ts =>
        simp only [items, hs] at hp
        obtain rfl := Option.some.inj hp
        obtain ⟨ws, hw, r⟩ := o1.at_ a _ hs
        exact .inl ⟨a, ws, rfl, SqL.of hw, k _ _ S1 _ H1 hq o1 x1 wks_cell⟩
      | dct _ _ _ => simp [items, hs] at hp
      | ins _ _ _ => simp [items, hs] at hp
  | _ => cases hp⟩
theorem ti_range1 (hg : Gl X "range") (hm : X.mg "range" = none) (ha : TE X a ta) (hs : starEach [a] X.env = [(false, eval a X.env)] := by rfl) : TI X tg (.Call (.Name "range" p) [a] [] pos) (iRange1 ta) := fun M S0 H0 E tk =>
  (pi_range1 hg hm (ta_cons ha ta_nil hs M S0 H0 E tk) hs).weak fun σ H R ⟨τ, S, Qt, rel, q, k⟩ => ⟨τ, S, fun zs S1 => ∃ j : Int, zs = [.int j] ∧ -(2 ^ 62) ≤ j ∧ j < 2 ^ 62 ∧ Qt ((List.range j.toNat).map fun i => T.int (0 + (i : Nat))) yes S1, rel, by
    have e : (fun (x : T) (S1 : Sto) => ∃ j : Int, [x] = [T.int j] ∧ -(2 ^ 62) ≤ j ∧ j < 2 ^ 62 ∧ Qt ((List.range j.toNat).map fun i => T.int (0 + (i : Nat))) yes S1) = fun (x : T) (S1 : Sto) => ∃ j : Int, x = .int j ∧ -(2 ^ 62) ≤ j ∧ j < 2 ^ 62 ∧ Qt ((List.range j.toNat).map fun i => T.int (0 + (i : Nat))) yes S1 := by
      funext x S1
      simp only [List.cons.injEq, and_true]
    show ta τ S (fun (x : T) (S1 : Sto) => ∃ j : Int, [x] = [T.int j] ∧ -(2 ^ 62) ≤ j ∧ j < 2 ^ 62 ∧ Qt ((List.range j.toNat).map fun i => T.int (0 + (i : Nat))) yes S1) fun x S' => E x τ S'
    rw [e]
    exact q, fun zs S1 vs H1 hq o1 x1 r1 => by
    obtain ⟨j, rfl, h1, h2, hq⟩ := hq
    cases r1 with
    | cons r1 r2 =>
      cases r2
      cases r1
      exact ⟨j, rfl, h1, h2, k _ _ S1 _ H1 hq o1 x1 wks_range⟩⟩
end
def forT (g : TTG) (b : TTS) (gd : Sto → Prop) (D : TD) (E : T → TEnv → Sto → Prop) : List T → TEnv → Sto → Prop
  | [], τ, S => gd S ∧ D.nx τ S
  | x :: xs, τ, S => gd S ∧ g x τ S fun τ1 S1 => b { D with nx := forT g b gd D E xs, ct := forT g b gd D E xs, bk := D.nx } τ1 S1 E
def cFor (it : TTI) (g : TTG) (b : TTS) : TTS := fun D τ S E => it τ S (fun xs gd S1 => forT g b gd D E xs τ S1) (fun x S' => E x τ S')
section
variable {X : Cx} {tg iter : Expr} {body : List Stmt} {ti : TTI} {g : TTG} {t : TTS} {vs : List Nat} {pos : Pos}
theorem ts_for (hp : PassesOwn (model X.prog X.w) X.A X.env X.xe) (hc : X.calm = true) (hi : TI X tg iter ti) (hg : TGt X vs tg g) (hb : TSs X body t) (hs : ∀ x, foldedSetIterable iter X.env x = pure x := by intro _; rfl) :
    TS X (.For tg iter body [] pos) (cFor ti g t) := fun M S0 H0 E tk => (ps_for hp hc (hi M S0 H0 E tk) (hg M S0 H0 E tk) (hb M S0 H0 E tk) hs).weak fun D σ H ⟨τ, S, B, rel, q, k1, k2, k3, k4⟩ => by
  refine ⟨τ, S, _, rel, q, fun xs gd S1 J H1 hq o1 x1 wk => ?_⟩
  let W : Nat → Nat → L2.St → Hp → Prop := fun i m σ' H' => m = xs.length - i ∧ i ≤ xs.length ∧ ∃ τ' S', Rel (gdOf X M) S0 H0 σ' H' τ' S' ∧ Ext S1 H1 S' H' ∧ forT g t gd B E (xs.drop i) τ' S'
  refine ⟨W, ⟨xs.length, by simp, Nat.zero_le _, τ, S1, rel.step o1 x1, Ext.refl, hq⟩, ?_⟩
  rintro i m σ2 H2 ⟨rfl, hi, τ2, S2, rel2, x2, q2⟩
  by_cases hlt : i < xs.length
  · rw [List.drop_eq_getElem_cons hlt] at q2
    obtain ⟨hgd, q2⟩ := q2
    obtain ⟨hgo, hy⟩ := wk.go M S2 H2 i xs[i] (fun a h n => absurd h n) rel2.sto x2 hgd (List.getElem?_eq_getElem hlt)
    refine .inr ⟨hgo, W (i + 1) (xs.length - (i + 1)), fun σ' H' w => ⟨_, by omega, w⟩, fun x H' y => ?_⟩
    obtain ⟨o3, x3, r3⟩ := hy x H' y
    refine ⟨τ2, S2, xs[i], _, rel2.step o3 x3, r3, q2, fun σ4 H4 τ4 S4 rel4 x4 _ q4 => ?_⟩
    have xx : Ext S1 H1 S4 H4 := (x2.trans x3).trans x4
    refine ⟨τ4, S4, _, rel4, q4, fun σ5 H5 τ5 S5 rel5 x5 q5 => ⟨rfl, hlt, τ5, S5, rel5, xx.trans x5, q5⟩, fun z S5 v H5 o5 x5 r5 q5 => k2 z S5 v H5 o5 (x1.trans (xx.trans x5)) r5 q5,
      fun σ5 H5 τ5 S5 rel5 x5 q5 => k1 _ _ _ _ rel5 (x1.trans (xx.trans x5)) q5, fun σ5 H5 τ5 S5 rel5 x5 q5 => ⟨rfl, hlt, τ5, S5, rel5, xx.trans x5, q5⟩⟩
  · have e : i = xs.length := by omega
    subst e
    rw [List.drop_length] at q2
    exact .inl ⟨wk.stop M S2 H2 rel2.sto x2 q2.1, k1 _ _ _ _ rel2 (x1.trans x2) q2.2⟩
end
def wipeT (τ : TEnv) : List Nat → TEnv
  | [] => τ
  | v :: vs => (wipeT τ vs).set v none
def compT (g : TTG) (c : TTB) (e : TTE) (own : List Nat) (gd : Sto → Prop) (τ : TEnv) (K : List T → Sto → Prop) : List T → List T → Sto → Prop
  | [], acc, S => gd S ∧ K acc S
  | x :: xs, acc, S => gd S ∧ g x (wipeT τ own) S fun τ1 S1 => c τ1 S1 (fun k S2 => if k = true then e τ1 S2 (fun y S3 => acc.length < sizeLine ∧ compT g c e own gd τ K xs (acc ++ [y]) S3) (fun _ _ => False)
    else compT g c e own gd τ K xs acc S2) (fun _ _ => False)
def cComp (it : TTI) (g : TTG) (c : TTB) (e : TTE) (own : List Nat) : TTE := fun τ S Q E => it τ S (fun xs gd S1 => compT g c e own gd τ (fun zs S2 => Q (.lst zs) S2) xs [] S1) E
def bYes : TTB := fun _ S Q _ => Q true S
section
variable {G : Gd} {H : Hp} {S : Sto}
theorem EnvR.wipe {σ : L2.St} {τ : TEnv} (h : EnvR G H S σ τ) (vs : List Nat) : EnvR G H S (wipe σ vs) (wipeT τ vs) := by
  induction vs with
  | nil => exact h
  | cons v vs ih =>
    refine ⟨?_, fun i t e => ?_⟩
    · show ((L2.wipe σ vs).set v none).length = ((wipeT τ vs).set v none).length
      rw [List.length_set, List.length_set]
      exact ih.1
    · have e' : ((wipeT τ vs).set v none)[i]? = some (some t) := e
      by_cases hv : v = i
      · subst hv
        rw [List.getElem?_set_self'] at e'
        cases q : (wipeT τ vs)[v]? with
        | none => rw [q] at e'; cases e'
        | some z => rw [q] at e'; cases e'
      · rw [List.getElem?_set_ne hv] at e'
        obtain ⟨w, h1, h2⟩ := ih.2 i t e'
        refine ⟨w, ?_, h2⟩
        show ((L2.wipe σ vs).set v none)[i]? = some (some w)
        rw [List.getElem?_set_ne hv]
        exact h1
end
def TBs (X : Cx) (ifs : List Expr) (t : TTB) : Prop := ∀ M S0 H0 E, Takes X (wOf X M S0 H0 E) → PTs X ifs (LB X M S0 H0 t E)
theorem tbs_nil {X : Cx} : TBs X [] bYes := fun M S0 H0 E tk => ⟨fun pins s σ H Q I ⟨τ, S, Qt, rel, h, k⟩ => pts_nil.run pins s σ H Q I (k true S H h rel.sto Ext.refl)⟩
theorem tbs_one {X : Cx} {c : Expr} {t : TTB} (h : TB X c t) : TBs X [c] t := fun M S0 H0 E tk => pts_one (h M S0 H0 E tk)
theorem takes_blk {X : Cx} {s : Shared} {H : Hp} {scope : Scope} {env : Env} {fp : List Addr} {M : Addr → Prop} {S0 : Sto} {H0 : Hp} : Takes (X.blk s H scope env fp) (wOf (X.blk s H scope env fp) M S0 H0 fun _ _ _ => False) := takes0.imp fun c d σ H ⟨_, _, _, _, _, z⟩ => z.elim
/-- E is never: within a block nothing is let out -/
abbrev EN : T → TEnv → Sto → Prop := fun _ _ _ => False
/-- the mask with one more -/
def also (M : Addr → Prop) (D : Addr) : Addr → Prop := fun a => M a ∨ a = D
/-- readings whose mask is chosen where they begin -/
def XG (X : Cx) (vs : List Nat) (S0 : Sto) (H0 : Hp) (g : TTG) : L2.TG := fun v σ H Q => ∃ M, LG X M vs S0 H0 g v σ H Q
def XB (X : Cx) (S0 : Sto) (H0 : Hp) (t : TTB) : L2.TT := fun σ H Q => ∃ M, LB X M S0 H0 t EN σ H Q
def XE' (X : Cx) (S0 : Sto) (H0 : Hp) (t : TTE) : L2.TE := fun σ H Q => ∃ M, LE X M S0 H0 t EN σ H Q
section
variable {X : Cx} {elt tg iter : Expr} {ifs : List Expr} {scope : Scope} {own : List Nat} {ti : TTI} {g : TTG} {tc : TTB} {te : TTE} {pos spos py : Pos}
/-- the comprehension's reading from its tree -/
theorem comp_read {M : Addr → Prop} {S0 : Sto} {H0 : Hp} {E : T → TEnv → Sto → Prop} {σ : L2.St} {H : Hp} {Q : VK} {τ : TEnv} {S : Sto} (Kt : List T → Sto → Prop) (rel : Rel (gdOf X M) S0 H0 σ H τ S)
    (h : ti τ S (fun xs gd S1 => compT g tc te own gd τ Kt xs [] S1) (fun x S' => E x τ S'))
    (fin : ∀ zs S2 D H2 vs, Kt zs S2 → StoOk (gdOf X (also M D)) H2 S2 → Ext S H S2 H2 → H2 D = some (.lst vs) → S2 D = none → ¬ M D → (∀ c, Ext S H (ups S2 D c) H2) → Reps (gdOf X (also M D)) H2 S2 zs vs → Q (.ref D) H2) :
    tLc (LI X M S0 H0 ti E) (XG X own S0 H0 g) (XB X S0 H0 tc) (XE' X S0 H0 te) own σ H Q := by
  refine ⟨τ, S, _, rel, h, fun xs gd S1 J H1 hq o1 x1 wk D hD => ?_⟩
  have xD : Ext S1 H1 S1 (upd H1 D (.lst [])) := Ext.new hD
  let W : Nat → Nat → Hp → Prop := fun i m H' => m = xs.length - i ∧ i ≤ xs.length ∧ ∃ S' acc vs, StoOk (gdOf X (also M D)) H' S' ∧ Ext S1 H1 S' H' ∧ H' D = some (.lst vs) ∧ S' D = none ∧ Reps (gdOf X (also M D)) H' S' acc vs ∧ compT g tc te own gd τ Kt (xs.drop i) acc S'
  have oD : StoOk (gdOf X (also M D)) (upd H1 D (.lst [])) S1 := o1.putOn hD
  refine ⟨W, ⟨xs.length, by simp, Nat.zero_le _, S1, [], [], oD, xD, upd_same, o1.free hD, .nil, hq⟩, ?_⟩
  rintro i m H2 ⟨rfl, hi, S2, acc, vs, o2, x2, hD2, nD2, ra, q2⟩
  by_cases hlt : i < xs.length
  · rw [List.drop_eq_getElem_cons hlt] at q2
    obtain ⟨hgd, q2⟩ := q2
    obtain ⟨hgo, hy⟩ := wk.go (also M D) S2 H2 i xs[i] (fun a h n => h.elim (fun h => absurd h n) fun e => e ▸ hD) o2 x2 hgd (List.getElem?_eq_getElem hlt)
    refine .inr ⟨hgo, W (i + 1) (xs.length - (i + 1)), fun H' w => ⟨_, by omega, w⟩, fun x H' y => ?_⟩
    obtain ⟨o3, x3, r3⟩ := hy x H' y
    have d3 := x3.exact hD2 nD2
    have a3 := Reps.ext x3 _ _ ra
    have x13 := x2.trans x3
    have envD : EnvR (gdOf X (also M D)) H1 S1 σ τ := ⟨rel.env.1, fun j t e => by
      obtain ⟨v, h1, h2⟩ := (rel.env.ext x1).2 j t e
      exact ⟨v, h1, Rep.mask (M := also M D) (fun a u r m z => z.elim m fun e => Rd.ne hD r e) _ _ h2⟩⟩
    have relW : Rel (gdOf X (also M D)) S0 H0 (wipe σ own) H' (wipeT τ own) S2 := ⟨(envD.ext x13).wipe _, o3, rel.ext.trans (x1.trans x13)⟩
    refine ⟨also M D, _, S2, xs[i], _, relW, r3, q2, fun σ4 H4 τ4 S4 rel4 x4 w4 q4 => ⟨?_, ?_⟩⟩
    · rw [w4]
      apply List.ext_getElem?
      intro j
      rw [wipe_at, wipe_at]
      by_cases hj : j ∈ own
      · rw [if_pos hj, if_pos hj]
        cases σ[j]? <;> rfl
      · rw [if_neg hj, if_neg hj]
    · refine ⟨also M D, τ4, S4, _, rel4, q4, fun b S5 H5 q5 o5 x5 => ?_⟩
      have x35 := x4.trans x5
      have d5 := x35.exact d3.1 d3.2
      have a5 := Reps.ext x35 _ _ a3
      cases b with
      | false => exact ⟨rfl, hlt, S5, acc, vs, o5, x13.trans x35, d5.1, d5.2, a5, q5⟩
      | true =>
        refine ⟨also M D, τ4, S5, _, rel4.step o5 x5, q5, fun z S6 v H6 q6 o6 x6 r6 => ?_⟩
        obtain ⟨hz, q6⟩ := q6
        have d6 := x6.exact d5.1 d5.2
        have a6 := Reps.ext x6 _ _ a5
        have mD : (gdOf X (also M D)).M D := .inr rfl
        refine ⟨vs, d6.1, by rw [← a6.length]; exact hz, rfl, hlt, S6, acc ++ [z], vs ++ [v], o6.at mD d6.2, ?_, upd_same, d6.2, (Reps.extM (ExtM.at mD) _ _ a6).append (.cons (Rep.extM (ExtM.at mD) _ _ r6) .nil), q6⟩
        have x16 := (x13.trans x35).trans x6
        exact fun b u n => ⟨fun h f => let w := (x16 b u n).1 h f; ⟨(upd_ne fun e => ne_of_none h hD e).trans w.1, w.2⟩, fun h f => let w := (x16 b u n).2 h f; ⟨Rd.upd (Rd.ne hD h) w.1, w.2⟩⟩
  · have e : i = xs.length := by omega
    subst e
    rw [List.drop_length] at q2
    exact .inl ⟨wk.stop (also M D) S2 H2 o2 x2 q2.1, fin _ _ _ _ _ q2.2 o2 (x1.trans x2) hD2 nD2 (o1.nom hD) (fun c b u n => ⟨fun h f => let w := (x1 b u n).1 h f; let z := (x2 b u w.2).1 w.1 f; ⟨z.1, (ups_ne (ne_of_none w.1 hD)).trans z.2⟩, fun h f => let w := (x1 b u n).2 h f; let z := (x2 b u w.2).2 w.1 f; ⟨z.1, (ups_ne (Rd.ne hD w.1)).trans z.2⟩⟩) ra⟩
/-- the block's parts, as judged within -/
theorem blk_g {vs : List Nat} {S0 : Sto} {H0 : Hp} {Y : Cx} (h : TGt Y vs tg g) (tk : ∀ M, Takes Y (wOf Y M S0 H0 EN)) : PG Y tg (XG Y vs S0 H0 g) :=
  ⟨fun pins s σ H v u Q I r ⟨M, q⟩ => (h M S0 H0 EN (tk M)).run pins s σ H v u Q I r q⟩
theorem blk_t {S0 : Sto} {H0 : Hp} {Y : Cx} (h : TBs Y ifs tc) (tk : ∀ M, Takes Y (wOf Y M S0 H0 EN)) : PTs Y ifs (XB Y S0 H0 tc) :=
  ⟨fun pins s σ H Q I ⟨M, q⟩ => (h M S0 H0 EN (tk M)).run pins s σ H Q I q⟩
theorem blk_e {S0 : Sto} {H0 : Hp} {Y : Cx} (h : TE Y elt te) (tk : ∀ M, Takes Y (wOf Y M S0 H0 EN)) : PE Y elt (XE' Y S0 H0 te) :=
  ⟨fun pins s σ H Q I ⟨M, q⟩ => (h M S0 H0 EN (tk M)).run pins s σ H Q I q⟩
abbrev Blk (X : Cx) (scope : Scope) (F : Cx → Prop) : Prop := ∀ (s : Shared) (H : Hp) (C : Addr) (cl : List (Str × Addr)) (fp : List Addr), F (X.blk s H scope (compEnvC scope cl C X.env) fp)
variable {ow : List (Str × Nat)}
theorem te_comp (hc : X.calm = true) (hN : X.N.Nodup) (hi : TI X tg iter ti) (ok : BlkOk X.N X.env.scope scope ow) (hg : Blk X scope fun Y => TGt Y (ow.map (·.2)) tg g) (ht : Blk X scope fun Y => TBs Y ifs tc) (he : Blk X scope fun Y => TE Y elt te)
    (hs : ∀ x, foldedSetIterable iter X.env x = pure x := by intro _; rfl) : TE X (.ListComp elt [⟨tg, iter, ifs, 0⟩] scope pos) (cComp ti g tc te (ow.map (·.2))) := fun M S0 H0 E tk =>
  (pe_lc hc hN (hi M S0 H0 E tk) ok (fun s H C cl fp => blk_g (hg s H C cl fp) fun _ => takes_blk) (fun s H C cl fp => blk_t (ht s H C cl fp) fun _ => takes_blk) (fun s H C cl fp => blk_e (he s H C cl fp) fun _ => takes_blk) hs).weak
    fun σ H Q ⟨τ, S, Qt, rel, h, k⟩ => comp_read _ rel h fun zs S2 D H2 vs q o2 x2 hD nD nM xD r => k (.lst zs) S2 (.ref D) H2 q (o2.takeOff fun _ m => .inl m) x2 (.lst ⟨hD, nD, nM⟩ (r.takeOff fun _ m => .inl m))
/-- name = [..], the name a local -/
theorem ts_setComp {i : Nat} {y : Str} (hc : X.calm = true) (hN : X.N.Nodup) (hy : X.N[i]? = some y) (hyl : X.env.scope.names.lookup y = some .local) (hsw : swapsWith (.ListComp elt [⟨tg, iter, ifs, 0⟩] scope pos) (some (.Name y py)) spos.line X.env = pure true)
    (hi : TI X tg iter ti) (ok : BlkOk X.N X.env.scope scope ow) (hg : Blk X scope fun Y => TGt Y (ow.map (·.2)) tg g) (ht : Blk X scope fun Y => TBs Y ifs tc) (he : Blk X scope fun Y => TE Y elt te) (hs : ∀ x, foldedSetIterable iter X.env x = pure x := by intro _; rfl) :
    TS X (.Assign [.Name y py] (.ListComp elt [⟨tg, iter, ifs, 0⟩] scope pos) spos) (cSet i (cComp ti g tc te (ow.map (·.2)))) := fun M S0 H0 E tk =>
  (ps_setLc hc hN hy hyl hsw (hi M S0 H0 E tk) ok (fun s H C cl fp => blk_g (hg s H C cl fp) fun _ => takes_blk) (fun s H C cl fp => blk_t (ht s H C cl fp) fun _ => takes_blk) (fun s H C cl fp => blk_e (he s H C cl fp) fun _ => takes_blk) hs).weak
    fun D σ H ⟨τ, S, B, rel, h, k, _⟩ => comp_read (fun zs S2 => B.nx (τ.set i (some (.lst zs))) S2) rel h fun zs S2 L H2 vs q o2 x2 hD nD nM xD r =>
      k _ _ _ _ ((rel.step (o2.takeOff fun _ m => .inl m) x2).set (.lst ⟨hD, nD, nM⟩ (r.takeOff fun _ m => .inl m))) x2 q
end
end TL
namespace TL
open PySem PySem.Spec PyProof.Rows L2
/-- what a def promises: the arguments' trees, the store, what follows, what is raised -/
abbrev SpT := List T → Sto → (T → Sto → Prop) → (T → Sto → Prop) → Prop
def liftSp (P : Program) (K : PySem.W.Frag) (w : World) (sp : SpT) : Sp := fun vs H Q E => ∃ M ts S Qt Et, Reps ⟨P, K, w, M⟩ H S ts vs ∧ StoOk ⟨P, K, w, M⟩ H S ∧ sp ts S Qt Et ∧
  (∀ z S' v H', Qt z S' → StoOk ⟨P, K, w, M⟩ H' S' → Ext S H S' H' → Rep ⟨P, K, w, M⟩ H' S' z v → Q v H') ∧
  (∀ x S' cls d H', Et x S' → StoOk ⟨P, K, w, M⟩ H' S' → Ext S H S' H' → ExcIs ⟨P, K, w, M⟩ H' S' x cls d → E cls d H')
def cCall (sp : SpT) (a : TTA) : TTE := fun τ S Q E => a τ S (fun ts S1 => sp ts S1 Q E) E

mutual
/-- u is t with some cells of S, none of S2, taken for what they hold -/
inductive Fz (S S2 : Sto) : T → T → Prop
  | same (t : T) : Fz S S2 t t
  | lstc {a : Addr} {ts us : List T} : S a = some (.lst ts) → S2 a = none → Fzs S S2 ts us → Fz S S2 (.ref a) (.lst us)
  | dctc {a : Addr} {b : Bool} {ks vs us : List T} : S a = some (.dct b ks vs) → S2 a = none → Fzs S S2 vs us → Fz S S2 (.ref a) (.dct b ks us)
  | insc {a : Addr} {c : Str} {ns : List Str} {vs us : List T} : S a = some (.ins c ns vs) → S2 a = none → Fzs S S2 vs us → Fz S S2 (.ref a) (.obj c ns us)
  | tup {ts us : List T} : Fzs S S2 ts us → Fz S S2 (.tup ts) (.tup us)
  | lst {ts us : List T} : Fzs S S2 ts us → Fz S S2 (.lst ts) (.lst us)
inductive Fzs (S S2 : Sto) : List T → List T → Prop
  | nil : Fzs S S2 [] []
  | cons {t u : T} {ts us : List T} : Fz S S2 t u → Fzs S S2 ts us → Fzs S S2 (t :: ts) (u :: us)
end
/-- some cells are given up -/
def Sub (S2 S : Sto) : Prop := ∀ a c, S2 a = some c → S a = some c
section
variable {G : Gd} {H : Hp} {S S2 : Sto}
theorem Sub.ext (k : Sub S2 S) : Ext S H S2 H := Ext.drop fun b n => by
  cases q : S2 b with
  | none => rfl
  | some d => rw [k b d q] at n; cases n
mutual
theorem Fz.rep (o : StoOk G H S) (k : Sub S2 S) : ∀ {t u : T}, Fz S S2 t u → ∀ {v : V}, Rep G H S t v → Rep G H S2 u v
  | _, _, .same _, _, r => Rep.ext k.ext _ _ r
  | _, _, .lstc h1 h2 h3, _, r => by
    cases r
    obtain ⟨xs, e, q⟩ := o.at_ _ _ h1
    exact .lst ⟨e, h2, fun m => by rw [o.sep _ m] at h1; cases h1⟩ (Fzs.reps o k h3 q)
  | _, _, .dctc (b := false) h1 h2 h3, _, r => by
    cases r
    obtain ⟨kvs, e, q1, q2⟩ := o.at_ _ _ h1
    exact .dK ⟨.inl e, h2, fun m => by rw [o.sep _ m] at h1; cases h1⟩ (Reps.ext k.ext _ _ q1) (Fzs.reps o k h3 q2)
  | _, _, .dctc (b := true) h1 h2 h3, _, r => by
    cases r
    obtain ⟨es, e, q0, q1, q2⟩ := o.at_ _ _ h1
    exact .dN ⟨.inl e, h2, fun m => by rw [o.sep _ m] at h1; cases h1⟩ q0 (Reps.ext k.ext _ _ q1) (Fzs.reps o k h3 q2)
  | _, _, .insc h1 h2 h3, _, r => by
    cases r
    obtain ⟨d, xs, e, q0, q1⟩ := o.at_ _ _ h1
    exact .obj ⟨e, h2, fun m => by rw [o.sep _ m] at h1; cases h1⟩ q0 (Fzs.reps o k h3 q1)
  | _, _, .tup h, _, r => by
    cases r with
    | tup h1 h2 => exact .tup (h1.ext k.ext) (Fzs.reps o k h h2)
  | _, _, .lst h, _, r => by
    cases r with
    | lst h1 h2 => exact .lst (h1.ext k.ext) (Fzs.reps o k h h2)
theorem Fzs.reps (o : StoOk G H S) (k : Sub S2 S) : ∀ {ts us : List T}, Fzs S S2 ts us → ∀ {vs : List V}, Reps G H S ts vs → Reps G H S2 us vs
  | _, _, .nil, _, r => by cases r; exact .nil
  | _, _, .cons h1 h2, _, r => by
    cases r with
    | cons r1 r2 => exact .cons (Fz.rep o k h1 r1) (Fzs.reps o k h2 r2)
end
end
/-- what follows, some cells given up -/
def Fin (Q : T → Sto → Prop) (z : T) (S : Sto) : Prop := ∃ S2 u, Sub S2 S ∧ Fz S S2 z u ∧ Q u S2
theorem Fin.of {Q : T → Sto → Prop} {z : T} {S : Sto} (h : Q z S) : Fin Q z S := ⟨S, z, fun _ _ e => e, .same z, h⟩
/-- an exception's fields are not frozen; cells are given up all the same -/
def FinX (Q : T → Sto → Prop) (z : T) (S : Sto) : Prop := ∃ S2, Sub S2 S ∧ Q z S2
theorem ExcIs.ext {G : Gd} {H H' : Hp} {S S' : Sto} {x : T} {cls : Value} {d : Option Addr} (h : ExcIs G H S x cls d) (e : Ext S H S' H') : ExcIs G H' S' x cls d := by
  obtain ⟨c, ns, ts, h1, h2, h3⟩ := h
  refine ⟨c, ns, ts, h1, h2, h3.imp id ?_⟩
  rintro ⟨da, xs, q1, q2, q3, q4⟩
  exact ⟨da, xs, q1, q2.ext e, q3, Reps.ext e _ _ q4⟩

def startT (N : List Str) (ts : List T) : TEnv := ts.map some ++ List.replicate (N.length - ts.length) none
theorem start_env {G : Gd} {H : Hp} {S : Sto} {N : List Str} {ts : List T} {vs : List V} (r : Reps G H S ts vs) : EnvR G H S (start N vs) (startT N ts) := by
  have l := r.length
  refine ⟨by simp [L2.start, startT, l], fun i t e => ?_⟩
  unfold startT at e
  by_cases hi : i < ts.length
  · rw [List.getElem?_append_left (by simpa using hi), List.getElem?_map] at e
    cases q : ts[i]? with
    | none => rw [q] at e; cases e
    | some z =>
      rw [q] at e
      cases e
      obtain ⟨v, h1, h2⟩ := r.get q
      refine ⟨v, ?_, h2⟩
      unfold L2.start
      rw [List.getElem?_append_left (by simp; omega), List.getElem?_map, h1]
      rfl
  · rw [List.getElem?_append_right (by simpa using hi), List.getElem?_replicate] at e
    split at e <;> cases e

section
variable {P : Program} {w : World} {K : PySem.W.Frag} {mg : Str → Option Value} {base : Heap} {x qual : Str} {params : Arguments} {body : List Stmt} {scope : Scope} {f : Addr} {fd : FuncData} {N ps : List Str} {k : Nat} {sp : SpT} {c : TTS}
/-- THE RULE for a def: its body as a tree's reading, and the reading -/
theorem fn_t (F : FunD K x qual params body scope [] [] f fd) (Sc : FnScope N ps scope) (len : ∀ ts S Q E, sp ts S Q E → ts.length = ps.length)
    (hb : ∀ (cdv : Value) (A : Around) (outer : List Env) (s : Shared) (H : Hp) (E : XK), Room k (A.deeper (envOfC qual scope s.heap.objs.size f cdv)) → TSs (cxOf (L2N.CX P w) P w K mg base N qual scope f cdv A outer s H E) body c)
    (vc : ∀ ts S Q E, sp ts S Q E → c { nx := fun _ S' => Fin Q .non S', rt := Fin Q } (startT N ts) S (fun x _ S' => FinX E x S')) :
    FnOk P w K mg base (L2N.CX P w) (k + 1) f fd ps (liftSp P K w sp) := by
  refine F.ok Sc (fun vs H Q E h => ?_) (fun cdv A outer s H vs Q E hr h => ?_)
  · obtain ⟨M, ts, S, Qt, Et, r, _, q, _⟩ := h
    rw [← r.length]
    exact len _ _ _ _ q
  · obtain ⟨M, ts, S, Qt, Et, r, o, q, hQ, hE⟩ := h
    have vc' := vc ts S Qt Et q
    have tk : Takes (cxOf (L2N.CX P w) P w K mg base N qual scope f cdv A outer s H E) (wOf (cxOf (L2N.CX P w) P w K mg base N qual scope f cdv A outer s H E) M S H fun x _ S' => FinX Et x S') := by
      refine Takes.imp (L2N.takes_of rfl rfl rfl rfl) fun cls d σ H' z => ?_
      obtain ⟨τ, S', x, rel, hx, S2, k2, h2⟩ := z
      exact hE x S2 cls d H' h2 (rel.sto.drop k2) (rel.ext.trans k2.ext) (hx.ext k2.ext)
    refine ⟨_, hb cdv A outer s H E hr M S H _ tk, startT N ts, S, _, ⟨start_env r, o, Ext.refl⟩, vc', ?_, ?_, fun _ _ _ _ _ _ z => z.elim, fun _ _ _ _ _ _ z => z.elim⟩
    · rintro σ' H' τ' S' rel x ⟨S2, u, k2, fz, q2⟩
      exact hQ u S2 .non H' q2 (rel.sto.drop k2) (x.trans k2.ext) (Fz.rep rel.sto k2 fz .non)
    · rintro z S' v H' o2 x r2 ⟨S2, u, k2, fz, q2⟩
      exact hQ u S2 v H' q2 (o2.drop k2) (x.trans k2.ext) (Fz.rep o2 k2 fz r2)
end
section
variable {X : Cx} {k : Nat} {f : Addr} {fd : FuncData} {ps : List Str} {sp : SpT} {x : Str} {p pos : Pos} {e : Expr} {es : List Expr} {ta : TTA}
theorem te_call (F : FnOk X.prog X.w X.K X.mg X.base (L2N.CX X.prog X.w) k f fd ps (liftSp X.prog X.K X.w sp)) (hr : Room k X.A) (hg : Gl X x) (hm : X.mg x = some (.ref f)) (hk : PySem.W.keepIn X.K (.ref f) = true) (hb : Binds X.K fd ps [])
    (ha : TA X (e :: es) ta) (hdb : (x == ("__debug__" : Str)) = false := by decide) (he : starEach (e :: es) X.env = (false, eval e X.env) :: starEach es X.env := by rfl) (hpl : (backTo pos (starEach es X.env)).any (·.1) = false := by rfl) :
    TE X (.Call (.Name x p) (e :: es) [] pos) (cCall sp ta) := fun M S0 H0 E tk =>
  (pe_callS (E := WE (wOf X M S0 H0 E)) F hr hg hm hk hb (fun σ => L2N.passAt tk σ) (ha M S0 H0 E tk) hdb he hpl).weak fun σ H Q ⟨τ, S, Qt, rel, h, fin⟩ => ⟨τ, S, _, rel, h, fun zs S1 vs H1 q o1 x1 r1 =>
    ⟨M, zs, S1, Qt, fun x S' => E x τ S', r1, o1, q, fun z S' v H' qz o2 x2 r2 => fin z S' v H' qz o2 (x1.trans x2) r2, fun x S' cls d H' qx o2 x2 hx => ⟨τ, S', x, rel.step o2 (x1.trans x2), hx, qx⟩⟩⟩
end
end TL
namespace TL
open PySem PySem.Spec PyProof.Rows L2
mutual
def dat : T → PyData
  | .bl b => .bool b
  | .int i => .int i
  | .str x => .str (txt x)
  | .tup ts => .tuple (dats ts)
  | .lst ts => .list (dats ts)
  | _ => .none
def dats : List T → List PyData
  | [] => []
  | t :: ts => dat t :: dats ts
end
mutual
def plain : T → Bool
  | .non => true
  | .bl _ => true
  | .int _ => true
  | .str _ => true
  | .tup ts => plains ts
  | .lst ts => plains ts
  | _ => false
def plains : List T → Bool
  | [] => true
  | t :: ts => plain t && plains ts
end
mutual
def dep : T → Nat
  | .tup ts => deps ts + 1
  | .lst ts => deps ts + 1
  | _ => 0
def deps : List T → Nat
  | [] => 0
  | t :: ts => max (dep t) (deps ts)
end
mutual
def eqt : T → T → Bool
  | .non, .non => true
  | .bl a, .bl b => a == b
  | .bl a, .int j => (if a then 1 else 0) == j
  | .int i, .bl b => i == (if b then 1 else 0)
  | .int i, .int j => i == j
  | .str x, .str y => decide (x = y)
  | .tup xs, .tup ys => eqts xs ys
  | .lst xs, .lst ys => eqts xs ys
  | _, _ => false
def eqts : List T → List T → Bool
  | [], [] => true
  | x :: xs, y :: ys => eqt x y && eqts xs ys
  | _, _ => false
end
def strLt (x y : List Sg) : Bool := decide (x.map (·.val) < y.map (·.val))
mutual
def ltt : T → T → Bool
  | .bl a, .bl b => !a && b
  | .int i, .int j => decide (i < j)
  | .str x, .str y => strLt x y
  | .tup xs, .tup ys => ltts xs ys
  | .lst xs, .lst ys => ltts xs ys
  | _, _ => false
def ltts : List T → List T → Bool
  | [], [] => false
  | [], _ :: _ => true
  | _ :: _, [] => false
  | x :: xs, y :: ys => if eqt x y = true then ltts xs ys else ltt x y
end
mutual
def alk : T → T → Bool
  | .non, .non => true
  | .bl _, .bl _ => true
  | .int _, .int _ => true
  | .str _, .str _ => true
  | .lst xs, .lst ys => alks xs ys
  | .tup xs, .tup ys => alks xs ys
  | _, _ => false
def alks : List T → List T → Bool
  | x :: xs, y :: ys => alk x y && alks xs ys
  | [], _ => true
  | _ :: _, [] => true
end
theorem txt_eq (x y : List Sg) : (txt x == txt y) = decide (x = y) := by
  by_cases h : x = y
  · subst h
    simp
  · have : txt x ≠ txt y := fun e => h (txt_inj e)
    simp [h, this]
mutual
theorem eqt_dat : ∀ x y : T, plain x = true → plain y = true → PyData.eqv (dat x) (dat y) = eqt x y
  | .non, y, _, hy => by cases y <;> first | rfl | cases hy
  | .bl _, y, _, hy => by cases y <;> first | rfl | cases hy
  | .int _, y, _, hy => by cases y <;> first | rfl | cases hy
  | .str a, y, _, hy => by
    cases y with
    | str b => simp only [dat, PyData.eqv, eqt]; exact txt_eq a b
    | _ => first | rfl | cases hy
  | .tup xs, y, hx, hy => by
    cases y with
    | tup ys =>
      simp only [dat, PyData.eqv, eqt]
      exact eqts_dat xs ys hx hy
    | _ => first | rfl | cases hy
  | .lst xs, y, hx, hy => by
    cases y with
    | lst ys =>
      simp only [dat, PyData.eqv, eqt]
      exact eqts_dat xs ys hx hy
    | _ => first | rfl | cases hy
  | .ref _, _, hx, _ => by cases hx
  | .exc _ _ _, _, hx, _ => by cases hx
  | .dct _ _ _, _, hx, _ => by cases hx
  | .obj _ _ _, _, hx, _ => by cases hx
  | .fn _, _, hx, _ => by cases hx
  | .scr _, _, hx, _ => by cases hx
theorem eqts_dat : ∀ xs ys : List T, plains xs = true → plains ys = true → PyData.eqvAll (dats xs) (dats ys) = eqts xs ys
  | [], [], _, _ => rfl
  | [], _ :: _, _, _ => rfl
  | _ :: _, [], _, _ => rfl
  | x :: xs, y :: ys, hx, hy => by
    simp only [plains, Bool.and_eq_true] at hx hy
    simp only [dats, PyData.eqvAll, eqts]
    rw [eqt_dat x y hx.1 hy.1, eqts_dat xs ys hx.2 hy.2]
end
mutual
theorem alk_dat : ∀ x y : T, plain x = true → plain y = true → PySem.W.alike (dat x) (dat y) = alk x y
  | .non, y, _, hy => by cases y <;> first | (simp only [dat, PySem.W.alike, alk]; done) | cases hy
  | .bl _, y, _, hy => by cases y <;> first | (simp only [dat, PySem.W.alike, alk]; done) | cases hy
  | .int _, y, _, hy => by cases y <;> first | (simp only [dat, PySem.W.alike, alk]; done) | cases hy
  | .str a, y, _, hy => by cases y <;> first | (simp only [dat, PySem.W.alike, alk]; done) | cases hy
  | .tup xs, y, hx, hy => by
    cases y with
    | tup ys =>
      simp only [dat, PySem.W.alike, alk]
      exact alks_dat xs ys hx hy
    | _ => first | (simp only [dat, PySem.W.alike, alk]; done) | cases hy
  | .lst xs, y, hx, hy => by
    cases y with
    | lst ys =>
      simp only [dat, PySem.W.alike, alk]
      exact alks_dat xs ys hx hy
    | _ => first | (simp only [dat, PySem.W.alike, alk]; done) | cases hy
  | .ref _, _, hx, _ => by cases hx
  | .exc _ _ _, _, hx, _ => by cases hx
  | .dct _ _ _, _, hx, _ => by cases hx
  | .obj _ _ _, _, hx, _ => by cases hx
  | .fn _, _, hx, _ => by cases hx
  | .scr _, _, hx, _ => by cases hx
theorem alks_dat : ∀ xs ys : List T, plains xs = true → plains ys = true → PySem.W.alikeAll (dats xs) (dats ys) = alks xs ys
  | [], [], _, _ => by simp only [dats, PySem.W.alikeAll, alks]
  | [], _ :: _, _, _ => by simp only [dats, PySem.W.alikeAll, alks]
  | _ :: _, [], _, _ => by simp only [dats, PySem.W.alikeAll, alks]
  | x :: xs, y :: ys, hx, hy => by
    simp only [plains, Bool.and_eq_true] at hx hy
    simp only [dats, PySem.W.alikeAll, alks]
    rw [alk_dat x y hx.1 hy.1, alks_dat xs ys hx.2 hy.2]
end
theorem ltts_eq (x y : T) (xs ys : List T) : ltts (x :: xs) (y :: ys) = if eqt x y = true then ltts xs ys else ltt x y := by simp only [ltts]
mutual
theorem ltt_dat : ∀ x y : T, plain x = true → plain y = true → alk x y = true → x ≠ .non → PySem.W.dataLt (dat x) (dat y) = ltt x y
  | .non, _, _, _, _, h => absurd rfl h
  | .bl a, y, _, hy, h, _ => by
    cases y with
    | bl b =>
      simp only [dat, ltt]
      refine (PySem.W.dataLt_bool a b).trans ?_
      cases a <;> cases b <;> rfl
    | _ => simp [alk] at h
  | .int i, y, _, hy, h, _ => by
    cases y with
    | int j => exact PySem.W.dataLt_int i j
    | _ => simp [alk] at h
  | .str a, y, _, hy, h, _ => by
    cases y with
    | str b => exact PySem.W.dataLt_str (txt a) (txt b)
    | _ => simp [alk] at h
  | .tup xs, y, hx, hy, h, _ => by
    cases y with
    | tup ys =>
      simp only [dat, ltt]
      rw [PySem.W.dataLt_tuple]
      exact ltts_dat xs ys hx hy (by simpa [alk] using h)
    | _ => simp [alk] at h
  | .lst xs, y, hx, hy, h, _ => by
    cases y with
    | lst ys =>
      simp only [dat, ltt]
      rw [PySem.W.dataLt_list]
      exact ltts_dat xs ys hx hy (by simpa [alk] using h)
    | _ => simp [alk] at h
  | .ref _, _, hx, _, _, _ => by cases hx
  | .exc _ _ _, _, hx, _, _, _ => by cases hx
  | .dct _ _ _, _, hx, _, _, _ => by cases hx
  | .obj _ _ _, _, hx, _, _, _ => by cases hx
  | .fn _, _, hx, _, _, _ => by cases hx
  | .scr _, _, hx, _, _, _ => by cases hx
theorem ltts_dat : ∀ xs ys : List T, plains xs = true → plains ys = true → alks xs ys = true → PyProof.Rows.lexLt PyProof.Rows.itemOrd (PySem.W.keyToksAll (dats xs)) (PySem.W.keyToksAll (dats ys)) = ltts xs ys
  | [], [], _, _, _ => by simp only [dats, PySem.W.keyToksAll, ltts]; rfl
  | [], y :: ys, _, _, _ => by
    simp only [dats, PySem.W.keyToksAll, ltts]
    rw [PySem.W.lex_atom (by simp), PySem.W.lex_one]
    rfl
  | x :: xs, [], _, _, _ => by
    simp only [dats, PySem.W.keyToksAll, ltts]
    rw [PySem.W.lex_atom (by simp), PySem.W.lex_one]
    rfl
  | x :: xs, y :: ys, hx, hy, h => by
    simp only [plains, Bool.and_eq_true] at hx hy
    simp only [alks, Bool.and_eq_true] at h
    have ha : PySem.W.alike (dat x) (dat y) = true := by rw [alk_dat x y hx.1 hy.1]; exact h.1
    rw [ltts_eq]
    show PyProof.Rows.lexLt PyProof.Rows.itemOrd (PySem.W.keyToksAll (dat x :: dats xs)) (PySem.W.keyToksAll (dat y :: dats ys)) = _
    rw [PySem.W.dataLt_cons ha, eqt_dat x y hx.1 hy.1, ltts_dat xs ys hx.2 hy.2 h.2]
    by_cases e : eqt x y = true
    · rw [if_pos e, if_pos e]
    · rw [if_neg e, if_neg e]
      refine ltt_dat x y hx.1 hy.1 h.1 fun z => ?_
      subst z
      cases y <;> simp [alk, eqt] at h e
end
mutual
theorem dep_dat : ∀ x : T, plain x = true → (dat x).depth = dep x
  | .non, _ => rfl
  | .bl _, _ => rfl
  | .int _, _ => rfl
  | .str _, _ => rfl
  | .tup xs, h => by simp only [dat, PyData.depth, dep]; rw [deps_dat xs h]
  | .lst xs, h => by simp only [dat, PyData.depth, dep]; rw [deps_dat xs h]
  | .ref _, hx => by cases hx
  | .exc _ _ _, hx => by cases hx
  | .dct _ _ _, hx => by cases hx
  | .obj _ _ _, hx => by cases hx
  | .fn _, hx => by cases hx
  | .scr _, hx => by cases hx
theorem deps_dat : ∀ xs : List T, plains xs = true → PyData.depthAll (dats xs) = deps xs
  | [], _ => rfl
  | x :: xs, h => by
    simp only [plains, Bool.and_eq_true] at h
    simp only [dats, PyData.depthAll, deps]
    rw [dep_dat x h.1, deps_dat xs h.2]
end
mutual
theorem lay_dat : ∀ x : T, plain x = true → (dat x).canLay0 = true
  | .non, _ => rfl
  | .bl _, _ => rfl
  | .int _, _ => rfl
  | .str a, _ => by
    simp only [dat, PyData.canLay0, PyData.strOk]
    rw [Array.all_eq_true']
    intro c hc
    have hc' : c ∈ (a.map (·.val)).toArray := hc
    rw [List.mem_toArray] at hc'
    obtain ⟨s, _, rfl⟩ := List.mem_map.mp hc'
    have := s.isLt
    exact decide_eq_true (by omega)
  | .tup xs, h => by simp only [dat, PyData.canLay0]; exact lays_dat xs h
  | .lst xs, h => by simp only [dat, PyData.canLay0]; exact lays_dat xs h
  | .ref _, hx => by cases hx
  | .exc _ _ _, hx => by cases hx
  | .dct _ _ _, hx => by cases hx
  | .obj _ _ _, hx => by cases hx
  | .fn _, hx => by cases hx
  | .scr _, hx => by cases hx
theorem lays_dat : ∀ xs : List T, plains xs = true → PyData.canLayAll0 (dats xs) = true
  | [], _ => rfl
  | x :: xs, h => by
    simp only [plains, Bool.and_eq_true] at h
    simp only [dats, PyData.canLayAll0, Bool.and_eq_true]
    exact ⟨lay_dat x h.1, lays_dat xs h.2⟩
end
section
variable {G : Gd} {H : Hp} {S : Sto}
mutual
theorem Rep.dp : ∀ (t : T) (v : V), Rep G H S t v → plain t = true → Dp G.K H v (dat t)
  | .non, _, r, _ => by cases r; exact .non
  | .bl _, _, r, _ => by cases r; exact .bl _
  | .int _, _, r, _ => by cases r; exact .int _
  | .str _, _, r, _ => by cases r; exact .str _
  | .tup ts, _, r, h => by
    cases r with
    | tup h1 h2 => exact .tup h1.sq (Reps.dp ts _ h2 h)
  | .lst ts, _, r, h => by
    cases r with
    | lst h1 h2 => exact .lst h1.sq (Reps.dp ts _ h2 h)
  | .ref _, _, _, hx => by cases hx
  | .exc _ _ _, _, _, hx => by cases hx
  | .dct _ _ _, _, _, hx => by cases hx
  | .obj _ _ _, _, _, hx => by cases hx
  | .fn _, _, _, hx => by cases hx
  | .scr _, _, _, hx => by cases hx
theorem Reps.dp : ∀ (ts : List T) (vs : List V), Reps G H S ts vs → plains ts = true → DpAll G.K H vs (dats ts)
  | [], _, r, _ => by cases r; exact .nil
  | t :: ts, _, r, h => by
    simp only [plains, Bool.and_eq_true] at h
    cases r with
    | cons h1 h2 => exact .cons (Rep.dp t _ h1 h.1) (Reps.dp ts _ h2 h.2)
end
/-- a cell that holds a list, as a list -/
def res (S : Sto) : T → T
  | .ref a => match S a with
    | some (.lst ts) => .lst ts
    | _ => .ref a
  | t => t
theorem res_dp (o : StoOk G H S) {t : T} {v : V} (r : Rep G H S t v) (h : plain (res S t) = true) : Dp G.K H v (dat (res S t)) := by
  cases t with
  | ref a =>
    cases r
    cases e : S a with
    | none => simp [res, e, plain] at h
    | some c =>
      cases c with
      | lst ts =>
        simp only [res, e] at h ⊢
        obtain ⟨ws, hw, q⟩ := o.at_ a _ e
        exact .lst (SqL.of hw) (Reps.dp ts ws q h)
      | dct _ _ _ => simp [res, e, plain] at h
      | ins _ _ _ => simp [res, e, plain] at h
  | _ => exact Rep.dp _ v r h
end
/-- plain, and not too deep -/
def okd (t : T) : Bool := plain t && decide (dep t ≤ 64)
theorem okd_shaped {t : T} (h : okd t = true) : SeqAt.shaped (dat t) = true := by
  obtain ⟨h1, h2⟩ := Bool.and_eq_true_iff.mp h
  have h2' := of_decide_eq_true h2
  refine Bool.and_eq_true_iff.mpr ⟨lay_dat t h1, decide_eq_true ?_⟩
  rw [dep_dat t h1]
  exact h2'
theorem okd_plain {t : T} (h : okd t = true) : plain t = true := (Bool.and_eq_true_iff.mp h).1

def eqT (S : Sto) (x y : T) : Option T := if (okd (res S x) && okd (res S y)) = true then some (.bl (eqt (res S x) (res S y))) else none
def neT (S : Sto) (x y : T) : Option T := if (okd (res S x) && okd (res S y)) = true then some (.bl (!eqt (res S x) (res S y))) else none
section
variable {X : Cx}
theorem op_eqT (hu : X.A.units + 64 < cLine) : OpT X (compareOp .Eq) eqT := by
  intro pins s σ H x y v u Q I rx ry h
  obtain ⟨M, S, tx, ty, t, o, hx, hy, e, fin⟩ := h
  unfold eqT at e
  split at e
  · rename_i c
    obtain ⟨c1, c2⟩ := Bool.and_eq_true_iff.mp c
    obtain rfl := Option.some.inj e
    refine op_eqD hu pins s σ H x y v u Q I rx ry ⟨_, _, res_dp o hx (okd_plain c1), res_dp o hy (okd_plain c2), okd_shaped c1, okd_shaped c2, ?_⟩
    rw [eqt_dat _ _ (okd_plain c1) (okd_plain c2)]
    exact fin _ H o Ext.refl (.bl _)
  · cases e
theorem op_neT (hu : X.A.units + 64 < cLine) : OpT X (compareOp .NotEq) neT := by
  intro pins s σ H x y v u Q I rx ry h
  obtain ⟨M, S, tx, ty, t, o, hx, hy, e, fin⟩ := h
  unfold neT at e
  split at e
  · rename_i c
    obtain ⟨c1, c2⟩ := Bool.and_eq_true_iff.mp c
    obtain rfl := Option.some.inj e
    refine op_neD hu pins s σ H x y v u Q I rx ry ⟨_, _, res_dp o hx (okd_plain c1), res_dp o hy (okd_plain c2), okd_shaped c1, okd_shaped c2, ?_⟩
    rw [eqt_dat _ _ (okd_plain c1) (okd_plain c2)]
    exact fin _ H o Ext.refl (.bl _)
  · cases e
def cmpOk (x y : T) : Bool := okd x && (okd y && (alk x y && (match x with | .non => false | _ => true)))
theorem cmpOk_of {x y : T} (h : cmpOk x y = true) : okd x = true ∧ okd y = true ∧ alk x y = true ∧ x ≠ .non := by
  simp only [cmpOk, Bool.and_eq_true] at h
  obtain ⟨h1, h2, h3, h4⟩ := h
  refine ⟨h1, h2, h3, fun e => ?_⟩
  subst e
  cases h4
def ltT (_ : Sto) (x y : T) : Option T := if cmpOk x y = true then some (.bl (ltt x y)) else none
def gtT (_ : Sto) (x y : T) : Option T := if cmpOk x y = true then some (.bl (ltt y x)) else none
def leT (_ : Sto) (x y : T) : Option T := if cmpOk x y = true then some (.bl (!ltt y x)) else none
def geT (_ : Sto) (x y : T) : Option T := if cmpOk x y = true then some (.bl (!ltt x y)) else none
mutual
theorem alk_symm : ∀ x y : T, alk x y = alk y x
  | .non, y => by cases y <;> simp [alk]
  | .bl _, y => by cases y <;> simp [alk]
  | .int _, y => by cases y <;> simp [alk]
  | .str _, y => by cases y <;> simp [alk]
  | .tup xs, y => by
    cases y with
    | tup ys => simp only [alk]; exact alks_symm xs ys
    | _ => simp [alk]
  | .lst xs, y => by
    cases y with
    | lst ys => simp only [alk]; exact alks_symm xs ys
    | _ => simp [alk]
  | .ref _, y => by cases y <;> simp [alk]
  | .exc _ _ _, y => by cases y <;> simp [alk]
  | .dct _ _ _, y => by cases y <;> simp [alk]
  | .obj _ _ _, y => by cases y <;> simp [alk]
  | .fn _, y => by cases y <;> simp [alk]
  | .scr _, y => by cases y <;> simp [alk]
theorem alks_symm : ∀ xs ys : List T, alks xs ys = alks ys xs
  | [], [] => rfl
  | [], _ :: _ => by simp [alks]
  | _ :: _, [] => by simp [alks]
  | x :: xs, y :: ys => by
    simp only [alks]
    rw [alk_symm x y, alks_symm xs ys]
end
theorem cmp_facts {x y : T} (h : cmpOk x y = true) : PySem.W.alike (dat x) (dat y) = true ∧ dat x ≠ .none ∧ PySem.W.dataLt (dat x) (dat y) = ltt x y ∧ PySem.W.dataLt (dat y) (dat x) = ltt y x := by
  obtain ⟨h1, h2, h3, h4⟩ := cmpOk_of h
  have p1 := okd_plain h1
  have p2 := okd_plain h2
  refine ⟨by rw [alk_dat x y p1 p2]; exact h3, ?_, ltt_dat x y p1 p2 h3 h4, ltt_dat y x p2 p1 (by rw [alk_symm]; exact h3) fun e => ?_⟩
  · cases x <;> first | exact absurd rfl h4 | (cases p1; done) | (intro z; cases z)
  · subst e
    cases x <;> first | exact absurd rfl h4 | simp [alk] at h3
theorem room_cmp {A : Around} {x y : T} (h : cmpOk x y = true) (hu : A.units + 64 < cLine) : A.units + min (dat x).depth (dat y).depth < cLine := SeqAt.room_of_shaped (okd_shaped (cmpOk_of h).1) hu
theorem op_ltT (hu : X.A.units + 64 < cLine) : OpT X (compareOp .Lt) ltT := by
  intro pins s σ H x y v u Q I rx ry h
  obtain ⟨M, S, tx, ty, t, o, hx, hy, e, fin⟩ := h
  unfold ltT at e
  split at e
  · rename_i c
    obtain rfl := Option.some.inj e
    obtain ⟨c1, c2, c3, c4⟩ := cmp_facts c
    obtain ⟨as, r1⟩ := Dp.reads I _ _ _ (Rep.dp _ _ hx (okd_plain (cmpOk_of c).1)) rx
    obtain ⟨bs, r2⟩ := Dp.reads I _ _ _ (Rep.dp _ _ hy (okd_plain (cmpOk_of c).2.1)) ry
    exact PySem.W.lt_data r1 r2 c1 c2 (room_cmp c hu) ⟨.bl _, H, I, rfl, by rw [c3]; exact fin _ H o Ext.refl (.bl _)⟩
  · cases e
theorem op_gtT (hu : X.A.units + 64 < cLine) : OpT X (compareOp .Gt) gtT := by
  intro pins s σ H x y v u Q I rx ry h
  obtain ⟨M, S, tx, ty, t, o, hx, hy, e, fin⟩ := h
  unfold gtT at e
  split at e
  · rename_i c
    obtain rfl := Option.some.inj e
    obtain ⟨c1, c2, c3, c4⟩ := cmp_facts c
    obtain ⟨as, r1⟩ := Dp.reads I _ _ _ (Rep.dp _ _ hx (okd_plain (cmpOk_of c).1)) rx
    obtain ⟨bs, r2⟩ := Dp.reads I _ _ _ (Rep.dp _ _ hy (okd_plain (cmpOk_of c).2.1)) ry
    exact PySem.W.gt_data r1 r2 c1 c2 (room_cmp c hu) ⟨.bl _, H, I, rfl, by rw [c4]; exact fin _ H o Ext.refl (.bl _)⟩
  · cases e
theorem op_geT (hu : X.A.units + 64 < cLine) : OpT X (compareOp .GtE) geT := by
  intro pins s σ H x y v u Q I rx ry h
  obtain ⟨M, S, tx, ty, t, o, hx, hy, e, fin⟩ := h
  unfold geT at e
  split at e
  · rename_i c
    obtain rfl := Option.some.inj e
    obtain ⟨c1, c2, c3, c4⟩ := cmp_facts c
    obtain ⟨as, r1⟩ := Dp.reads I _ _ _ (Rep.dp _ _ hx (okd_plain (cmpOk_of c).1)) rx
    obtain ⟨bs, r2⟩ := Dp.reads I _ _ _ (Rep.dp _ _ hy (okd_plain (cmpOk_of c).2.1)) ry
    exact PySem.W.ge_data r1 r2 c1 c2 (room_cmp c hu) ⟨.bl _, H, I, rfl, by rw [c3]; exact fin _ H o Ext.refl (.bl _)⟩
  · cases e
def inQ (S : Sto) (x y : T) : Option Bool := match res S y with
  | .lst ts => if (okd x && okd (.lst ts)) = true then some (ts.any fun z => eqt z x) else none
  | .tup ts => if (okd x && okd (.tup ts)) = true then some (ts.any fun z => eqt z x) else none
  | .str z => match x with
    | .str [c] => some (decide (c ∈ z))
    | _ => none
  | _ => none
def inT (S : Sto) (x y : T) : Option T := (inQ S x y).map .bl
def ninT (S : Sto) (x y : T) : Option T := (inQ S x y).map fun b => .bl (!b)
end
end TL
namespace TL
open PySem PySem.Spec PyProof.Rows L2
section
variable {X : Cx}
def addT (S : Sto) (x y : T) : Option T := match res S x, res S y with
  | .int i, .int j => some (.int (i + j))
  | .str a, .str b => if a.length + b.length ≤ sizeLine then some (.str (a ++ b)) else none
  | .tup a, .tup b => if a.length + b.length ≤ sizeLine then some (.tup (a ++ b)) else none
  | .lst a, .lst b => if a.length + b.length ≤ sizeLine then some (.lst (a ++ b)) else none
  | _, _ => none
/-- a value that is a list, frozen or a cell -/
theorem res_lst {G : Gd} {H : Hp} {S : Sto} {t : T} {v : V} {ts : List T} (o : StoOk G H S) (r : Rep G H S t v) (e : res S t = .lst ts) : ∃ a xs, v = .ref a ∧ H a = some (.lst xs) ∧ Reps G H S ts xs := by
  cases t with
  | ref a =>
    cases r
    cases q : S a with
    | none => simp [res, q] at e
    | some c =>
      cases c with
      | lst us =>
        simp only [res, q] at e
        cases e
        obtain ⟨xs, h1, h2⟩ := o.at_ a _ q
        exact ⟨a, xs, rfl, h1, h2⟩
      | dct _ _ _ => simp [res, q] at e
      | ins _ _ _ => simp [res, q] at e
  | lst us =>
    cases e
    cases r with
    | lst h1 h2 => exact ⟨_, _, rfl, h1.1, h2⟩
  | _ => cases e
theorem res_id {S : Sto} {t u : T} (e : res S t = u) (h : ∀ ts, u ≠ .lst ts) : t = u := by
  cases t with
  | ref a =>
    cases q : S a with
    | none => simpa [res, q] using e
    | some c =>
      cases c with
      | lst us => simp only [res, q] at e; exact absurd e.symm (h us)
      | dct _ _ _ => simpa [res, q] using e
      | ins _ _ _ => simpa [res, q] using e
  | _ => exact e
theorem op_addT : OpT X (binaryOp .Add) addT := by
  intro pins s σ H x y v u Q I rx ry h
  obtain ⟨M, S, tx, ty, t, o, hx, hy, e, fin⟩ := h
  unfold addT at e
  split at e
  · rename_i i j h1 h2
    obtain rfl := res_id h1 fun _ z => nomatch z
    obtain rfl := res_id h2 fun _ z => nomatch z
    obtain rfl := Option.some.inj e
    cases hx
    cases hy
    exact op_add pins s σ H _ _ v u Q I rx ry ⟨i, j, rfl, rfl, fin _ H o Ext.refl (.int _)⟩
  · rename_i a b h1 h2
    obtain rfl := res_id h1 fun _ z => nomatch z
    obtain rfl := res_id h2 fun _ z => nomatch z
    split at e
    · rename_i hz
      obtain rfl := Option.some.inj e
      cases hx
      cases hy
      refine op_add_str pins s σ H _ _ v u Q I rx ry ⟨txt a, txt b, rfl, rfl, by rw [txt_len, txt_len]; exact hz, ?_⟩
      rw [← txt_app]
      exact fin _ H o Ext.refl (.str _)
    · cases e
  · rename_i a b h1 h2
    obtain rfl := res_id h1 fun _ z => nomatch z
    obtain rfl := res_id h2 fun _ z => nomatch z
    split at e
    · rename_i hz
      obtain rfl := Option.some.inj e
      cases hx with
      | tup a1 a2 =>
        cases hy with
        | tup b1 b2 =>
          have l1 := a2.length
          have l2 := b2.length
          refine op_catF pins s σ H _ _ v u Q I rx ry ⟨_, _, _, _, rfl, rfl, a1.sq, b1.sq, by omega, fun z => ?_, fun _ z => ?_, fun _ _ p ob n nd => ?_⟩
          · subst z
            cases a2
            exact fin _ H o Ext.refl (.tup b1 b2)
          · subst z
            cases b2
            refine fin _ H o Ext.refl ?_
            rw [List.append_nil]
            exact .tup a1 a2
          · exact fin _ _ (o.new n) (Ext.new n) (.tup (.inl ⟨ob, ⟨upd_same, nd⟩, o.free n, o.nom n⟩) (Reps.ext (Ext.new n) _ _ (a2.append b2)))
    · cases e
  · rename_i a b h1 h2
    split at e
    · rename_i hz
      obtain rfl := Option.some.inj e
      obtain ⟨p1, xs, rfl, q1, r1⟩ := res_lst o hx h1
      obtain ⟨p2, ys, rfl, q2, r2⟩ := res_lst o hy h2
      have l1 := r1.length
      have l2 := r2.length
      refine op_cat pins s σ H _ _ v u Q I rx ry ⟨p1, p2, xs, ys, rfl, rfl, q1, q2, by omega, fun p n => ?_⟩
      exact fin _ _ (o.new n) (Ext.new n) (.lst ⟨upd_same, o.free n, o.nom n⟩ (Reps.ext (Ext.new n) _ _ (r1.append r2)))
    · cases e
  · cases e
def i2 (c : Int → Int → Bool) (f : Int → Int → T) (_ : Sto) (x y : T) : Option T := match x, y with
  | .int i, .int j => if c i j = true then some (f i j) else none
  | _, _ => none
theorem op_i2 {f : Value → Value → Sem Value} {c : Int → Int → Bool} {C : Int → Int → Prop} {g : Int → Int → V} {gt : Int → Int → T} (h : OpR X f (rI C g)) (hc : ∀ i j, c i j = true → C i j) (hg : ∀ G H S i j, Rep G H S (gt i j) (g i j)) : OpT X f (i2 c gt) := by
  intro pins s σ H x y v u Q I rx ry h'
  obtain ⟨M, S, tx, ty, t, o, hx, hy, e, fin⟩ := h'
  unfold i2 at e
  split at e
  · rename_i i j
    split at e
    · rename_i hij
      obtain rfl := Option.some.inj e
      cases hx
      cases hy
      exact h pins s σ H _ _ v u Q I rx ry ⟨i, j, rfl, rfl, hc _ _ hij, fin _ H o Ext.refl (hg _ _ _ _ _)⟩
    · cases e
  · cases e
def tt2 (_ _ : Int) : Bool := true
def subT := i2 tt2 fun i j => .int (i - j)
def mulI (i j : Int) : Bool := decide (i.natAbs.log2 + j.natAbs.log2 < 1000000)
def divI (_ j : Int) : Bool := decide (j ≠ 0) && decide (j.natAbs.log2 < 9000)
def fdivT := i2 divI fun i j => .int (i.fdiv j)
def modI (_ j : Int) : Bool := decide (j ≠ 0)
def modT := i2 modI fun i j => .int (i.fmod j)
def powI (i j : Int) : Bool := decide (0 ≤ j) && (decide (j ≤ 1000000) && decide (i.natAbs < 2 ^ 64))
def powT := i2 powI fun i j => .int (i ^ j.toNat)
theorem op_fdivG : OpR X (binaryOp .FloorDiv) (rI (fun _ j => j ≠ 0 ∧ j.natAbs.log2 < 9000) fun i j => .int (i.fdiv j)) := opI fun _ _ _ _ _ _ _ hc q => floordiv_int hc.1 q (.inl (PyProof.noPylong_of_log2 hc.2))
theorem op_fdivT : OpT X (binaryOp .FloorDiv) fdivT := op_i2 op_fdivG (fun _ _ h => by simp only [divI, Bool.and_eq_true, decide_eq_true_eq] at h; exact h) fun _ _ _ _ _ => .int _
theorem op_modT : OpT X (binaryOp .Mod) modT := op_i2 op_modN (fun _ _ h => of_decide_eq_true h) fun _ _ _ _ _ => .int _
theorem op_powT : OpT X (binaryOp .Pow) powT := op_i2 op_pow (fun _ _ h => by simp only [powI, Bool.and_eq_true, decide_eq_true_eq] at h; exact ⟨h.1, h.2.1, h.2.2⟩) fun _ _ _ _ _ => .int _
def negT (_ : Sto) : T → Option T
  | .int i => some (.int (-i))
  | _ => none
theorem Reps.atI {G : Gd} {H : Hp} {S : Sto} {ts : List T} {vs : List V} {i : Int} {t : T} (r : Reps G H S ts vs) (e : L2.atI ts i = some t) : ∃ v, L2.atI vs i = some v ∧ Rep G H S t v := by
  unfold L2.atI at e ⊢
  rw [← r.length]
  cases q : ixN ts.length i with
  | none => rw [q] at e; cases e
  | some j =>
    rw [q] at e
    exact r.get e
def ixT (S : Sto) (x y : T) : Option T := match res S x, y with
  | .lst ts, .int i => L2.atI ts i
  | .tup ts, .int i => L2.atI ts i
  | .str z, .int i => if z.length ≤ sizeLine then (L2.atI z i).map fun c => .str [c] else none
  | _, _ => none
theorem atI_map {α β : Type} (f : α → β) (xs : List α) (i : Int) : L2.atI (xs.map f) i = (L2.atI xs i).map f := by
  unfold L2.atI
  rw [List.length_map]
  cases ixN xs.length i with
  | none => rfl
  | some j => simp
variable {a b : Expr} {ta tb : TTE} {pos : Pos}
theorem te_ix (ha : TE X a ta) (hb : TE X b tb) (hs : PlainIx b := by intro _ _; rfl) : TE X (.Subscript a b pos) (cOp ixT ta tb) := fun M S0 H0 E tk =>
  (pe_ix ix_seq (ha M S0 H0 E tk) (hb M S0 H0 E tk) hs).weak fun σ H Q h => two (fun x y H Q ⟨M, S, tx, ty, t, o, hx, hy, e, fin⟩ => by
    unfold ixT at e
    split at e
    · rename_i ts i h1
      obtain ⟨p, xs, rfl, q1, r1⟩ := res_lst o hx h1
      cases hy
      obtain ⟨w, hw, rw_⟩ := r1.atI e
      exact .inl ⟨p, xs, i, w, rfl, rfl, SqL.of q1, hw, fin _ H o Ext.refl rw_⟩
    · rename_i ts i h1
      obtain rfl := res_id h1 fun _ z => nomatch z
      cases hx with
      | tup a1 a2 =>
        cases hy
        obtain ⟨w, hw, rw_⟩ := a2.atI e
        exact .inr (.inl ⟨_, _, i, w, rfl, rfl, a1.sq, hw, fin _ H o Ext.refl rw_⟩)
    · rename_i z i h1
      obtain rfl := res_id h1 fun _ z => nomatch z
      cases hx
      cases hy
      split at e
      · rename_i hz
        obtain ⟨c, hc, rfl⟩ := Option.map_eq_some_iff.mp e
        exact .inr (.inr ⟨txt z, i, c.val, rfl, rfl, by rw [txt_len]; exact hz, by rw [txt_list, atI_map, hc]; rfl, fin (.str (txt [c])) H o Ext.refl (.str [c])⟩)
      · cases e
    · cases e) h
def cutT {α : Type} (xs : List α) (lo hi : Option Int) : List α := (xs.drop (HT.sIx xs.length 0 lo)).take (HT.sIx xs.length xs.length hi - HT.sIx xs.length 0 lo)
theorem Reps.cut {G : Gd} {H : Hp} {S : Sto} {ts : List T} {vs : List V} (r : Reps G H S ts vs) (lo hi : Option Int) : Reps G H S (cutT ts lo hi) (cutV vs lo hi) := by
  unfold cutT cutV
  rw [r.length]
  exact (r.drop _).take _
theorem reps_ints {G : Gd} {H : Hp} {S : Sto} : ∀ ms : List Int, Reps G H S (ms.map T.int) (ms.map V.int)
  | [] => .nil
  | m :: ms => .cons (.int m) (reps_ints ms)
def slT (S : Sto) (x : T) (lo hi : Option Int) : Option T := match res S x with
  | .lst ts => some (.lst (cutT ts lo hi))
  | .tup ts => some (.tup (cutT ts lo hi))
  | .str z => if z.length ≤ sizeLine then some (.str (cutT z lo hi)) else none
  | .scr ns => some (.lst ((cutT ns lo hi).map T.int))
  | _ => none
abbrev TTO := TEnv → Sto → (Option Int → Sto → Prop) → (T → Sto → Prop) → Prop
def oNo : TTO := fun _ S Q _ => Q none S
def oSome (e : TTE) : TTO := fun τ S Q E => e τ S (fun x S1 => ∃ i, x = .int i ∧ Q (some i) S1) E
def cSl (e : TTE) (lo hi : TTO) : TTE := fun τ S Q E => e τ S (fun x S1 => lo τ S1 (fun l S2 => hi τ S2 (fun u S3 => ∃ z, slT S3 x l u = some z ∧ Q z S3) E) E) E
def LO (X : Cx) (M : Addr → Prop) (S0 : Sto) (H0 : Hp) (t : TTO) (E : T → TEnv → Sto → Prop) : TO := fun σ H Q => ∃ τ S Qt, Rel (gdOf X M) S0 H0 σ H τ S ∧ t τ S Qt (fun x S' => E x τ S') ∧
  ∀ i S' H', Qt i S' → StoOk (gdOf X M) H' S' → Ext S H S' H' → Q i H'
def TOp (X : Cx) (e : Option Expr) (t : TTO) : Prop := ∀ M S0 H0 E, Takes X (wOf X M S0 H0 E) → PO X e (LO X M S0 H0 t E)
theorem to_no : TOp X none oNo := fun M S0 H0 E tk => ⟨fun pins s σ H Q I ⟨τ, S, Qt, rel, h, k⟩ => po_none.run pins s σ H Q I (k none S H h rel.sto Ext.refl)⟩
theorem to_some {e : Expr} {te : TTE} (h : TE X e te) : TOp X (some e) (oSome te) := fun M S0 H0 E tk => ⟨fun pins s σ H Q I ⟨τ, S, Qt, rel, q, k⟩ => (po_some (h M S0 H0 E tk)).run pins s σ H Q I
  ⟨τ, S, _, rel, q, fun z S1 v H1 ⟨i, e, hq⟩ o1 x1 r1 => by
    subst e
    cases r1
    exact ⟨i, rfl, k _ S1 H1 hq o1 x1⟩⟩⟩
theorem txt_cut (z : List Sg) (lo hi : Option Int) : cutS (txt z) lo hi = txt (cutT z lo hi) := by
  unfold cutS cutT txt
  show (⟨_⟩ : Str) = _
  congr 1
  have l : (Str.mk (z.map (·.val)).toArray).length = z.length := txt_len z
  rw [l]
  simp [List.map_drop, List.map_take]
theorem te_slice {e : Expr} {lo hi : Option Expr} {te : TTE} {tl th : TTO} {p2 : Pos} (he : TE X e te) (hl : TOp X lo tl) (hh : TOp X hi th) : TE X (.Subscript e (.Slice lo hi none p2) pos) (cSl te tl th) := fun M S0 H0 E tk =>
  (pe_slice (sl_list.or (sl_tupF.or sl_str)) (he M S0 H0 E tk) (hl M S0 H0 E tk) (hh M S0 H0 E tk)).weak fun σ H Q ⟨τ, S, Qt, rel, h, k⟩ => ⟨τ, S, _, rel, h, fun z S1 v H1 h1 o1 x1 r1 =>
    ⟨τ, S1, _, rel.step o1 x1, h1, fun l S2 H2 h2 o2 x2 => ⟨τ, S2, _, (rel.step o1 x1).step o2 x2, h2, fun u S3 H3 h3 o3 x3 => by
      obtain ⟨w, e, hq⟩ := h3
      have r3 := Rep.ext (x2.trans x3) _ _ r1
      have fin := fun v H' o4 x4 r4 => k w S3 v H' hq o4 (((x1.trans x2).trans x3).trans x4) r4
      unfold slT at e
      split at e
      · rename_i ts h1
        obtain rfl := Option.some.inj e
        obtain ⟨p, xs, rfl, q1, r1⟩ := res_lst o3 r3 h1
        exact .inl ⟨p, xs, rfl, SqL.of q1, fun p n => fin _ _ (o3.new n) (Ext.new n) (.lst ⟨upd_same, o3.free n, o3.nom n⟩ (Reps.ext (Ext.new n) _ _ (r1.cut l u)))⟩
      · rename_i ts h1
        obtain rfl := Option.some.inj e
        obtain rfl := res_id h1 fun _ z => nomatch z
        cases r3 with
        | tup a1 a2 =>
          refine .inr (.inl ⟨_, _, rfl, a1.sq, fun hw => ?_, fun _ p ob n nd => ?_⟩)
          · refine fin _ _ o3 Ext.refl ?_
            have e2 : cutT ts l u = ts := by
              unfold cutT
              rw [a2.length, hw.1, hw.2]
              simp [← a2.length]
            rw [e2]
            exact .tup a1 a2
          · exact fin _ _ (o3.new n) (Ext.new n) (.tup (.inl ⟨ob, ⟨upd_same, nd⟩, o3.free n, o3.nom n⟩) (Reps.ext (Ext.new n) _ _ (a2.cut l u)))
      · rename_i y h1
        obtain rfl := res_id h1 fun _ z => nomatch z
        split at e
        · rename_i hz
          obtain rfl := Option.some.inj e
          cases r3
          exact .inr (.inr ⟨txt y, rfl, by rw [txt_len]; exact hz, by rw [txt_cut]; exact fin _ _ o3 Ext.refl (.str _)⟩)
        · cases e
      · rename_i ns h1
        obtain rfl := res_id h1 fun _ z => nomatch z
        obtain rfl := Option.some.inj e
        cases r3 with
        | scr a1 =>
          refine .inl ⟨_, _, rfl, a1.sq, fun p n => fin _ _ (o3.new n) (Ext.new n) (.lst ⟨upd_same, o3.free n, o3.nom n⟩ ?_)⟩
          have : cutV (ns.map V.int) l u = (cutT ns l u).map V.int := by
            unfold cutV cutT
            rw [List.length_map]
            simp [List.map_drop, List.map_take]
          rw [this]
          exact reps_ints _
      · cases e⟩⟩⟩
end
end TL
namespace TL
open PySem PySem.Spec PyProof.Rows L2
section
variable {X : Cx} {x : Str} {p pos : Pos} {e : Expr} {es : List Expr} {ta : TTA} {bid Ty : String}
def CallT (X : Cx) (f : Value) (g : Sto → List T → Option T) : Prop := CallR X f fun xs H Q => ∃ M S ts t, StoOk (gdOf X M) H S ∧ Reps (gdOf X M) H S ts xs ∧ g S ts = some t ∧ ∀ v H', StoOk (gdOf X M) H' S → Ext S H S H' → Rep (gdOf X M) H' S t v → Q v H'
def cFn (g : Sto → List T → Option T) (a : TTA) : TTE := fun τ S Q E => a τ S (fun ts S1 => ∃ t, g S1 ts = some t ∧ Q t S1) E
theorem te_fnB {g : Sto → List T → Option T} (hc : CallT X (.builtin bid) g) (hg : Gl X x) (hm : X.mg x = none) (hv : bootBuiltins x = some (.builtin bid)) (ha : TA X (e :: es) ta) (hn : x ≠ "__name__" := by decide) (hdb : (x == ("__debug__" : Str)) = false := by decide)
    (he : starEach (e :: es) X.env = (false, eval e X.env) :: starEach es X.env := by rfl) (hpl : (backTo pos (starEach es X.env)).any (·.1) = false := by rfl) : TE X (.Call (.Name x p) (e :: es) [] pos) (cFn g ta) := fun M S0 H0 E tk =>
  (pe_callB hc hg hm hv (ha M S0 H0 E tk) hn hdb he hpl).weak fun σ H Q ⟨τ, S, Qt, rel, q, k⟩ => ⟨τ, S, _, rel, q, fun ts S1 vs H1 ⟨t, e, hq⟩ o1 x1 r1 => ⟨M, S1, ts, t, o1, r1, e, fun v H' o2 x2 r2 => k t S1 v H' hq o2 (x1.trans x2) r2⟩⟩
theorem Reps.one {G : Gd} {H : Hp} {S : Sto} {t : T} {vs : List V} (r : Reps G H S [t] vs) : ∃ v, vs = [v] ∧ Rep G H S t v := by
  cases r with
  | cons a b => cases b; exact ⟨_, rfl, a⟩
def lenF (S : Sto) : List T → Option T
  | [t] => match res S t with
    | .lst ts => some (.int ts.length)
    | .tup ts => some (.int ts.length)
    | .str z => if z.length ≤ sizeLine then some (.int z.length) else none
    | _ => none
  | _ => none
theorem fn_len : CallT X (.builtin "len") lenF := by
  intro pins s σ H xs us Q I r h
  obtain ⟨M, S, ts, t, o, rs, e, fin⟩ := h
  unfold lenF at e
  split at e
  · rename_i y
    obtain ⟨v, rfl, ry⟩ := rs.one
    split at e
    · rename_i zs hz
      obtain rfl := Option.some.inj e
      obtain ⟨a, ws, rfl, h1, h2⟩ := res_lst o ry hz
      exact call_len pins s σ H _ us Q I r ⟨_, _, rfl, .inl ⟨ws, SqL.of h1, rfl⟩, by rw [← h2.length]; exact fin _ H o Ext.refl (.int _)⟩
    · rename_i zs hz
      obtain rfl := Option.some.inj e
      obtain rfl := res_id hz fun _ z => nomatch z
      cases ry with
      | tup h1 h2 => exact call_len pins s σ H _ us Q I r ⟨_, _, rfl, .inr ⟨_, h1.sq, rfl⟩, by rw [← h2.length]; exact fin _ H o Ext.refl (.int _)⟩
    · rename_i z hz
      obtain rfl := res_id hz fun _ z => nomatch z
      split at e
      · rename_i hl
        obtain rfl := Option.some.inj e
        cases ry
        exact call_len pins s σ H _ us Q I r ⟨_, _, rfl, ⟨by rw [txt_len]; exact hl, rfl⟩, by rw [txt_len]; exact fin _ H o Ext.refl (.int _)⟩
      · cases e
    · cases e
  · cases e
def absF (_ : Sto) : List T → Option T
  | [.int i] => some (.int (if i < 0 then -i else i))
  | _ => none
theorem fn_abs : CallT X (.builtin "abs") absF := by
  intro pins s σ H xs us Q I r h
  obtain ⟨M, S, ts, t, o, rs, e, fin⟩ := h
  unfold absF at e
  split at e
  · rename_i i
    obtain rfl := Option.some.inj e
    obtain ⟨v, rfl, ry⟩ := rs.one
    cases ry
    exact call_abs pins s σ H _ us Q I r ⟨i, rfl, fin _ H o Ext.refl (.int _)⟩
  · cases e
def intF (_ : Sto) : List T → Option T
  | [.int i] => some (.int i)
  | [.bl b] => some (.int (if b then 1 else 0))
  | _ => none
def tupleF (S : Sto) : List T → Option T
  | [t] => match res S t with
    | .lst ts => some (.tup ts)
    | .tup ts => some (.tup ts)
    | _ => none
  | _ => none
def listF (S : Sto) : List T → Option T
  | [t] => match res S t with
    | .lst ts => some (.lst ts)
    | .tup ts => some (.lst ts)
    | _ => none
  | _ => none
/-- a row of truths -/
def blsOf : List T → Option (List Bool)
  | [] => some []
  | .bl b :: ts => (blsOf ts).map (b :: ·)
  | _ :: _ => none
theorem blsOf_reps {G : Gd} {H : Hp} {S : Sto} : ∀ {ts : List T} {bs : List Bool} {vs : List V}, blsOf ts = some bs → Reps G H S ts vs → vs = bs.map V.bl
  | [], bs, vs, e, r => by
    cases r
    obtain rfl := Option.some.inj e
    rfl
  | t :: ts, bs, vs, e, r => by
    cases r with
    | cons a b =>
      cases t with
      | bl c =>
        obtain ⟨cs, h1, rfl⟩ := Option.map_eq_some_iff.mp (show (blsOf ts).map (c :: ·) = some bs from e)
        cases a
        rw [blsOf_reps h1 b]
        rfl
      | _ => cases e
def allF (S : Sto) : List T → Option T
  | [t] => match res S t with
    | .lst ts => (blsOf ts).map fun bs => .bl (bs.all id)
    | _ => none
  | _ => none
theorem fn_all (hc : X.calm = true) : CallT X (.builtin "all") allF := by
  intro pins s σ H xs us Q I r h
  obtain ⟨M, S, ts, t, o, rs, e, fin⟩ := h
  unfold allF at e
  split at e
  · obtain ⟨v, rfl, ry⟩ := rs.one
    split at e
    · rename_i zs hz
      obtain ⟨bs, hb, rfl⟩ := Option.map_eq_some_iff.mp e
      obtain ⟨a, ws, rfl, h1, h2⟩ := res_lst o ry hz
      have hw := blsOf_reps hb h2
      subst hw
      exact cr_all hc pins s σ H _ us Q I r ⟨a, bs, rfl, SqL.of h1, fin _ _ o Ext.refl (.bl _)⟩
    · cases e
  · cases e
def max2F (_ : Sto) : List T → Option T
  | [.int i, .int j] => some (.int (if j > i then j else i))
  | _ => none
def min2F (_ : Sto) : List T → Option T
  | [.int i, .int j] => some (.int (if j < i then j else i))
  | _ => none
def leT' (x y : T) : Bool := !ltt y x
/-- all alike, and of tuples with something in them, or of none -/
def sortOk (ts : List T) : Bool := ts.all (fun x => okd x && ts.all fun y => alk x y) && (ts.all (fun x => match x with | .tup (_ :: _) => true | _ => false) || ts.all fun x => match x with | .tup _ => false | .non => false | _ => true)
theorem sortOk_of {ts : List T} (h : sortOk ts = true) : (∀ x ∈ ts, okd x = true) ∧ PySem.W.AllAlike (ts.map dat) ∧ PySem.W.Sortable (ts.map dat) ∧ ∀ x ∈ ts, ∀ y ∈ ts, PySem.W.dataLt (dat x) (dat y) = ltt x y := by
  simp only [sortOk, Bool.and_eq_true, Bool.or_eq_true, List.all_eq_true] at h
  obtain ⟨h1, h2⟩ := h
  have ok : ∀ x ∈ ts, okd x = true := fun x hx => (h1 x hx).1
  have al : ∀ x ∈ ts, ∀ y ∈ ts, alk x y = true := fun x hx y hy => (h1 x hx).2 y hy
  refine ⟨ok, fun d hd d' hd' => ?_, ?_, fun x hx y hy => ?_⟩
  · obtain ⟨x, hx, rfl⟩ := List.mem_map.mp hd
    obtain ⟨y, hy, rfl⟩ := List.mem_map.mp hd'
    rw [alk_dat x y (okd_plain (ok x hx)) (okd_plain (ok y hy))]
    exact al x hx y hy
  · rcases h2 with h2 | h2
    · refine .inl fun d hd => ?_
      obtain ⟨x, hx, rfl⟩ := List.mem_map.mp hd
      have := h2 x hx
      cases x with
      | tup l =>
        cases l with
        | nil => cases this
        | cons a b => exact ⟨_, _, rfl⟩
      | _ => cases this
    · refine .inr fun d hd => ?_
      obtain ⟨x, hx, rfl⟩ := List.mem_map.mp hd
      have := h2 x hx
      have pl := okd_plain (ok x hx)
      cases x <;> first | (cases this; done) | (cases pl; done) | exact ⟨(fun z => nomatch z), fun _ z => nomatch z⟩
  · by_cases hn : x = .non
    · subst hn
      have hyn := al _ hx y hy
      have hxx := h2
      cases y <;> first | (simp [alk] at hyn; done) | skip
      rcases h2 with h2 | h2
      · exact absurd (h2 _ hx) (by simp)
      · exact absurd (h2 _ hx) (by simp)
    · exact ltt_dat x y (okd_plain (ok x hx)) (okd_plain (ok y hy)) (al x hx y hy) hn
def sortedF (S : Sto) : List T → Option T
  | [t] => match res S t with
    | .lst ts => if (sortOk ts && decide (ts.length ≤ sizeLine)) = true then some (.lst (ts.mergeSort leT')) else none
    | .tup ts => if (sortOk ts && decide (ts.length ≤ sizeLine)) = true then some (.lst (ts.mergeSort leT')) else none
    | _ => none
  | _ => none
end
end TL
namespace TL
open PySem PySem.Spec PyProof.Rows L2
theorem mergeSort_leT (ts : List T) (h : ∀ x ∈ ts, ∀ y ∈ ts, PySem.W.dataLt (dat x) (dat y) = ltt x y) : ts.mergeSort (PySem.W.dataLe false dat) = ts.mergeSort leT' :=
  PySem.W.sort_congr fun a ha b hb => by
    rw [PySem.W.dataLe_eq]
    show (!PySem.W.dataLt (dat b) (dat a)) = !ltt b a
    rw [h b hb a ha]
section
variable {X : Cx} {pins : List (Addr × Obj)} {s : Shared} {σ : L2.St} {H : Hp} {S : Sto} {M : Addr → Prop} {Q : VK}
end
end TL
namespace TL
open PySem PySem.Spec PyProof.Rows L2
abbrev NoE : T → Sto → Prop := fun _ _ => False
theorem takesN {X : Cx} {M : Addr → Prop} {S0 : Sto} {H0 : Hp} : Takes X (wOf X M S0 H0 EN) := takes0.imp fun c d σ H ⟨_, _, _, _, _, z⟩ => z.elim
def sqv : T → Option (List T)
  | .lst zs => some zs
  | .tup zs => some zs
  | _ => none
def cApp (o e : TTE) : TTE := fun τ S Q E => o τ S (fun x S1 => ∃ a us, x = .ref a ∧ S1 a = some (.lst us) ∧ e τ S1 (fun y S2 => ∃ ts, S2 a = some (.lst ts) ∧ ts.length < sizeLine ∧ Q .non (ups S2 a (.lst (ts ++ [y])))) E) E
def cExt (o e : TTE) : TTE := fun τ S Q E => o τ S (fun x S1 => ∃ a us, x = .ref a ∧ S1 a = some (.lst us) ∧ e τ S1 (fun y S2 => ∃ ts zs, S2 a = some (.lst ts) ∧ sqv (res S2 y) = some zs ∧ ts.length + zs.length ≤ sizeLine ∧ Q .non (ups S2 a (.lst (ts ++ zs)))) E) E
def cPop (o : TTE) : TTE := fun τ S Q E => o τ S (fun x S1 => ∃ a ts y, x = .ref a ∧ S1 a = some (.lst ts) ∧ ts.getLast? = some y ∧ Q y (ups S1 a (.lst ts.dropLast))) E
def cClr (o : TTE) : TTE := fun τ S Q E => o τ S (fun x S1 => ∃ a ts, x = .ref a ∧ S1 a = some (.lst ts) ∧ Q .non (ups S1 a (.lst []))) E
def gIx (o i : TTE) : TTG := fun z τ S Q => o τ S (fun x S1 => i τ S1 (fun k S2 => ∃ a ts n j, x = .ref a ∧ S2 a = some (.lst ts) ∧ k = .int n ∧ ixN ts.length n = some j ∧ Q τ (ups S2 a (.lst (ts.set j z)))) NoE) NoE
section
variable {X : Cx} {o e i : Expr} {to te ti : TTE} {apos cpos pos : Pos}
theorem ty_list {M : Addr → Prop} {S : Sto} {H : Hp} {a : Addr} {us : List T} (ok : StoOk (gdOf X M) H S) (h : S a = some (.lst us)) : tyV X.K "list" (.ref a) H := by
  obtain ⟨xs, h1, _⟩ := ok.at_ a _ h
  exact .inl ⟨rfl, xs, SqL.of h1⟩
/-- a cell of a list is written -/
theorem cell_set {M : Addr → Prop} {S : Sto} {H : Hp} {a : Addr} {ts us : List T} {ys : List V} (ok : StoOk (gdOf X M) H S) (h : S a = some (.lst ts)) (r : Reps (gdOf X M) H S us ys) :
    StoOk (gdOf X M) (upd H a (.lst ys)) (ups S a (.lst us)) ∧ Ext S H (ups S a (.lst us)) (upd H a (.lst ys)) :=
  have x : Ext S H (ups S a (.lst us)) (upd H a (.lst ys)) := Ext.cell (.inr ⟨_, h⟩)
  ⟨ok.cell (.inr ⟨_, h⟩) ⟨ys, upd_same, Reps.ext x _ _ r⟩, x⟩
theorem te_app (ho : TE X o to) (he : TE X e te) (hbase : attributeBase o "append" X.env (eval o X.env) = eval o X.env := by rfl)
    (hfew : ((backTo cpos (starEach [e] X.env)).all (fun x => !x.1) && (backToKw cpos (keywordEach [] X.env)).all (fun x => x.1.isSome) && decide (([e] : List Expr).length + ([] : List Keyword).length + (if ([] : List Keyword).isEmpty then 0 else 1) < 30)) = true := by rfl)
    (hline : (apos.endLine == cpos.line) = true := by rfl) (hs : starEach [e] X.env = (false, eval e X.env) :: starEach [] X.env := by rfl) (hplain : (backTo cpos (starEach [] X.env)).any (·.1) = false := by rfl) :
    TE X (.Call (.Attribute o "append" apos) [e] [] cpos) (cApp to te) := fun M S0 H0 E tk =>
  (pe_bm PySem.F.plainAttrs_list PySem.F.slot_list_append PySem.F.type_list_append mt_append (ho M S0 H0 E tk) (ta_cons he ta_nil hs M S0 H0 E tk) hbase hfew hline hs hplain).weak fun σ H Q ⟨τ, S, Qt, rel, h, k⟩ =>
    ⟨τ, S, _, rel, h, fun z S1 v H1 ⟨a, us, ez, hs1, h1⟩ o1 x1 r1 => by
      subst ez
      cases r1
      refine ⟨ty_list o1 hs1, τ, S1, fun zs S2 => ∃ y, zs = [y] ∧ ∃ ts, S2 a = some (.lst ts) ∧ ts.length < sizeLine ∧ Qt .non (ups S2 a (.lst (ts ++ [y]))), rel.step o1 x1, ?_, fun zs S2 vs H2 h2 o2 x2 r2 => ?_⟩
      · show te τ S1 (fun y S2 => ∃ y', [y] = [y'] ∧ ∃ ts, S2 a = some (.lst ts) ∧ ts.length < sizeLine ∧ Qt .non (ups S2 a (.lst (ts ++ [y'])))) fun x S' => E x τ S'
        have e : ∀ (y : T) (S2 : Sto), (∃ y', [y] = [y'] ∧ ∃ ts, S2 a = some (.lst ts) ∧ ts.length < sizeLine ∧ Qt .non (ups S2 a (.lst (ts ++ [y'])))) = ∃ ts, S2 a = some (.lst ts) ∧ ts.length < sizeLine ∧ Qt .non (ups S2 a (.lst (ts ++ [y]))) := fun y S2 => by
          simp only [List.cons.injEq, and_true, exists_eq_left']
        simp only [e]
        exact h1
      · obtain ⟨y, rfl, ts, q1, q2, q3⟩ := h2
        obtain ⟨w, rfl, rw1⟩ := r2.one
        obtain ⟨xs, p1, p2⟩ := o2.at_ a _ q1
        have l := p2.length
        obtain ⟨o3, x3⟩ := cell_set (us := ts ++ [y]) (ys := xs ++ [w]) o2 q1 (p2.append (.cons rw1 .nil))
        exact ⟨a, xs, w, rfl, rfl, p1, by omega, k _ _ _ _ q3 o3 ((x1.trans x2).trans x3) .non⟩⟩
/-- xs[i] = v, xs a list -/
theorem tg_ix {vs : List Nat} (ho : TE X o to) (hi : TE X i ti) (ha : ∀ v, assign (.Subscript o i pos) X.env v = (do
      let ov ← holding [v] (eval o X.env)
      let iv ← holding [v, ov] (eval i X.env)
      standAt pos
      holding [v, ov, iv] (setItem ov iv v)
      release [v, ov, iv] []) := by intro _; rfl) : TGt X vs (.Subscript o i pos) (gIx to ti) := fun M S0 H0 E tk =>
  (pg_sub (ho M S0 H0 EN takesN) (hi M S0 H0 EN takesN) set_list ha).weak fun v σ H Q ⟨τ, S, z, Qt, rel, hz, h, k⟩ => ⟨τ, S, _, rel, h, fun x S1 xv H1 h1 o1 x1 r1 =>
    ⟨τ, S1, _, rel.step o1 x1, h1, fun y S2 yv H2 ⟨a, ts, n, j, ex, hs2, ey, hj, h2⟩ o2 x2 r2 => by
      subst ex ey
      cases r1
      cases r2
      obtain ⟨xs, p1, p2⟩ := o2.at_ a _ hs2
      have x12 := x1.trans x2
      obtain ⟨o3, x3⟩ := cell_set (us := ts.set j z) (ys := xs.set j v) o2 hs2 (p2.set (Rep.ext x12 _ _ hz) j)
      exact ⟨a, xs, n, j, rfl, rfl, p1, by rw [← p2.length]; exact hj, k _ _ _ _ ((rel.step o2 x12).step o3 x3) (x12.trans x3) rfl h2⟩⟩⟩
end
inductive Kd where
  | non | bool | int | str | tup | lst | dct
  deriving DecidableEq
def Kd.nm : Kd → String
  | .non => "NoneType"
  | .bool => "bool"
  | .int => "int"
  | .str => "str"
  | .tup => "tuple"
  | .lst => "list"
  | .dct => "dict"
def Kd.is : Kd → Kd → Bool
  | .bool, .int => true
  | a, b => decide (a = b)
theorem Kd.kit (a b : Kd) : kitB a.nm b.nm = some (a.is b) := by cases a <;> cases b <;> decide +kernel
def kdOf (S : Sto) : T → Option Kd
  | .non => some .non
  | .bl _ => some .bool
  | .int _ => some .int
  | .str _ => some .str
  | .tup _ => some .tup
  | .lst _ => some .lst
  | .dct false _ _ => some .dct
  | .ref a => match S a with
    | some (.lst _) => some .lst
    | some (.dct false _ _) => some .dct
    | _ => none
  | _ => none
theorem kd_ty {X : Cx} {M : Addr → Prop} {S : Sto} {H : Hp} {t : T} {v : V} {k : Kd} (o : StoOk (gdOf X M) H S) (r : Rep (gdOf X M) H S t v) (e : kdOf S t = some k) : TyX X.K H v (.type k.nm) := by
  cases r with
  | non => obtain rfl := Option.some.inj e; exact .base .non
  | bl b => obtain rfl := Option.some.inj e; exact .base (.bl b)
  | int i => obtain rfl := Option.some.inj e; exact .base (.int i)
  | str x => obtain rfl := Option.some.inj e; exact .base (.str _)
  | tup h1 h2 =>
    obtain rfl := Option.some.inj e
    rcases h1 with ⟨ob, ⟨h1, _⟩, _⟩ | ⟨ob, its, n, h1, h2, _⟩
    · exact .fTuple h1
    · exact .kTuple h1 h2
  | lst h1 h2 => obtain rfl := Option.some.inj e; exact .base (.lst h1.1)
  | dK h1 h2 h3 =>
    obtain rfl := Option.some.inj e
    rcases h1.1 with h1 | ⟨ob, h1⟩
    · exact .base (.dK h1)
    · exact .fDict h1
  | ref a =>
    cases q : S a with
    | none => simp [kdOf, q] at e
    | some c =>
      have w := o.at_ a _ q
      cases c with
      | lst ts =>
        simp only [kdOf, q] at e
        obtain rfl := Option.some.inj e
        obtain ⟨xs, h1, _⟩ := w
        exact .base (.lst h1)
      | dct b ks vs =>
        cases b with
        | true => simp [kdOf, q] at e
        | false =>
          simp only [kdOf, q] at e
          obtain rfl := Option.some.inj e
          obtain ⟨kvs, h1, _⟩ := w
          exact .base (.dK h1)
      | ins _ _ _ => simp [kdOf, q] at e
  | _ => cases e
def isiT (ks : List Kd) (S : Sto) (x : T) : Option T := (kdOf S x).map fun k => .bl (ks.any fun c => k.is c)
section
variable {X : Cx} {a : Expr} {ta : TTE} {p p2 pos tpos : Pos} {c : Str}
theorem boot_kd (k : Kd) (h : k ≠ .non) : bootBuiltins k.nm = some (.type k.nm) := by
  cases k <;> first | exact absurd rfl h | decide +kernel
/-- isinstance(e, C), C a built-in class -/
theorem te_isi (k : Kd) (ha : TE X a ta) (hg : Gl X "isinstance") (hm : X.mg "isinstance" = none) (hg2 : Gl X k.nm) (hm2 : X.mg k.nm = none) (hk : k ≠ .non := by decide)
    (hdb : ((k.nm : Str) == ("__debug__" : Str)) = false := by decide) (hnn : (k.nm : Str) ≠ "__name__" := by decide)
    (he : starEach [a, .Name k.nm p2] X.env = (false, eval a X.env) :: starEach [.Name k.nm p2] X.env := by rfl) (he2 : starEach [.Name k.nm p2] X.env = (false, eval (.Name k.nm p2) X.env) :: starEach [] X.env := by rfl) (hpl : (backTo pos (starEach [.Name k.nm p2] X.env)).any (·.1) = false := by rfl) :
    TE X (.Call (.Name "isinstance" p) [a, .Name k.nm p2] [] pos) (cUn (isiT [k]) ta) := fun M S0 H0 E tk =>
  (pe_callB call_isi hg hm boot_isinstance (pa_cons (ha M S0 H0 E tk) (pa_cons (pe_bltn hg2 hm2 (boot_kd k hk) (show RelV (.ty k.nm) (.type k.nm) from rfl) hnn hdb) pa_nil he2) he) (by decide) (by decide) he hpl).weak fun σ H Q ⟨τ, S, Qt, rel, h, fin⟩ =>
    ⟨τ, S, _, rel, h, fun z S1 v H1 ⟨w, e, hq⟩ o1 x1 r1 => by
      obtain ⟨kd, hkd, rfl⟩ := Option.map_eq_some_iff.mp e
      refine ⟨v, .ty k.nm, .type kd.nm, .type k.nm, kd.is k, rfl, .ty _, kd_ty o1 r1 hkd, kit_ty (kd.kit k), ?_⟩
      have := fin _ S1 (.bl (kd.is k)) H1 hq o1 x1 (by simp only [List.any_cons, List.any_nil, Bool.or_false]; exact .bl _)
      exact this⟩
/-- isinstance(e, (C, D)) -/
theorem te_isi2 (k l : Kd) {kk : Nat} {p3 : Pos} (ha : TE X a ta) (hg : Gl X "isinstance") (hm : X.mg "isinstance" = none) (hg2 : Gl X k.nm) (hm2 : X.mg k.nm = none) (hg3 : Gl X l.nm) (hm3 : X.mg l.nm = none) (hk : k ≠ .non := by decide) (hl : l ≠ .non := by decide)
    (hdb : ((k.nm : Str) == ("__debug__" : Str)) = false := by decide) (hnn : (k.nm : Str) ≠ "__name__" := by decide) (hdb3 : ((l.nm : Str) == ("__debug__" : Str)) = false := by decide) (hnn3 : (l.nm : Str) ≠ "__name__" := by decide)
    (he : starEach [a, .Tuple [.Name k.nm p2, .Name l.nm p3] kk tpos] X.env = (false, eval a X.env) :: starEach [.Tuple [.Name k.nm p2, .Name l.nm p3] kk tpos] X.env := by rfl)
    (he2 : starEach [.Tuple [.Name k.nm p2, .Name l.nm p3] kk tpos] X.env = (false, eval (.Tuple [.Name k.nm p2, .Name l.nm p3] kk tpos) X.env) :: starEach [] X.env := by rfl)
    (he3 : starEach [.Name k.nm p2, .Name l.nm p3] X.env = (false, eval (.Name k.nm p2) X.env) :: starEach [.Name l.nm p3] X.env := by rfl) (he4 : starEach [.Name l.nm p3] X.env = (false, eval (.Name l.nm p3) X.env) :: starEach [] X.env := by rfl)
    (hpl : (backTo pos (starEach [.Tuple [.Name k.nm p2, .Name l.nm p3] kk tpos] X.env)).any (·.1) = false := by rfl) :
    TE X (.Call (.Name "isinstance" p) [a, .Tuple [.Name k.nm p2, .Name l.nm p3] kk tpos] [] pos) (cUn (isiT [k, l]) ta) := fun M S0 H0 E tk =>
  (pe_callB call_isiT hg hm boot_isinstance (pa_cons (ha M S0 H0 E tk) (pa_cons (pe_tup (pa_cons (pe_bltn hg2 hm2 (boot_kd k hk) (show RelV (.ty k.nm) (.type k.nm) from rfl) hnn hdb) (pa_cons (pe_bltn hg3 hm3 (boot_kd l hl) (show RelV (.ty l.nm) (.type l.nm) from rfl) hnn3 hdb3) pa_nil he4) he3)) pa_nil he2) he) (by decide) (by decide) he hpl).weak fun σ H Q ⟨τ, S, Qt, rel, h, fin⟩ =>
    ⟨τ, S, _, rel, h, fun z S1 v H1 ⟨w, e, hq⟩ o1 x1 r1 => by
      obtain ⟨kd, hkd, rfl⟩ := Option.map_eq_some_iff.mp e
      refine ⟨by show 2 ≤ sizeLine; rw [sizeLine_eq]; omega, fun q n => ?_⟩
      have xn : Ext S1 H1 S1 (upd H1 q (.tup [.ty k.nm, .ty l.nm])) := Ext.new n
      refine ⟨v, q, [.ty k.nm, .ty l.nm], .type kd.nm, [.type k.nm, .type l.nm], kd.is k || kd.is l, rfl, upd_same, .cons (.ty _) (.cons (.ty _) .nil), kd_ty (o1.new n) (Rep.ext xn _ _ r1) hkd, ?_, ?_⟩
      · refine kitAny_cons (kit_ty (kd.kit k)) (fun e1 => ?_) fun e1 => ?_
        · refine kitAny_cons (kit_ty (kd.kit l)) (fun e2 => ?_) fun e2 => ?_
          · rw [e1, e2]; exact kitAny_nil
          · rw [e2, Bool.or_true]
        · rw [e1, Bool.true_or]
      · have := fin _ S1 (.bl (kd.is k || kd.is l)) _ hq (o1.new n) (x1.trans xn) (by simp only [List.any_cons, List.any_nil, Bool.or_false]; exact .bl _)
        exact this⟩
end
end TL
namespace TL
open PySem PySem.Spec PyProof.Rows L2
def repS (n : Nat) (x : List Sg) : List Sg := (List.replicate n x).flatten
theorem repS_succ (n : Nat) (x : List Sg) : repS (n + 1) x = x ++ repS n x := by simp [repS, List.replicate_succ]
theorem repS_nil (n : Nat) : repS n [] = [] := by
  induction n with
  | zero => rfl
  | succ n ih => rw [repS_succ, ih]; rfl
theorem repS_one (x : List Sg) : repS 1 x = x := by simp [repS]
theorem txt_repS (n : Nat) (x : List Sg) : (⟨(List.replicate n (txt x).cps).foldl (· ++ ·) #[]⟩ : Str) = txt (repS n x) := by
  have h : ∀ (n : Nat) (acc : Array Nat), (List.replicate n (txt x).cps).foldl (· ++ ·) acc = acc ++ (txt (repS n x)).cps := by
    intro n
    induction n with
    | zero => intro acc; simp [repS, txt]
    | succ n ih =>
      intro acc
      rw [List.replicate_succ, List.foldl_cons, ih, repS_succ]
      simp [txt]
  rw [h n #[]]
  simp [txt]
theorem txt_mul (x : List Sg) (n : Int) : Txt.mul (txt x) n = txt (repS n.toNat x) := by
  unfold Txt.mul
  split
  · rename_i h
    have : n.toNat = 0 := by omega
    rw [this]
    rfl
  · split
    · rename_i h h2
      simp only [Bool.or_eq_true, beq_iff_eq] at h2
      rcases h2 with h2 | h2
      · subst h2
        show txt x = txt (repS 1 x)
        rw [repS_one]
      · rw [txt_len] at h2
        have : x = [] := List.eq_nil_of_length_eq_zero h2
        subst this
        rw [repS_nil]
    · exact txt_repS _ _
def mulS (x : List Sg) (n : Int) : Bool := decide (x.length * n.toNat ≤ 1000000) && (decide (n < 1000000) && decide (-1000000 < n))
theorem mulS_ok {x : List Sg} {n : Int} (h : mulS x n = true) : MulOk (txt x) n := by
  simp only [mulS, Bool.and_eq_true, decide_eq_true_eq] at h
  obtain ⟨h1, h2, h3⟩ := h
  refine ⟨by rw [decide_eq_false (by omega), decide_eq_false (by omega)]; rfl, fun h4 _ => ?_, fun h4 _ => ?_⟩
  · rw [txt_len]
    have hn : 0 < n := by omega
    have h5 : (x.length : Int) * n ≤ 1000000 := by
      have : ((x.length * n.toNat : Nat) : Int) ≤ ((1000000 : Nat) : Int) := Int.ofNat_le.mpr h1
      rw [Int.natCast_mul, Int.toNat_of_nonneg (by omega)] at this
      exact this
    have : (x.length : Int) ≤ (2 ^ 63 - 1) / n := by
      apply Int.le_ediv_of_mul_le hn
      omega
    omega
  · rw [txt_len]
    unfold Builtin.Str.tooLong
    rw [sizeLine_eq]
    exact decide_eq_false (by omega)
def mulT2 (_ : Sto) (x y : T) : Option T := match x, y with
  | .int i, .int j => if mulI i j = true then some (.int (i * j)) else none
  | .str a, .int n => if mulS a n = true then some (.str (repS n.toNat a)) else none
  | _, _ => none
section
variable {X : Cx}
theorem op_mulT2 : OpT X (binaryOp .Mult) mulT2 := by
  intro pins s σ H x y v u Q I rx ry h
  obtain ⟨M, S, tx, ty, t, o, hx, hy, e, fin⟩ := h
  unfold mulT2 at e
  split at e
  · rename_i i j
    split at e
    · rename_i hz
      obtain rfl := Option.some.inj e
      cases hx
      cases hy
      exact op_mulW pins s σ H _ _ v u Q I rx ry ⟨i, j, rfl, rfl, by unfold CMulW; exact of_decide_eq_true hz, fin _ H o Ext.refl (.int _)⟩
    · cases e
  · rename_i a n
    split at e
    · rename_i hz
      obtain rfl := Option.some.inj e
      cases hx
      cases hy
      obtain ⟨t1, rfl⟩ := rx
      obtain ⟨t2, rfl⟩ := ry
      refine SB.mul (mulS_ok hz) fun t' k => ⟨.str _, H, I.tok k, ⟨t', rfl⟩, ?_⟩
      rw [txt_mul]
      exact fin _ H o Ext.refl (.str _)
    · cases e
  · cases e

def strI (i : Int) : List Sg := q (Str.ofString (toString i))
def strF (_ : Sto) : List T → Option T
  | [.int i] => if i.natAbs.log2 < 1000 then some (.str (strI i)) else none
  | _ => none
/-- a method of a thing of the kind k, with its arguments -/
def MetT (X : Cx) (id : String) (f : Sto → T → List T → Option T) : Prop := MtR X id fun x xs H Q => ∃ M S tx ts t, StoOk (gdOf X M) H S ∧ Rep (gdOf X M) H S tx x ∧ Reps (gdOf X M) H S ts xs ∧ f S tx ts = some t ∧ ∀ v H', StoOk (gdOf X M) H' S → Ext S H S H' → Rep (gdOf X M) H' S t v → Q v H'
def cM (k : T → Bool) (f : Sto → T → List T → Option T) (o : TTE) (a : TTA) : TTE := fun τ S Q E => o τ S (fun x S1 => k x = true ∧ a τ S1 (fun ys S2 => ∃ t, f S2 x ys = some t ∧ Q t S2) E) E
def isStr : T → Bool
  | .str _ => true
  | _ => false
def isTup : T → Bool
  | .tup _ => true
  | _ => false
theorem isStr_is {t : T} (h : isStr t = true) : ∃ x, t = .str x := by cases t <;> first | exact ⟨_, rfl⟩ | cases h
variable {o e : Expr} {es : List Expr} {to te : TTE} {ta : TTA} {id : String} {name : Str} {apos cpos : Pos} {f : Sto → T → List T → Option T}
theorem te_sm1 (slot : Slot "str" name id) (ty : typeOf (.builtin id) = pure (.type "method_descriptor")) (hm : MetT X id f) (ho : TE X o to) (he : TE X e te)
    (hs : starEach [e] X.env = [(false, eval e X.env)] := by rfl) (hbase : attributeBase o name X.env (eval o X.env) = eval o X.env := by rfl) (hline : (apos.endLine == cpos.line) = true := by rfl) :
    TE X (.Call (.Attribute o name apos) [e] [] cpos) (cM isStr f to (cCons te cNil)) := fun M S0 H0 E tk =>
  (pe_m1 slot ty hm (ho M S0 H0 E tk) (he M S0 H0 E tk) hs hbase hline).weak fun σ H Q ⟨τ, S, Qt, rel, h, k⟩ => ⟨τ, S, _, rel, h, fun zx S1 x H1 ⟨hk, h1⟩ o1 x1 r1 => by
    obtain ⟨y, rfl⟩ := isStr_is hk
    cases r1
    refine ⟨⟨_, rfl⟩, τ, S1, _, rel.step o1 x1, h1, fun zy S2 w H2 ⟨t, e, hq⟩ o2 x2 r2 => ⟨M, S2, _, [zy], t, o2, .str y, .cons r2 .nil, e, fun v H' o3 x3 r3 => k t S2 v H' hq o3 ((x1.trans x2).trans x3) r3⟩⟩⟩
def strsOf : List T → Option (List (List Sg))
  | [] => some []
  | .str x :: ts => (strsOf ts).map (x :: ·)
  | _ :: _ => none
theorem strsOf_is : ∀ {ts : List T} {xs : List (List Sg)}, strsOf ts = some xs → ts = xs.map T.str
  | [], xs, e => by
    obtain rfl := Option.some.inj e
    rfl
  | t :: ts, xs, e => by
    cases t with
    | str x =>
      obtain ⟨ys, h1, rfl⟩ := Option.map_eq_some_iff.mp (show (strsOf ts).map (x :: ·) = some xs from e)
      rw [strsOf_is h1]
      rfl
    | _ => cases e
theorem strsOf_map (xs : List (List Sg)) : strsOf (xs.map T.str) = some xs := by
  induction xs with
  | nil => rfl
  | cons x xs ih =>
    show (strsOf (xs.map T.str)).map (x :: ·) = _
    rw [ih]
    rfl
theorem reps_strs {G : Gd} {H : Hp} {S : Sto} : ∀ {xs : List (List Sg)} {vs : List V}, Reps G H S (xs.map T.str) vs → vs = (xs.map txt).map V.str
  | [], _, r => by cases r; rfl
  | x :: xs, _, r => by
    cases r with
    | cons a b =>
      cases a
      rw [reps_strs b]
      rfl
/-- joined -/
def jnL (a : List Sg) : List (List Sg) → List Sg
  | [] => []
  | x :: xs => x ++ (xs.map (a ++ ·)).flatten
theorem txt_join (a : List Sg) (xs : List (List Sg)) : Txt.join (txt a) (xs.map txt) = txt (jnL a xs) := by
  unfold Txt.join Builtin.Str.glued
  cases xs with
  | nil => rfl
  | cons x xs =>
    have h : ∀ (xs : List (List Sg)) (acc : Array Nat), (xs.map txt).foldl (fun acc p => acc ++ (txt a).cps ++ p.cps) acc = acc ++ (txt (xs.map (a ++ ·)).flatten).cps := by
      intro xs
      induction xs with
      | nil => intro acc; simp [txt]
      | cons y ys ih =>
        intro acc
        rw [List.map_cons, List.foldl_cons, ih]
        simp [txt]
    show (⟨(xs.map txt).foldl (fun acc p => acc ++ (txt a).cps ++ p.cps) (txt x).cps⟩ : Str) = _
    rw [h]
    simp [txt, jnL]
def joinSz (a : List Sg) (xs : List (List Sg)) : Bool := decide ((xs.map (·.length)).sum + xs.length * a.length ≤ 1000000)
def joinF (S : Sto) (o : T) (ys : List T) : Option T := match o, ys with
  | .str a, [y] => match res S y with
    | .lst ts => match strsOf ts with
      | some xs => if joinSz a xs = true then some (.str (jnL a xs)) else none
      | none => none
    | .tup ts => match strsOf ts with
      | some xs => if joinSz a xs = true then some (.str (jnL a xs)) else none
      | none => none
    | _ => none
  | _, _ => none
theorem mt_joinT : MetT X "str.join" joinF := by
  intro pins s σ H x xs v us Q I rx rs h
  obtain ⟨M, S, tx, ts, t, o, hx, hs, e, fin⟩ := h
  unfold joinF at e
  split at e
  · rename_i a y
    cases hx
    obtain ⟨w, rfl, ry⟩ := hs.one
    have key : ∀ {xs : List (List Sg)} {p : Addr}, joinSz a xs = true → (SqL X.K H p ((xs.map txt).map V.str) ∨ SqT X.K H p ((xs.map txt).map V.str)) → w = .ref p → t = .str (jnL a xs) → wpAny (model X.prog X.w) X.A (call (.builtin "str.join") (v :: us)) (EP X pins σ Q) X.xe s := by
      intro xs p hz hp hw ht
      subst hw ht
      refine mt_join pins s σ H _ _ v us Q I rx rs ⟨txt a, p, xs.map txt, rfl, rfl, hp, ?_, ?_⟩
      · have h1 := of_decide_eq_true hz
        have e1 : ((xs.map txt).map (·.length)).sum = (xs.map (·.length)).sum := by
          rw [List.map_map]
          congr 1
          apply List.map_congr_left
          intro x _
          exact txt_len x
        rw [e1, List.length_map, txt_len]
        omega
      · rw [txt_join]
        exact fin _ H o Ext.refl (.str _)
    split at e
    · rename_i zs hz
      split at e
      · rename_i xs hx
        split at e
        · rename_i hj
          obtain rfl := Option.some.inj e
          obtain ⟨p, ws, rfl, h1, h2⟩ := res_lst o ry hz
          have := strsOf_is hx
          subst this
          have := reps_strs h2
          subst this
          exact key hj (.inl (SqL.of h1)) rfl rfl
        · cases e
      · cases e
    · rename_i zs hz
      split at e
      · rename_i xs hx
        split at e
        · rename_i hj
          obtain rfl := Option.some.inj e
          obtain rfl := res_id hz fun _ z => nomatch z
          cases ry with
          | tup h1 h2 =>
            have := strsOf_is hx
            subst this
            have := reps_strs h2
            subst this
            exact key hj (.inr h1.sq) rfl rfl
        · cases e
      · cases e
    · cases e
  · cases e
def cChain (f g : Sto → T → T → Option T) (a b c : TTE) : TTE := fun τ S Q E => a τ S (fun x S1 => b τ S1 (fun y S2 => ∃ k, f S2 x y = some (.bl k) ∧ if k = true then c τ S2 (fun z S3 => ∃ w, g S3 y z = some w ∧ Q w S3) E else Q (.bl false) S2) E) E
variable {a b c : Expr} {tb tc : TTE} {pos : Pos}
end
end TL
namespace TL
open PySem PySem.Spec PyProof.Rows L2
/-- a def of the module by its name keeps its promise -/
def Okf (P : Program) (w : World) (K : PySem.W.Frag) (mg : Str → Option Value) (base : Heap) (k : Nat) (x : Str) (ps : List Str) (sp : SpT) : Prop :=
  ∃ fd, FnOk P w K mg base (L2N.CX P w) k (He.ga K x) fd ps (liftSp P K w sp) ∧ mg x = some (.ref (He.ga K x)) ∧ PySem.W.keepIn K (.ref (He.ga K x)) = true ∧ Binds K fd ps []
section
variable {X : Cx} {j k : Nat} {ps : List Str} {sp : SpT} {x : Str} {p pos : Pos} {e : Expr} {es : List Expr} {ta : TTA}
theorem te_callO (F : Okf X.prog X.w X.K X.mg X.base k x ps sp) (hr : Room j X.A) (hkj : k ≤ j) (hg : Gl X x) (ha : TA X (e :: es) ta) (hdb : (x == ("__debug__" : Str)) = false := by decide)
    (he : starEach (e :: es) X.env = (false, eval e X.env) :: starEach es X.env := by rfl) (hpl : (backTo pos (starEach es X.env)).any (·.1) = false := by rfl) : TE X (.Call (.Name x p) (e :: es) [] pos) (cCall sp ta) := by
  obtain ⟨fd, h1, h2, h3, h4⟩ := F
  exact te_call h1 (hr.mono hkj) hg h2 h3 h4 ha hdb he hpl
end
theorem u64 {k : Nat} {A : Around} (r : Room k A) : A.units + 64 < cLine := r.units
def sp1 (p : T → Sto → (T → Sto → Prop) → (T → Sto → Prop) → Prop) : SpT := fun ts S Q E => ∃ a, ts = [a] ∧ p a S Q E
def sp2 (p : T → T → Sto → (T → Sto → Prop) → (T → Sto → Prop) → Prop) : SpT := fun ts S Q E => ∃ a b, ts = [a, b] ∧ p a b S Q E
def sp3 (p : T → T → T → Sto → (T → Sto → Prop) → (T → Sto → Prop) → Prop) : SpT := fun ts S Q E => ∃ a b c, ts = [a, b, c] ∧ p a b c S Q E
def sp4 (p : T → T → T → T → Sto → (T → Sto → Prop) → (T → Sto → Prop) → Prop) : SpT := fun ts S Q E => ∃ a b c d, ts = [a, b, c, d] ∧ p a b c d S Q E
def sp5 (p : T → T → T → T → T → Sto → (T → Sto → Prop) → (T → Sto → Prop) → Prop) : SpT := fun ts S Q E => ∃ a b c d e, ts = [a, b, c, d, e] ∧ p a b c d e S Q E
/-- what is to be shown of a def's tree -/
def VC (N : List Str) (sp : SpT) (c : TTS) : Prop := ∀ ts S Q E, sp ts S Q E → c { nx := fun _ S' => Fin Q .non S', rt := Fin Q } (startT N ts) S (fun x _ S' => FinX E x S')
end TL
namespace TL
open PySem PySem.Spec PyProof.Rows L2
section
variable {S : Sto} {i j : Int} {x y : List Sg} {xs ys ts : List T} {a b : T} {p : Addr}
theorem ex_ite {α : Type} {c : Prop} [Decidable c] {v : α} {P : α → Prop} : (∃ z, (if c then some v else none) = some z ∧ P z) ↔ c ∧ P v := by
  constructor
  · rintro ⟨z, e, h⟩
    split at e
    · cases e; exact ⟨by assumption, h⟩
    · cases e
  · rintro ⟨h1, h2⟩
    exact ⟨v, if_pos h1, h2⟩
theorem addT_int : addT S (.int i) (.int j) = some (.int (i + j)) := rfl
theorem addT_str : addT S (.str x) (.str y) = if x.length + y.length ≤ sizeLine then some (.str (x ++ y)) else none := rfl
theorem addT_lst : addT S (.lst xs) (.lst ys) = if xs.length + ys.length ≤ sizeLine then some (.lst (xs ++ ys)) else none := rfl
theorem addT_tup : addT S (.tup xs) (.tup ys) = if xs.length + ys.length ≤ sizeLine then some (.tup (xs ++ ys)) else none := rfl
theorem subT_int : subT S (.int i) (.int j) = some (.int (i - j)) := rfl
theorem mulT2_int : mulT2 S (.int i) (.int j) = if mulI i j = true then some (.int (i * j)) else none := rfl
theorem mulT2_str : mulT2 S (.str x) (.int j) = if mulS x j = true then some (.str (repS j.toNat x)) else none := rfl
theorem fdivT_int : fdivT S (.int i) (.int j) = if divI i j = true then some (.int (i.fdiv j)) else none := rfl
theorem modT_int : modT S (.int i) (.int j) = if modI i j = true then some (.int (i.fmod j)) else none := rfl
theorem powT_int : powT S (.int i) (.int j) = if powI i j = true then some (.int (i ^ j.toNat)) else none := rfl
theorem negT_int : negT S (.int i) = some (.int (-i)) := rfl
theorem okd_str : okd (.str x) = true := rfl
theorem eqT_int : eqT S (.int i) (.int j) = some (.bl (decide (i = j))) := rfl
theorem neT_int : neT S (.int i) (.int j) = some (.bl (!decide (i = j))) := rfl
theorem eqT_str : eqT S (.str x) (.str y) = some (.bl (decide (x = y))) := rfl
theorem neT_str : neT S (.str x) (.str y) = some (.bl (!decide (x = y))) := rfl
theorem eqT_bl {k l : Bool} : eqT S (.bl k) (.bl l) = some (.bl (k == l)) := rfl
theorem neT_bl {k l : Bool} : neT S (.bl k) (.bl l) = some (.bl (!(k == l))) := rfl
theorem ltT_int : ltT S (.int i) (.int j) = some (.bl (decide (i < j))) := by simp [ltT, cmpOk, okd, plain, dep, alk, ltt]
theorem gtT_int : gtT S (.int i) (.int j) = some (.bl (decide (j < i))) := by simp [gtT, cmpOk, okd, plain, dep, alk, ltt]
theorem leT_int : leT S (.int i) (.int j) = some (.bl (decide (i ≤ j))) := by
  simp only [leT, cmpOk, okd, plain, dep, alk, ltt, Bool.and_true, Nat.zero_le, decide_true, if_true, Option.some.injEq, T.bl.injEq]
  by_cases h : i ≤ j
  · rw [decide_eq_true h, decide_eq_false (by omega)]; rfl
  · rw [decide_eq_false h, decide_eq_true (by omega)]; rfl
theorem geT_int : geT S (.int i) (.int j) = some (.bl (decide (j ≤ i))) := by
  simp only [geT, cmpOk, okd, plain, dep, alk, ltt, Bool.and_true, Nat.zero_le, decide_true, if_true, Option.some.injEq, T.bl.injEq]
  by_cases h : j ≤ i
  · rw [decide_eq_true h, decide_eq_false (by omega)]; rfl
  · rw [decide_eq_false h, decide_eq_true (by omega)]; rfl
theorem ixT_lst : ixT S (.lst xs) (.int i) = L2.atI xs i := rfl
theorem ixT_tup : ixT S (.tup xs) (.int i) = L2.atI xs i := rfl
theorem ixT_str : ixT S (.str x) (.int i) = if x.length ≤ sizeLine then (L2.atI x i).map fun c => .str [c] else none := rfl
theorem res_ref {ts : List T} (h : S p = some (.lst ts)) : res S (.ref p) = .lst ts := by simp only [res, h]
theorem ixT_ref (h : S p = some (.lst xs)) : ixT S (.ref p) (.int i) = L2.atI xs i := by simp only [ixT, res_ref h]
theorem atI_natE {α : Type} {xs : List α} {n : Nat} : L2.atI xs (n : Int) = xs[n]? := by
  unfold L2.atI ixN
  by_cases h : n < xs.length
  · have : ((n : Int) < (xs.length : Int)) := by omega
    simp [h, this]
  · have h2 : ¬ ((n : Int) < (xs.length : Int)) := by omega
    simp [h, h2]
theorem atI_0 {α : Type} {u : α} {xs : List α} : L2.atI (u :: xs) 0 = some u := atI_natE (n := 0)
theorem atI_1 {α : Type} {u v : α} {xs : List α} : L2.atI (u :: v :: xs) 1 = some v := atI_natE (n := 1)
theorem atI_2 {α : Type} {u v w : α} {xs : List α} : L2.atI (u :: v :: w :: xs) 2 = some w := atI_natE (n := 2)
theorem atI_3 {α : Type} {u v w z : α} {xs : List α} : L2.atI (u :: v :: w :: z :: xs) 3 = some z := atI_natE (n := 3)
theorem ixT_ups {i : Int} : ixT (ups S p (.lst xs)) (.ref p) (.int i) = L2.atI xs i := ixT_ref ups_same
theorem ixN_30 : ixN 3 0 = some 0 := rfl
theorem ixN_31 : ixN 3 1 = some 1 := rfl
theorem ixN_32 : ixN 3 2 = some 2 := rfl
theorem lenF_lst : lenF S [.lst xs] = some (.int xs.length) := rfl
theorem lenF_tup : lenF S [.tup xs] = some (.int xs.length) := rfl
theorem lenF_str : lenF S [.str x] = if x.length ≤ sizeLine then some (.int x.length) else none := rfl
theorem lenF_ref (h : S p = some (.lst xs)) : lenF S [.ref p] = some (.int xs.length) := by simp only [lenF, res_ref h]
theorem lenF_ups : lenF (ups S p (.lst xs)) [.ref p] = some (.int xs.length) := lenF_ref ups_same
theorem absF_int : absF S [.int i] = some (.int (if i < 0 then -i else i)) := rfl
theorem intF_int : intF S [.int i] = some (.int i) := rfl
theorem intF_bl {k : Bool} : intF S [.bl k] = some (.int (if k = true then 1 else 0)) := rfl
theorem max2F_int : max2F S [.int i, .int j] = some (.int (if j > i then j else i)) := rfl
theorem min2F_int : min2F S [.int i, .int j] = some (.int (if j < i then j else i)) := rfl
theorem strF_int : strF S [.int i] = if i.natAbs.log2 < 1000 then some (.str (strI i)) else none := rfl
theorem isi_str {ks : List Kd} : isiT ks S (.str x) = some (.bl (ks.any fun c => Kd.is .str c)) := rfl
theorem isi_int {ks : List Kd} : isiT ks S (.int i) = some (.bl (ks.any fun c => Kd.is .int c)) := rfl
theorem isi_tup {ks : List Kd} : isiT ks S (.tup xs) = some (.bl (ks.any fun c => Kd.is .tup c)) := rfl
theorem isi_lst {ks : List Kd} : isiT ks S (.lst xs) = some (.bl (ks.any fun c => Kd.is .lst c)) := rfl
theorem slT_lst {lo hi : Option Int} : slT S (.lst xs) lo hi = some (.lst (cutT xs lo hi)) := rfl
theorem slT_tup {lo hi : Option Int} : slT S (.tup xs) lo hi = some (.tup (cutT xs lo hi)) := rfl
theorem slT_str {lo hi : Option Int} : slT S (.str x) lo hi = if x.length ≤ sizeLine then some (.str (cutT x lo hi)) else none := rfl
theorem slT_scr {ns : List Int} {lo hi : Option Int} : slT S (.scr ns) lo hi = some (.lst ((cutT ns lo hi).map T.int)) := rfl
theorem ups_ups {c d : Cell} : ups (ups S p c) p d = ups S p d := by
  funext b
  unfold ups
  split <;> rfl
theorem ups_eq {c : Cell} (h : S p = some c) : ups S p c = S := by
  funext b
  unfold ups
  split
  · rename_i e; subst e; exact h.symm
  · rfl
end
theorem sp1_at {p : T → Sto → (T → Sto → Prop) → (T → Sto → Prop) → Prop} {a : T} {S : Sto} {Q E : T → Sto → Prop} : sp1 p [a] S Q E = p a S Q E := by
  apply propext
  exact ⟨fun ⟨x, e, h⟩ => by cases e; exact h, fun h => ⟨_, rfl, h⟩⟩
theorem sp2_at {p : T → T → Sto → (T → Sto → Prop) → (T → Sto → Prop) → Prop} {a b : T} {S : Sto} {Q E : T → Sto → Prop} : sp2 p [a, b] S Q E = p a b S Q E := by
  apply propext
  exact ⟨fun ⟨x, y, e, h⟩ => by cases e; exact h, fun h => ⟨_, _, rfl, h⟩⟩
theorem sp3_at {p : T → T → T → Sto → (T → Sto → Prop) → (T → Sto → Prop) → Prop} {a b c : T} {S : Sto} {Q E : T → Sto → Prop} : sp3 p [a, b, c] S Q E = p a b c S Q E := by
  apply propext
  exact ⟨fun ⟨x, y, z, e, h⟩ => by cases e; exact h, fun h => ⟨_, _, _, rfl, h⟩⟩
theorem sp4_at {p : T → T → T → T → Sto → (T → Sto → Prop) → (T → Sto → Prop) → Prop} {a b c d : T} {S : Sto} {Q E : T → Sto → Prop} : sp4 p [a, b, c, d] S Q E = p a b c d S Q E := by
  apply propext
  exact ⟨fun ⟨x, y, z, w, e, h⟩ => by cases e; exact h, fun h => ⟨_, _, _, _, rfl, h⟩⟩
theorem sp5_at {p : T → T → T → T → T → Sto → (T → Sto → Prop) → (T → Sto → Prop) → Prop} {a b c d e : T} {S : Sto} {Q E : T → Sto → Prop} : sp5 p [a, b, c, d, e] S Q E = p a b c d e S Q E := by
  apply propext
  exact ⟨fun ⟨x, y, z, w, u, e, h⟩ => by cases e; exact h, fun h => ⟨_, _, _, _, _, rfl, h⟩⟩

theorem log2_lt {n k : Nat} (h : n < 2 ^ k) (hk : 0 < k) : n.log2 < k := by
  by_cases h0 : n = 0
  · subst h0; simpa using hk
  · exact (Nat.log2_lt h0).mpr h
theorem cut_le {α : Type} (xs : List α) (lo : Option Int) (k : Int) (hk : 0 ≤ k) : (cutT xs lo (some k)).length ≤ k.toNat := by
  obtain ⟨n, rfl⟩ := Int.eq_ofNat_of_zero_le hk
  unfold cutT
  rw [HT.sIx_nat, List.length_take, Int.toNat_natCast]
  omega
/-- nothing is changed: a filter and a map -/
theorem compT_pure {g : TTG} {c : TTB} {e : TTE} {own : List Nat} {gd : Sto → Prop} {τ : TEnv} {K : List T → Sto → Prop} (p : T → Bool) (f : T → T) {S : Sto} (hgd : gd S) : ∀ (xs acc : List T), acc.length + xs.length ≤ sizeLine → K (acc ++ (xs.filter p).map f) S →
    (∀ x ∈ xs, ∀ (R : T → Sto → Prop) (N : Sto → Prop), (p x = true → R (f x) S) → (p x = false → N S) → g x (wipeT τ own) S fun τ1 S1 => c τ1 S1 (fun k S2 => if k = true then e τ1 S2 R (fun _ _ => False) else N S2) (fun _ _ => False)) →
    compT g c e own gd τ K xs acc S
  | [], acc, _, h, _ => ⟨hgd, by simpa using h⟩
  | x :: xs, acc, hl, h, hs => by
    rw [List.length_cons] at hl
    refine ⟨hgd, hs x List.mem_cons_self _ _ (fun hp => ⟨by omega, ?_⟩) fun hp => ?_⟩
    · refine compT_pure p f hgd xs _ (by rw [List.length_append]; simp; omega) ?_ fun y hy => hs y (List.mem_cons_of_mem _ hy)
      rw [List.filter_cons_of_pos hp] at h
      simpa using h
    · refine compT_pure p f hgd xs _ (by omega) ?_ fun y hy => hs y (List.mem_cons_of_mem _ hy)
      rwa [List.filter_cons_of_neg (by simp [hp])] at h
/-- nothing is changed: a map -/
theorem compT_map {g : TTG} {c : TTB} {e : TTE} {own : List Nat} {gd : Sto → Prop} {τ : TEnv} {K : List T → Sto → Prop} (f : T → T) {S : Sto} {xs : List T} (hgd : gd S) (hl : xs.length ≤ sizeLine) (hk : K (xs.map f) S)
    (hs : ∀ x ∈ xs, ∀ (R : T → Sto → Prop) (N : Sto → Prop), R (f x) S → g x (wipeT τ own) S fun τ1 S1 => c τ1 S1 (fun k S2 => if k = true then e τ1 S2 R (fun _ _ => False) else N S2) (fun _ _ => False)) : compT g c e own gd τ K xs [] S :=
  compT_pure (fun _ => true) f hgd xs [] (by simpa using hl) (by rw [List.filter_eq_self.mpr (fun _ _ => rfl)]; simpa using hk) fun x hx R N h _ => hs x hx R N (h rfl)

/-- more than enough -/
abbrev big : Nat := 1000000000000000000000000000000
/-- a pen that was drawn from n times at most -/
def PenC (n : Nat) (c : Cell) : Prop := ∃ (ns : List Int) (at_ rest : Int), c = .lst [.lst (ns.map T.int), .int at_, .int rest] ∧ 0 ≤ at_ ∧ at_ ≤ n ∧ 0 ≤ rest ∧ ns.length ≤ 63
theorem PenC.mono {m n : Nat} {c : Cell} (h : PenC m c) (k : m ≤ n) : PenC n c := by
  obtain ⟨ns, at_, rest, e, h1, h2, h3, h4⟩ := h
  exact ⟨ns, at_, rest, e, h1, by omega, h3, h4⟩
theorem mulI_b {i j : Int} (h1 : i.natAbs < 2 ^ 250) (h2 : j.natAbs < 2 ^ 250) : mulI i j = true := by
  unfold mulI
  have a := log2_lt h1 (by decide)
  have b := log2_lt h2 (by decide)
  exact decide_eq_true (by omega)
theorem divI_b {i j : Int} (h1 : 0 < j) (h2 : j < 1000000000000000000000000000001) : divI i j = true := by
  unfold divI
  rw [decide_eq_true (by omega), decide_eq_true (Nat.lt_trans (log2_lt (k := 250) (by omega) (by decide)) (by decide))]
  rfl
theorem modI_b {i j : Int} (h1 : 0 < j) : modI i j = true := by
  unfold modI
  exact decide_eq_true (by omega)
theorem fmod_lo {i j : Int} (h : 0 < j) : 0 ≤ i.fmod j := Int.fmod_nonneg_of_pos i h
theorem fmod_hi {i j : Int} (h : 0 < j) : i.fmod j < j := Int.fmod_lt_of_pos i h
theorem fdiv_lo {i j : Int} (h0 : 0 ≤ i) (h : 0 < j) : 0 ≤ i.fdiv j := Int.fdiv_nonneg h0 (by omega)
end TL
namespace TL
open PySem PySem.Spec PyProof.Rows L2
theorem law_start {P : Program} {K : PySem.W.Frag} {w : World} {sp : SpT} {H : Hp} {a : Addr} {ns : List Int} (h : sp [.scr ns] (fun _ => none) (fun z _ => z = .bl true) fun _ _ => False) (hO : Only H) (hS : SqL K H a (ns.map V.int)) :
    liftSp P K w sp [.ref a] H (fun v _ => v = .bl true) fun _ _ _ => False := by
  refine ⟨fun _ => False, [T.scr ns], fun _ => none, fun z _ => z = T.bl true, fun _ _ => False, .cons (.scr ?_) .nil, ⟨fun a c e => (nomatch e), fun _ m => False.elim m, fun _ m => False.elim m⟩, h, fun z S' v H' e _ _ r => ?_, fun x S' cls d H' q => False.elim q⟩
  · rcases hS with (hS | ⟨o, hS⟩) | hS
    · rcases hO a with z | ⟨o, xs, z⟩ <;> rw [z] at hS <;> cases hS
    · exact .inl ⟨o, hS, rfl, fun z => z⟩
    · exact .inr hS
  · subst e
    cases r
    rfl
theorem cx_none {P : Program} {w : World} {H : Hp} {s : Shared} {e : Value} {s' : Shared} (h : L2N.CX P w [] H s (fun _ _ _ => False) e s') : False := by
  obtain ⟨_, _, _, _, _, _, _, _, _, _, _, _, z⟩ := h
  exact z
/-- the law's def keeps its promise: the law holds -/
theorem walk_tl {l : PySem.W.OpenLaw} {k : Nat} {q : Program} {loose : List Str} {XP : (Str → Option Value) → Heap → Prop} {YP : World → Heap → Prop} {d : DefRec} {x y : Str} {sp : SpT}
    (hn : l.most = some 63) (hdf : d.params.defaults = []) (hr : Room k callerA) (hd : d.name = y) (hs : ∀ ns : List Int, ns.length ≤ 63 → sp [.scr ns] (fun _ => none) (fun z _ => z = .bl true) fun _ _ => False)
    (F : ∀ (w : World) (mg : Str → Option Value) (h : Heap), YP w h → h.Ns mainGlobals mg → ∃ K : PySem.W.Frag, K.In h ∧ mg y = some (.ref (He.ga K y)) ∧
      ∃ fd : FuncData, (∀ (s : Shared) (u : Value), BindsTo s fd ⟨[u], []⟩ [(x, u)]) ∧ ∀ base : Heap, K.In base → base.Ns mainGlobals mg → FnOk l.prog w K mg base (L2N.CX l.prog w) k (He.ga K y) fd [x] (liftSp l.prog K w sp)) :
    PySem.W.WalkO q loose XP YP l.row.toRowW d [] (fun f vs => PySem.call f vs) := by
  subst hd
  refine Att.attach_call hn hdf fun w s₀ s₁ mg mb fa o pm cd doc a vs ns G Y ho hd hcd hmg hobj hints hlen hg => ?_
  obtain ⟨K, KX, hm, fd, hb, hF⟩ := F w mg _ Y G.T.g
  cases hmg.symm.trans hm
  exact law_call KX G.T.g G.T.b G.T.builtins G.T.nolimit hg hobj hints (Nat.le_trans hlen (by decide)) hr hF hb (fun H hO hS => law_start (hs ns hlen) hO hS) fun H e s' => cx_none
/-- a row of facts, one by its place -/
theorem all_at {bs : List Bool} (h : bs.all id = true) (i : Nat) {b : Bool} (e : bs[i]? = some b := by rfl) : b = true := List.all_eq_true.mp h b (List.mem_of_getElem? e)
/-- a def's promise, its binding for a law's call -/
theorem law_def {K : PySem.W.Frag} {x y : Str} {qual : Str} {params : Arguments} {body : List Stmt} {scope : Scope} {fd : FuncData} (F : FunD K y qual params body scope [] [] (He.ga K y) fd)
    (h : ∀ (kV doc pm : Value) (an : Option Addr) (cdv ct : Value) (us : List Value), us.length = 1 → bindArgs (PySem.W.fnOf y qual params body scope .none kV doc pm an cdv ct) ⟨us, []⟩ = pure (([x] : List Str).zip us)) (s : Shared) (u : Value) : BindsTo s fd ⟨[u], []⟩ [(x, u)] :=
  (FunD.bindsA (ps := [x]) F h) s [u] rfl
end TL
namespace TL
open PySem PySem.Spec PyProof.Rows L2
section
variable {P : Program} {w : World}
/-- is of no class statement, n deep -/
def NoCls (P : Program) (w : World) (n : Nat) (s : Shared) (v : Value) : Prop := ∀ (A : Around) (E : Value → Shared → Prop) (Q : Bool → Shared → Prop), Q false s → wpAny (model P w) A (ofAClassStatement n v) Q E s
/-- the question of the hash is answered, somehow -/
def HashBy (P : Program) (w : World) (n : Nat) (s : Shared) (v : Value) : Prop := ∀ (A : Around) (E : Value → Shared → Prop) (Q : Bool → Shared → Prop), (∀ b, Q b s) → wpAny (model P w) A (hashByValue n v) Q E s
theorem NoCls.row {n : Nat} {s : Shared} {b : Addr} {o : Obj} {us : Array Value} {m : Nat} (h1 : s.heap.get? b = some o) (h2 : o.cls = .type "tuple") (h3 : o.data = .seq us m) (hq : ∀ u ∈ us.toList, NoCls P w n s u) : NoCls P w (n + 1) s (.ref b) := fun A E Q h => by
  have ty : s.TypeIs (.ref b) "tuple" := ⟨o, h1, h2⟩
  have same : (("tuple" : String) == "tuple") = true := by decide
  unfold ofAClassStatement
  refine wpAny_bind (wpAny_typeOf ty ?_)
  simp only [same, if_true]
  first | refine wpAny_bind (wpAny_pure ?_) | skip
  simp only [Bool.not_true, Bool.false_eq_true, if_false]
  refine wpAny_bind (wpAny_seqItems h1 h3 ?_)
  refine wpAny_bind ?_
  show wpAny _ _ (forIn us _ _) _ _ s
  rw [← Array.forIn_toList]
  refine wpAny_forIn_list _ (fun more z s' => z.1 = none ∧ s' = s ∧ ∀ u ∈ more, NoCls P w n s u) _ ?_ ?_ _ _ ⟨rfl, rfl, hq⟩
  · rintro u more z s' ⟨hz, rfl, all⟩
    refine wpAny_bind (all u List.mem_cons_self _ _ _ ?_)
    simp only [Bool.false_eq_true, if_false]
    exact wpAny_pure ⟨rfl, rfl, fun y hy => all y (List.mem_cons_of_mem _ hy)⟩
  · rintro ⟨z1, z2⟩ s' ⟨hz, rfl, _⟩
    obtain rfl : z1 = none := hz
    exact wpAny_pure h
theorem HashBy.row {n : Nat} {s : Shared} {b : Addr} {o : Obj} {us : Array Value} {m : Nat} (h1 : s.heap.get? b = some o) (h2 : o.cls = .type "tuple") (h3 : o.data = .seq us m) (hq : ∀ u ∈ us.toList, HashBy P w n s u) : HashBy P w (n + 1) s (.ref b) := fun A E Q h => by
  have ty : s.TypeIs (.ref b) "tuple" := ⟨o, h1, h2⟩
  unfold hashByValue
  refine wpAny_bind (wpAny_specialOf ty F.slot_tuple_hash.lookup ?_)
  show wpAny _ _ (seqItems? (.ref b) >>= _) _ _ s
  refine wpAny_bind (wpAny_seqItems h1 h3 ?_)
  refine wpAny_bind ?_
  show wpAny _ _ (forIn us _ _) _ _ s
  rw [← Array.forIn_toList]
  refine wpAny_forIn_list _ (fun more z s' => z.1 = none ∧ s' = s ∧ ∀ u ∈ more, HashBy P w n s u) _ ?_ ?_ _ _ ⟨rfl, rfl, hq⟩
  · rintro u more z s' ⟨hz, rfl, all⟩
    refine wpAny_bind (all u List.mem_cons_self _ _ _ fun c => ?_)
    cases c with
    | true =>
      simp only [Bool.not_true, Bool.false_eq_true, if_false]
      exact wpAny_pure ⟨rfl, rfl, fun y hy => all y (List.mem_cons_of_mem _ hy)⟩
    | false =>
      simp only [Bool.not_false, if_true]
      exact wpAny_pure (wpAny_pure (h false))
  · rintro ⟨z1, z2⟩ s' ⟨hz, rfl, _⟩
    obtain rfl : z1 = none := hz
    exact wpAny_pure (h true)
/-- an element: the tuple at the address is this key -/
def El (h : Heap) (p : NestedKey × Addr) : Prop := NestedIs h p.1 (.ref p.2) ∧ p.1.depth ≤ 8
theorem El.at {h h' : Heap} {p : NestedKey × Addr} (x : El h p) (hk : ∀ b o us n, h.get? b = some o → o.data = .seq us n → h'.get? b = some o) : El h' p := ⟨NestedIs.at hk _ _ x.1, x.2⟩
theorem El.but {h h' : Heap} {p : NestedKey × Addr} {a : Addr} {o : Obj} {es : Array (Int × Value)} {ep : Nat} {t : SetTable} (x : El h p) (h1 : h.get? a = some o) (h2 : o.data = .set es ep t) (sb : Heap.SameBut a h h') : El h' p :=
  x.at fun b u us n g1 g2 => (sb.2 b fun e => by subst e; rw [h1] at g1; cases g1; rw [h2] at g2; cases g2).trans g1
abbrev hw (w : World) (p : NestedKey × Addr) : Int := p.1.hash w
def rowS (w : World) (L : List (NestedKey × Addr)) : List (Int × Value) := L.map fun p => (hw w p, Value.ref p.2)
structure TabS (w : World) (h : Heap) (a : Addr) (L : List (NestedKey × Addr)) (es : Array (Int × Value)) (ep : Nat) (t : SetTable) : Prop where
  obj : ∃ o, h.get? a = some o ∧ o.ExactSet ∧ o.data = .set es ep t
  row : es.toList = rowS w L
  tab : TabOk t (L.map (hw w))
  ndp : (L.map (·.1)).Nodup
  els : ∀ p ∈ L, El h p
  led : w.params.followText "set-order" = true ∨ t.led = true
  gap : L.length * 5 < t.mask * 3
  few : L.length < 64
section
variable {h : Heap} {a : Addr} {L : List (NestedKey × Addr)} {es : Array (Int × Value)} {ep : Nat} {t : SetTable}
theorem row_len (e : es.toList = rowS w L) : es.size = L.length := by
  have := congrArg List.length e
  rwa [rowS, Array.length_toList, List.length_map] at this
theorem TabS.fits (R : TabS w h a L es ep t) : t.fits es.size = true := by
  have z1 := R.tab.sz
  have z2 := row_len R.row
  have z3 := R.gap
  rw [List.length_map] at z1
  simp only [SetTable.fits, SetTable.fill, R.tab.dm, Bool.and_eq_true, beq_iff_eq, decide_eq_true_eq]
  exact ⟨by omega, by simp; omega⟩
end
/-- the c-th step of a hash's way -/
abbrev pr (m : Nat) (x : Int) (c : Nat) : SetTable.Probe := nth m (runAt m (SetTable.bits x % (m + 1)) (SetTable.bits x)) c
section
variable {A : Around} {E : Value → Shared → Prop} {s : Shared} {a : Addr} {L : List (NestedKey × Addr)} {es : Array (Int × Value)} {ep : Nat} {t : SetTable} {p : NestedKey × Addr}
end
end
end TL
namespace TL
open PySem PySem.Spec PyProof.Rows L2
section
variable {P : Program} {w : World} {A : Around} {E : Value → Shared → Prop} {s : Shared}
abbrev mk (P : Program) (w : World) := mixKind P w
def rowK (P : Program) (w : World) (p : Key × Value) : Int × Value := ((mk P w).hash p.1, p.2)
def Sc (P : Program) (w : World) (p : Key × Value) : Prop := (mk P w).is p.1 p.2 = true ∧ p.2.scannable = true
structure ScanS (P : Program) (w : World) (h : Heap) (a : Addr) (L : List (Key × Value)) (es : Array (Int × Value)) (ep : Nat) (t : SetTable) : Prop where
  obj : ∃ o, h.get? a = some o ∧ o.ExactSet ∧ o.data = .set es ep t
  row : es.toList = L.map (rowK P w)
  els : ∀ p ∈ L, Sc P w p
  ndp : (L.map (·.1)).Nodup
  few : L.length < scanBound
  fits : t.fits es.size = true
  ris : Ris t.place.toList
  led : w.params.followText "set-order" = true ∨ t.led = true
variable {a : Addr} {L : List (Key × Value)} {es : Array (Int × Value)} {ep : Nat} {t : SetTable} {p : Key × Value}
end
end TL
namespace TL
open PySem PySem.Spec PyProof.Rows L2
section
variable {P : Program} {w : World} {A : Around} {E : Value → Shared → Prop} {s : Shared}
/-- how a set at S is filled: Bag i h: it holds the first i things; h0: what stays -/
structure Fills (P : Program) (w : World) (U : Nat) (S : Addr) (h0 : Heap) (n : Nat) (Pv : Nat → Value → Prop) (Bag : Nat → Heap → Prop) : Prop where
  keep : ∀ i h h', Bag i h → (∀ o, h.get? S = some o → h'.get? S = some o) → (∀ b o, h0.get? b = some o → h'.get? b = some o) → Bag i h'
  step : ∀ (A : Around) (i : Nat) (v : Value) (s : Shared) (Q : Bool → Shared → Prop) (E : Value → Shared → Prop), A.units ≤ U → i < n → Pv i v → Bag i s.heap → (∀ b o, h0.get? b = some o → s.heap.get? b = some o) →
    (∀ b h' tk, s.toks ≤ tk → Heap.SameBut S s.heap h' → Bag (i + 1) h' → Q b { s with heap := h', toks := tk }) → wpAny (model P w) A (setAdd S v) Q E s
end
end TL
namespace TL
open PySem PySem.Spec PyProof.Rows L2
mutual
def kx : T → Bool
  | .int _ => true
  | .str _ => true
  | .tup ts => kxs ts
  | _ => false
def kxs : List T → Bool
  | [] => true
  | t :: ts => kx t && kxs ts
end
mutual
theorem kx_plain : ∀ t : T, kx t = true → plain t = true
  | .int _, _ => rfl
  | .str _, _ => rfl
  | .tup ts, h => kxs_plain ts h
  | .non, h => by cases h
  | .bl _, h => by cases h
  | .lst _, h => by cases h
  | .ref _, h => by cases h
  | .exc _ _ _, h => by cases h
  | .dct _ _ _, h => by cases h
  | .obj _ _ _, h => by cases h
  | .fn _, h => by cases h
  | .scr _, h => by cases h
theorem kxs_plain : ∀ ts : List T, kxs ts = true → plains ts = true
  | [], _ => rfl
  | t :: ts, h => by
    simp only [kxs, Bool.and_eq_true] at h
    simp only [plains, Bool.and_eq_true]
    exact ⟨kx_plain t h.1, kxs_plain ts h.2⟩
end
mutual
theorem eqt_kx : ∀ x y : T, kx x = true → kx y = true → (eqt x y = true ↔ x = y)
  | .int i, y, _, hy => by
    cases y with
    | int j => simp [eqt]
    | str z => simp [eqt]
    | tup z => simp [eqt]
    | _ => cases hy
  | .str i, y, _, hy => by
    cases y with
    | str j => simp [eqt]
    | int z => simp [eqt]
    | tup z => simp [eqt]
    | _ => cases hy
  | .tup xs, y, hx, hy => by
    cases y with
    | tup ys =>
      simp only [eqt, T.tup.injEq]
      exact eqts_kx xs ys hx hy
    | int z => simp [eqt]
    | str z => simp [eqt]
    | _ => cases hy
  | .non, _, h, _ => by cases h
  | .bl _, _, h, _ => by cases h
  | .lst _, _, h, _ => by cases h
  | .ref _, _, h, _ => by cases h
  | .exc _ _ _, _, h, _ => by cases h
  | .dct _ _ _, _, h, _ => by cases h
  | .obj _ _ _, _, h, _ => by cases h
  | .fn _, _, h, _ => by cases h
  | .scr _, _, h, _ => by cases h
theorem eqts_kx : ∀ xs ys : List T, kxs xs = true → kxs ys = true → (eqts xs ys = true ↔ xs = ys)
  | [], [], _, _ => by simp [eqts]
  | [], _ :: _, _, _ => by simp [eqts]
  | _ :: _, [], _, _ => by simp [eqts]
  | x :: xs, y :: ys, hx, hy => by
    simp only [kxs, Bool.and_eq_true] at hx hy
    simp only [eqts, Bool.and_eq_true, List.cons.injEq]
    rw [eqt_kx x y hx.1 hy.1, eqts_kx xs ys hx.2 hy.2]
end
theorem strLt_total {x y : List Sg} (h1 : strLt x y = false) (h2 : strLt y x = false) : x = y := by
  simp only [strLt, decide_eq_false_iff_not] at h1 h2
  exact map_val_inj (List.le_antisymm (List.not_lt.mp h2) (List.not_lt.mp h1))
mutual
theorem ltt_total : ∀ x y : T, kx x = true → kx y = true → alk x y = true → ltt x y = false → ltt y x = false → x = y
  | .int i, y, _, hy, ha, h1, h2 => by
    cases y with
    | int j =>
      simp only [ltt, decide_eq_false_iff_not] at h1 h2
      have : i = j := by omega
      rw [this]
    | str z => simp [alk] at ha
    | tup z => simp [alk] at ha
    | _ => cases hy
  | .str i, y, _, hy, ha, h1, h2 => by
    cases y with
    | str j => rw [strLt_total h1 h2]
    | int z => simp [alk] at ha
    | tup z => simp [alk] at ha
    | _ => cases hy
  | .tup xs, y, hx, hy, ha, h1, h2 => by
    cases y with
    | tup ys => rw [ltts_total xs ys hx hy (by simpa [alk] using ha) h1 h2]
    | int z => simp [alk] at ha
    | str z => simp [alk] at ha
    | _ => cases hy
  | .non, _, h, _, _, _, _ => by cases h
  | .bl _, _, h, _, _, _, _ => by cases h
  | .lst _, _, h, _, _, _, _ => by cases h
  | .ref _, _, h, _, _, _, _ => by cases h
  | .exc _ _ _, _, h, _, _, _, _ => by cases h
  | .dct _ _ _, _, h, _, _, _, _ => by cases h
  | .obj _ _ _, _, h, _, _, _, _ => by cases h
  | .fn _, _, h, _, _, _, _ => by cases h
  | .scr _, _, h, _, _, _, _ => by cases h
theorem ltts_total : ∀ xs ys : List T, kxs xs = true → kxs ys = true → alks xs ys = true → ltts xs ys = false → ltts ys xs = false → xs = ys
  | [], [], _, _, _, _, _ => rfl
  | [], _ :: _, _, _, _, h, _ => by simp [ltts] at h
  | _ :: _, [], _, _, _, _, h => by simp [ltts] at h
  | x :: xs, y :: ys, hx, hy, ha, h1, h2 => by
    simp only [kxs, Bool.and_eq_true] at hx hy
    simp only [alks, Bool.and_eq_true] at ha
    rw [ltts_eq] at h1 h2
    by_cases e : x = y
    · subst e
      have r := (eqt_kx x x hx.1 hx.1).mpr rfl
      rw [if_pos r] at h1 h2
      rw [ltts_total xs ys hx.2 hy.2 ha.2 h1 h2]
    · have n1 : ¬ eqt x y = true := fun z => e ((eqt_kx x y hx.1 hy.1).mp z)
      have n2 : ¬ eqt y x = true := fun z => e ((eqt_kx y x hy.1 hx.1).mp z).symm
      rw [if_neg n1] at h1
      rw [if_neg n2] at h2
      exact absurd (ltt_total x y hx.1 hy.1 ha.1 h1 h2) e
end
def dedupT : List T → List T
  | [] => []
  | t :: ts => if (dedupT ts).any (eqt t) = true then dedupT ts else t :: dedupT ts
theorem kxs_all : ∀ {ts : List T}, kxs ts = true ↔ ∀ t ∈ ts, kx t = true
  | [] => by simp [kxs]
  | t :: ts => by simp [kxs, kxs_all (ts := ts)]
/-- sorted, each once -/
def sortU (ts : List T) : List T := (dedupT ts).mergeSort leT'
theorem dataLe_trans {k : T → PyData} : ∀ a b c : T, PySem.W.dataLe false k a b = true → PySem.W.dataLe false k b c = true → PySem.W.dataLe false k a c = true := fun a b c h1 h2 => by
  rw [PySem.W.dataLe_eq] at *
  simp only [cond_false, Bool.not_eq_true'] at *
  cases h : PySem.W.dataLt (k c) (k a) with
  | false => rfl
  | true =>
    rcases lex_negTrans _ (PySem.W.keyToks (k b)) _ h with z | z
    · exact absurd z (by rw [show PyProof.Rows.lexLt itemOrd (PySem.W.keyToks (k c)) (PySem.W.keyToks (k b)) = PySem.W.dataLt (k c) (k b) from rfl, h2]; simp)
    · exact absurd z (by rw [show PyProof.Rows.lexLt itemOrd (PySem.W.keyToks (k b)) (PySem.W.keyToks (k a)) = PySem.W.dataLt (k b) (k a) from rfl, h1]; simp)
end TL
namespace TL
open PySem PySem.Spec PyProof.Rows L2
theorem leT_data {ts : List T} (ok : sortOk ts = true) {a b : T} (ha : a ∈ ts) (hb : b ∈ ts) : PySem.W.dataLe false dat a b = leT' a b := by
  rw [PySem.W.dataLe_eq]
  show (!PySem.W.dataLt (dat b) (dat a)) = !ltt b a
  rw [(sortOk_of ok).2.2.2 b hb a ha]
section
variable {X : Cx} {pins : List (Addr × Obj)} {s : Shared} {σ : L2.St} {H : Hp} {S : Sto} {M : Addr → Prop}
def isScan : T → Bool
  | .int _ => true
  | .str _ => true
  | _ => false
def setOk (ts : List T) : Bool := kxs ts && ((ts.all isTup && (decide (deps ts ≤ 8) && decide ((dedupT ts).length ≤ 62))) || (ts.all isScan && decide ((dedupT ts).length + 2 < scanBound)))
theorem take_at {α : Type} {l : List α} {i : Nat} {x : α} (h : l[i]? = some x) : l.take (i + 1) = l.take i ++ [x] := by rw [List.take_add_one, h]; rfl
/-- what a set that is filled holds of the first i things -/
structure GotT {α : Type} (ks : List (T × α)) (i : Nat) (L : List (T × α)) : Prop where
  sub : ∀ p ∈ L, p ∈ ks.take i
  all : ∀ p ∈ ks.take i, p.1 ∈ L.map (·.1)
theorem GotT.old {α : Type} {ks L : List (T × α)} {i : Nat} {p : T × α} (g : GotT ks i L) (h : ks[i]? = some p) (hm : p.1 ∈ L.map (·.1)) : GotT ks (i + 1) L := by
  constructor
  · intro q hq
    rw [take_at h]
    exact List.mem_append_left _ (g.sub q hq)
  · intro q hq
    rw [take_at h] at hq
    rcases List.mem_append.mp hq with z | z
    · exact g.all q z
    · rw [List.mem_singleton.mp z]; exact hm
theorem GotT.new {α : Type} {ks L L' : List (T × α)} {i : Nat} {p : T × α} (g : GotT ks i L) (h : ks[i]? = some p) (pm : L'.Perm (p :: L)) : GotT ks (i + 1) L' := by
  constructor
  · intro q hq
    rw [take_at h]
    rcases List.mem_cons.mp (pm.mem_iff.mp hq) with e | z
    · rw [e]; simp
    · exact List.mem_append_left _ (g.sub q z)
  · intro q hq
    rw [(pm.map (·.1)).mem_iff, List.map_cons]
    rw [take_at h] at hq
    rcases List.mem_append.mp hq with z | z
    · exact List.mem_cons_of_mem _ (g.all q z)
    · rw [List.mem_singleton.mp z]; exact List.mem_cons_self
end
end TL
namespace TL
open PySem PySem.Spec PyProof.Rows L2
section
variable {X : Cx} {pins : List (Addr × Obj)} {s : Shared} {σ : L2.St} {H : Hp} {S : Sto} {M : Addr → Prop}
def ssetT (S : Sto) (x : T) : Option T := match res S x with
  | .lst ts => if (setOk ts && sortOk ts) = true then some (.lst (sortU ts)) else none
  | .tup ts => if (setOk ts && sortOk ts) = true then some (.lst (sortU ts)) else none
  | _ => none
def slenT (S : Sto) (x : T) : Option T := match res S x with
  | .lst ts => if setOk ts = true then some (.int (dedupT ts).length) else none
  | .tup ts => if setOk ts = true then some (.int (dedupT ts).length) else none
  | _ => none
variable {e : Expr} {te : TTE} {p p2 pos pos2 : Pos}
end
end TL
namespace TL
open PySem PySem.Spec PyProof.Rows L2
section
variable {S : Sto} {p : Addr} {xs ts : List T}
theorem sub_offs : Sub (offs S p) S := fun a c e => by
  unfold offs at e
  split at e
  · cases e
  · exact e
/-- a list cell is given up at the end -/
theorem Fin.lst {Q : T → Sto → Prop} (h : S p = some (.lst ts)) (q : Q (.lst ts) (offs S p)) : Fin Q (.ref p) S := ⟨offs S p, .lst ts, sub_offs, .lstc h offs_same (fzs_same ts), q⟩
where fzs_same {S S2 : Sto} : ∀ ts : List T, Fzs S S2 ts ts
  | [] => .nil
  | t :: ts => .cons (.same t) (fzs_same ts)
/-- a cell that is not told of is given up -/
theorem Fin.drop {Q : T → Sto → Prop} {z : T} (h : Fin Q z (offs S p)) : Fin Q z S := by
  obtain ⟨S2, u, k1, k2, q⟩ := h
  refine ⟨S2, u, fun a c e => sub_offs a c (k1 a c e), ?_, q⟩
  exact fz_sub k2
where
  fz_sub {S2 : Sto} : ∀ {t u : T}, Fz (offs S p) S2 t u → Fz S S2 t u
    | _, _, .same t => .same t
    | _, _, .lstc h1 h2 h3 => .lstc (sub_offs _ _ h1) h2 (fzs_sub h3)
    | _, _, .dctc h1 h2 h3 => .dctc (sub_offs _ _ h1) h2 (fzs_sub h3)
    | _, _, .insc h1 h2 h3 => .insc (sub_offs _ _ h1) h2 (fzs_sub h3)
    | _, _, .tup h => .tup (fzs_sub h)
    | _, _, .lst h => .lst (fzs_sub h)
  fzs_sub {S2 : Sto} : ∀ {ts us : List T}, Fzs (offs S p) S2 ts us → Fzs S S2 ts us
    | _, _, .nil => .nil
    | _, _, .cons a b => .cons (fz_sub a) (fzs_sub b)
theorem ssetT_lst : ssetT S (.lst xs) = if (setOk xs && sortOk xs) = true then some (.lst (sortU xs)) else none := rfl
theorem ssetT_tup : ssetT S (.tup xs) = if (setOk xs && sortOk xs) = true then some (.lst (sortU xs)) else none := rfl
theorem slenT_lst : slenT S (.lst xs) = if setOk xs = true then some (.int (dedupT xs).length) else none := rfl
theorem slenT_tup : slenT S (.tup xs) = if setOk xs = true then some (.int (dedupT xs).length) else none := rfl
theorem sortedF_lst : sortedF S [.lst xs] = if (sortOk xs && decide (xs.length ≤ sizeLine)) = true then some (.lst (xs.mergeSort leT')) else none := rfl
theorem sortedF_tup : sortedF S [.tup xs] = if (sortOk xs && decide (xs.length ≤ sizeLine)) = true then some (.lst (xs.mergeSort leT')) else none := rfl
theorem tupleF_lst : tupleF S [.lst xs] = some (.tup xs) := rfl
theorem tupleF_tup : tupleF S [.tup xs] = some (.tup xs) := rfl
theorem listF_lst : listF S [.lst xs] = some (.lst xs) := rfl
theorem listF_tup : listF S [.tup xs] = some (.lst xs) := rfl
/-- strictly rising -/
def Rise (ts : List T) : Prop := ts.Pairwise fun a b => ltt a b = true
theorem pair_data {ts : List T} (ok : sortOk ts = true) : (ts.mergeSort leT').Pairwise fun a b => leT' a b = true := by
  have h : ∀ x ∈ ts, ∀ y ∈ ts, PySem.W.dataLt (dat x) (dat y) = ltt x y := (sortOk_of ok).2.2.2
  rw [← mergeSort_leT ts h]
  have total : ∀ a b : T, (PySem.W.dataLe false dat a b || PySem.W.dataLe false dat b a) = true := fun a b => by
    rw [PySem.W.dataLe_eq]
    simp only [cond_false, Bool.or_eq_true, Bool.not_eq_true']
    cases h : PySem.W.dataLt (dat b) (dat a) with
    | false => exact .inl rfl
    | true =>
      right
      cases h2 : PySem.W.dataLt (dat a) (dat b) with
      | false => rfl
      | true =>
        have := lex_trans _ _ _ h2 h
        rw [lex_irrefl] at this
        cases this
  refine (List.pairwise_mergeSort dataLe_trans total ts).imp_of_mem fun {a b} ha hb z => ?_
  rw [leT_data ok (List.mem_mergeSort.mp ha) (List.mem_mergeSort.mp hb)] at z
  exact z
/-- each once, sorted: strictly rising -/
theorem rise_sort {ts : List T} (kt : kxs ts = true) (ok : sortOk ts = true) (nd : ts.Nodup) : Rise (ts.mergeSort leT') := by
  have nd' : (ts.mergeSort leT').Nodup := (List.mergeSort_perm ts _).nodup_iff.mpr nd
  refine ((pair_data ok).and nd').imp_of_mem fun {a b} ha hb ⟨h1, h2⟩ => ?_
  have ha' := List.mem_mergeSort.mp ha
  have hb' := List.mem_mergeSort.mp hb
  cases h3 : ltt a b with
  | true => rfl
  | false =>
    have al : alk a b = true := by
      simp only [sortOk, Bool.and_eq_true, List.all_eq_true] at ok
      exact (ok.1 a ha').2 b hb'
    simp only [leT', Bool.not_eq_true'] at h1
    exact absurd (ltt_total a b (kxs_all.mp kt a ha') (kxs_all.mp kt b hb') al h3 h1) h2
end
end TL
namespace TL
open PySem PySem.Spec PyProof.Rows L2
section
variable {S : Sto} {p : Addr} {x y : List Sg} {xs : List (List Sg)}
theorem any_strs : ((xs.map T.str).any fun z => eqt z (.str x)) = decide (x ∈ xs) := by
  induction xs with
  | nil => rfl
  | cons y ys ih =>
    rw [List.map_cons, List.any_cons, ih]
    have e : eqt (.str y) (.str x) = decide (y = x) := rfl
    rw [e]
    by_cases h : y = x
    · subst h; simp
    · have h' : ¬ x = y := fun z => h z.symm
      simp [h, h']
theorem okd_strs : okd (.lst (xs.map T.str)) = true ∧ okd (.tup (xs.map T.str)) = true := by
  have p1 : plains (xs.map T.str) = true := by
    induction xs with
    | nil => rfl
    | cons y ys ih => rw [List.map_cons]; simp only [plains, ih, Bool.and_true]; rfl
  have d1 : deps (xs.map T.str) = 0 := by
    induction xs with
    | nil => rfl
    | cons y ys ih => rw [List.map_cons]; simp only [deps]; rw [ih (by rw [List.map_cons] at p1; simp only [plains, Bool.and_eq_true] at p1; exact p1.2)]; rfl
  simp only [okd, plain, dep, p1, d1]
  exact ⟨rfl, rfl⟩
theorem inQ_strs {z : T} (h : res S z = .lst (xs.map T.str) ∨ res S z = .tup (xs.map T.str)) : inQ S (.str x) z = some (decide (x ∈ xs)) := by
  unfold inQ
  rcases h with h | h
  · rw [h]
    simp only [okd_str, okd_strs.1, Bool.and_self, if_true, any_strs]
  · rw [h]
    simp only [okd_str, okd_strs.2, Bool.and_self, if_true, any_strs]
theorem inT_strs : inT S (.str x) (.lst (xs.map T.str)) = some (.bl (decide (x ∈ xs))) := by
  unfold inT; rw [inQ_strs (.inl rfl)]; rfl
theorem ninT_strs : ninT S (.str x) (.lst (xs.map T.str)) = some (.bl (!decide (x ∈ xs))) := by
  unfold ninT; rw [inQ_strs (.inl rfl)]; rfl
theorem inT_strsT : inT S (.str x) (.tup (xs.map T.str)) = some (.bl (decide (x ∈ xs))) := by
  unfold inT; rw [inQ_strs (.inr rfl)]; rfl
theorem ninT_strsT : ninT S (.str x) (.tup (xs.map T.str)) = some (.bl (!decide (x ∈ xs))) := by
  unfold ninT; rw [inQ_strs (.inr rfl)]; rfl
end
def lowers : List Sg := q "abcdefghijklmnopqrstuvwxyz"
def NameOk (x : List Sg) : Prop := 1 ≤ x.length ∧ x.length ≤ 8 ∧ ∀ c ∈ x, c ∈ lowers
instance (x : List Sg) : Decidable (NameOk x) := by unfold NameOk; infer_instance
def MKS : List (List Sg) := (["w", "m", "o"] : List Str).map q
def famT (f : List (List Sg)) : T := .tup (f.map T.str)
def folkT (x : List Sg × Nat) : T := .tup [.str x.1, .str (MKS.getD x.2 [])]
def kinT (x : List Sg × List (List Sg)) : T := .tup [.str x.1, famT x.2]
structure Book where
  folk : List (List Sg × Nat)
  unions : List (List (List Sg))
  births : List (List Sg × List (List Sg))
  adopts : List (List Sg × List (List Sg))
structure FamOk (names : List (List Sg)) (f : List (List Sg)) : Prop where
  lo : 1 ≤ f.length
  hi : f.length ≤ 2
  rise : Rise (f.map T.str)
  nd : f.Nodup
  mem : ∀ x ∈ f, x ∈ names
structure KinOk (names : List (List Sg)) (unions : List (List (List Sg))) (b : List Sg × List (List Sg)) : Prop where
  kid : b.1 ∈ names
  fam : b.2 ∈ unions
  own : b.1 ∉ b.2
structure BookOk (B : Book) : Prop where
  name : ∀ x ∈ B.folk, NameOk x.1 ∧ x.2 < 3
  nd : (B.folk.map (·.1)).Nodup
  rf : Rise (B.folk.map folkT)
  lf : B.folk.length ≤ 16
  un : ∀ f ∈ B.unions, FamOk (B.folk.map (·.1)) f
  ru : Rise (B.unions.map famT)
  lu : B.unions.length ≤ 16
  bi : ∀ b ∈ B.births, KinOk (B.folk.map (·.1)) B.unions b
  rb : Rise (B.births.map kinT)
  lb : B.births.length ≤ 24
  ad : ∀ b ∈ B.adopts, KinOk (B.folk.map (·.1)) B.unions b
  ra : Rise (B.adopts.map kinT)
  la : B.adopts.length ≤ 12
theorem sortOk_strs (xs : List (List Sg)) : sortOk (xs.map T.str) = true := by
  simp only [sortOk, Bool.and_eq_true, Bool.or_eq_true, List.all_eq_true]
  refine ⟨fun x hx => ?_, .inr fun x hx => ?_⟩
  · obtain ⟨a, ha, rfl⟩ := List.mem_map.mp hx
    refine ⟨rfl, fun y hy => ?_⟩
    obtain ⟨b, hb, rfl⟩ := List.mem_map.mp hy
    rfl
  · obtain ⟨a, ha, rfl⟩ := List.mem_map.mp hx
    rfl
theorem kxs_map {α : Type} {f : α → T} {xs : List α} (h : ∀ x ∈ xs, kx (f x) = true) : kxs (xs.map f) = true := kxs_all.mpr fun t ht => by
  obtain ⟨a, ha, rfl⟩ := List.mem_map.mp ht
  exact h a ha
theorem deps_le {ts : List T} {k : Nat} (h : ∀ t ∈ ts, dep t ≤ k) : deps ts ≤ k := by
  induction ts with
  | nil => exact Nat.zero_le _
  | cons t ts ih =>
    simp only [deps]
    have := h t List.mem_cons_self
    have := ih fun x hx => h x (List.mem_cons_of_mem _ hx)
    omega
theorem plains_map {α : Type} {f : α → T} {xs : List α} (h : ∀ x ∈ xs, plain (f x) = true) : plains (xs.map f) = true := by
  induction xs with
  | nil => rfl
  | cons y ys ih =>
    rw [List.map_cons]
    simp only [plains, h y List.mem_cons_self, ih fun x hx => h x (List.mem_cons_of_mem _ hx), Bool.and_self]
theorem okd_map {α : Type} {f : α → T} {xs : List α} (h : ∀ x ∈ xs, okd (f x) = true ∧ dep (f x) ≤ 60) : okd (.lst (xs.map f)) = true ∧ okd (.tup (xs.map f)) = true := by
  have p := plains_map (f := f) fun x hx => okd_plain (h x hx).1
  have d : deps (xs.map f) ≤ 60 := deps_le fun t ht => by
    obtain ⟨a, ha, rfl⟩ := List.mem_map.mp ht
    exact (h a ha).2
  constructor
  · show (plains (xs.map f) && decide (deps (xs.map f) + 1 ≤ 64)) = true
    rw [p, decide_eq_true (by omega)]; rfl
  · show (plains (xs.map f) && decide (deps (xs.map f) + 1 ≤ 64)) = true
    rw [p, decide_eq_true (by omega)]; rfl
theorem nodup_map {α β : Type} {f : α → β} (inj : ∀ a b, f a = f b → a = b) {l : List α} (h : l.Nodup) : (l.map f).Nodup := List.pairwise_map.mpr (h.imp fun {a b} hne e => hne (inj a b e))
theorem str_inj {a b : List Sg} (h : T.str a = T.str b) : a = b := by injection h
end TL
namespace TL
open PySem PySem.Spec PyProof.Rows L2
def SqB (b : Bool) (K : PySem.W.Frag) (H : Hp) (a : Addr) (xs : List V) : Prop := cond b (SqL K H a xs) (SqT K H a xs)
def ItB (b : Bool) (h : Heap) (it l : Addr) (i : Nat) : Prop := cond b (h.IsListIter it l i) (h.IsTupleIter it l i)
def SeB (b : Bool) (h : Heap) (l : Addr) (items : Array Value) : Prop := cond b (h.IsList l items) (h.IsTuple l items)
def objB (b : Bool) (l : Addr) : Obj := cond b { cls := .type "list_iterator", data := .fields #[.ref l, .int 0 0] } { cls := .type "tuple_iterator", data := .fields #[.ref l, .int 0 0] }
theorem drawsB (b : Bool) {prog : Program} {w : World} {A : Around} (hh : A.handled = none) (it l : Addr) (hne : l ≠ it) (items : Array Value) :
    Draws prog w A it [it, l] items.size (fun i v => items[i]? = some v) (fun i h => ItB b h it l i ∧ SeB b h l items) := by
  cases b
  · exact Draws.tuple hh it l hne items
  · exact Draws.list hh it l hne items
theorem begins_B (b : Bool) (l : Addr) (items : Array Value) : Begins (.ref l) (objB b l) fun h => SeB b h l items := by
  cases b
  · exact begins_tuple l items
  · exact begins_list l items
theorem ItB.at {b : Bool} {h h' : Heap} {it l : Addr} {i : Nat} (x : ItB b h it l i) (k : ∀ o, h.get? it = some o → h'.get? it = some o) : ItB b h' it l i := by
  cases b
  · exact Heap.IsTupleIter.at x k
  · exact Heap.IsListIter.at x k
theorem ItB.obj {b : Bool} {h : Heap} {it l : Addr} {i : Nat} (x : ItB b h it l i) : ∃ o, h.get? it = some o ∧ ∀ v, o.data ≠ .cell v := by
  cases b
  · obtain ⟨o, ho, _, hd⟩ := x
    exact ⟨o, ho, fun v q => by rw [hd] at q; cases q⟩
  · obtain ⟨o, ho, _, hd⟩ := x
    exact ⟨o, ho, fun v q => by rw [hd] at q; cases q⟩
theorem ItB.new {b : Bool} {h : Heap} {it l : Addr} (x : h.get? it = some (objB b l)) : ItB b h it l 0 := by
  cases b
  · exact ⟨_, x, rfl, rfl⟩
  · exact ⟨_, x, rfl, rfl⟩
section
variable {X : Cx} {pins : List (Addr × Obj)} {σ : L2.St} {H : Hp} {s : Shared}
theorem sqB_get {b : Bool} {a : Addr} {xs : List V} (I : Inv X pins σ H s) (h : SqB b X.K H a xs) : ∃ its : List Value, Vals xs its ∧ SeB b s.heap a its.toArray ∧ a < s.heap.objs.size := by
  cases b
  · obtain ⟨its, rv, p, _⟩ := I.tuple h
    obtain ⟨o, ho, _⟩ := id p
    exact ⟨its, rv, p, Heap.lt_size ho⟩
  · obtain ⟨its, rv, p, _⟩ := I.list h
    exact ⟨its, rv, p.isList, p.lt⟩
theorem sqB_inj {b : Bool} {a : Addr} {xs ys : List V} (I : Inv X pins σ H s) (h : SqB b X.K H a xs) (k : SqB b X.K H a ys) : xs = ys := by
  cases b
  · exact I.tuple_inj h k
  · exact I.list_inj h k
end
/-- the row at a as it stands at each turn, each item in a new pair -/
def IteB (b : Bool) (K : PySem.W.Frag) (a : Addr) : It :=
  ⟨fun i H => ∃ (xs : List V) (x : V), SqB b K H a xs ∧ xs[i]? = some x, fun i H v H' => ∃ T x, v = .ref T ∧ H T = none ∧ (∃ o : Obj, o.dict = none ∧ H' = upd H T (fT o [.int (i : Nat), x])) ∧ ∀ xs, SqB b K H a xs → xs[i]? = some x, fun i H => ∃ xs : List V, SqB b K H a xs ∧ xs.length = i⟩
theorem turn_enumB (b : Bool) {P : Program} {w : World} {K : PySem.W.Frag} {elts : List Expr} {kk : Nat} {tpos : Pos} (a e it : Addr) (hei : e ≠ it) (hea : e ≠ a) (hai : a ≠ it) :
    Turn P w K (.Tuple elts kk tpos) (IteB b K a) [e, it] e (fun i h => (∃ old, IsEnum h e it ((i : Nat) : Int) old) ∧ ItB b h it a i) where
  mem := by simp
  obj := fun i h st c hc => by
    obtain ⟨⟨old, he⟩, hi⟩ := st
    have e' : c = e ∨ c = it := by simpa using hc
    rcases e' with z | z
    · rw [z]; exact ⟨_, he, fun v q => nomatch q⟩
    · rw [z]; exact hi.obj
  keep := fun i h h' st k => let ⟨⟨old, he⟩, hi⟩ := st; ⟨⟨old, k e (by simp) _ he⟩, hi.at fun o q => k it (by simp) o q⟩
  item := by
    intro X hP hw hK hc i pins s σ H E I hf st hg
    subst hP hw hK
    obtain ⟨⟨old, he⟩, hit⟩ := st
    obtain ⟨xs, x, hq, hx⟩ := hg
    obtain ⟨its, rv, p, _⟩ := sqB_get I hq
    obtain ⟨u, hu, ru⟩ := rv.get hx
    have hel : e < s.heap.objs.size := Heap.lt_size he
    have hil : it < s.heap.objs.size := by obtain ⟨_, q, _⟩ := hit.obj; exact Heap.lt_size q
    have hef : e ∉ [it, a] := by simp [hei, hea]
    have hlt : i < its.toArray.size := by
      have := (List.getElem?_eq_some_iff.mp hu).1
      simpa using this
    refine wpAny_pyNext_enum_itemD (drawsB b (A := X.A.in1) (I.ok.hd hc) it a hai its.toArray) he ⟨hit, p⟩ hlt hei hef fun x' h' tk hx' ho st' hT hsz hk => ?_
    have ex : x' = u := by
      have h1 : its.toArray[i]? = some u := by simpa using hu
      exact (Option.some.inj (h1.symm.trans hx')).symm
    subst ex
    refine ⟨_, rfl, wpAny_letOwnedTupleGo_enum (s := { s with heap := h', toks := tk + 1 }) ho fun h'' he' sb => ?_⟩
    have hT2 : h''.get? s.heap.objs.size = some { cls := .type "tuple", data := .seq #[.int i tk, x'] } := (sb.2 _ (Nat.ne_of_gt hel)).trans hT
    have new : ObjOk X.prog X.w (upd H s.heap.objs.size (fT { cls := .type "tuple", data := .seq #[.int i tk, x'] } [.int (i : Nat), x])) h'' s.heap.objs.size (fT { cls := .type "tuple", data := .seq #[.int i tk, x'] } [.int (i : Nat), x]) :=
      ⟨hT2, by show 2 ≤ sizeLine; decide, [.int i tk, x'], .cons ⟨_, rfl⟩ (.cons ru .nil), ⟨_, hT2, rfl, _, rfl⟩⟩
    have I1 : Inv X pins σ (upd H s.heap.objs.size (fT { cls := .type "tuple", data := .seq #[.int i tk, x'] } [.int (i : Nat), x])) { s with heap := h'', toks := tk + 1 } :=
      I.turnedNew (t' := tk + 1) (ch := [e, it]) (fun b ob hb q => (sb.2 b (fun z => hb (by simp [z]))).trans (hk b ob (fun z => hb (by simp [z])) (fun z => hb (by simp [z])) q)) hf (Nat.le_refl _) new
    refine ⟨.ref s.heap.objs.size, _, I1, rfl, ⟨_, x, rfl, I.hok.fresh (Nat.le_refl _), ⟨_, rfl, rfl⟩, fun ys hy => by rw [sqB_inj I hy hq]; exact hx⟩, ⟨⟨x', ?_⟩, st'.1.at fun o q => (sb.2 it (Ne.symm hei)).trans q⟩, fun b hb => ?_⟩
    · have e1 : ((i + 1 : Nat) : Int) = (i : Int) + 1 := by omega
      rw [e1]; exact he'
    · have hb' : b < s.heap.objs.size := by
        have e' : b = e ∨ b = it := by simpa using hb
        rcases e' with z | z
        · rw [z]; exact hel
        · rw [z]; exact hil
      rw [upd_ne (Nat.ne_of_lt hb')]
      exact (hf b hb).1
  done := by
    intro X hP hw hK hc i pins s σ H E I hf st hg
    subst hP hw hK
    obtain ⟨⟨old, he⟩, hit⟩ := st
    obtain ⟨xs, hq, hx⟩ := hg
    obtain ⟨its, rv, p, _⟩ := sqB_get I hq
    obtain ⟨f0, f1, f2, f3, f4, f5⟩ := hf it (by simp)
    have hl := rv.length
    have en : i = its.toArray.size := by simp; omega
    subst en
    exact wpAny_pyNext_enum_endD (drawsB b (A := X.A.in1) (I.ok.hd hc) it a hai its.toArray) he ⟨hit, p⟩ fun h' eb => ⟨rfl, I.turned (t' := s.toks) (fun b o hb q => eb b o hb q) f0 f1 f3 f4 f5⟩
  self := fun A i s Q E st h => let ⟨⟨_, he⟩, _⟩ := st; wpAny_pyIter_enum he h
theorem meets_enumerate_new1 {v : Value} {o : Obj} {H : Heap → Prop} (B : Begins v o H) :
    Meets (Builtin.«enumerate.__new__» ⟨[.type "enumerate", v], []⟩) (fun _ R s => H s.heap ∧
      R (.ok (.ret (.ref (s.heap.push o).objs.size))) { s with heap := (s.heap.push o).push { cls := .type "enumerate", data := .fields #[.none, .bool false, .ref s.heap.objs.size, rawInt 0, .none, .none] } }) :=
  .of_wp fun prog w A R s h => by
    obtain ⟨hp, g, d, tk, os⟩ := s; obtain ⟨h1, h⟩ := h
    have hsub := sub_enumerate
    have q1 : ∀ {A' : Around} {E : Value → Shared → Prop} {Q : Value → Shared → Prop}, Q (.ref hp.objs.size) ⟨hp.push o, g, d, tk, os⟩ → wpAny (model prog w) A' (pyIter v) Q E ⟨hp, g, d, tk, os⟩ :=
      fun q => B.iter prog w _ _ ⟨hp, g, d, tk, os⟩ _ h1 q
    wp_walk using q1
    refine wpAny_stack_any fun st => wpAny_pure ?_
    split
    · rename_i c _ _ _ _ _
      cases (c == Value.type "enumerate")
      · wp_walk using q1
        exact ⟨_, rfl, h⟩
      · wp_walk using q1
        exact ⟨_, rfl, h⟩
    · wp_walk using q1
      exact ⟨_, rfl, h⟩
theorem enum_begins1 {prog : Program} {w : World} {A : Around} {E : Value → Shared → Prop} {s : Shared} {v : Value} {o : Obj} {H : Heap → Prop} {Q : Value → Shared → Prop} (B : Begins v o H) (h1 : H s.heap)
    (h : ∀ h', IsEnum h' (s.heap.objs.size + 1) s.heap.objs.size 0 .none → h'.get? s.heap.objs.size = some o → h'.objs.size = s.heap.objs.size + 2 →
      (∀ b o, s.heap.get? b = some o → h'.get? b = some o) → Q (.ref (s.heap.objs.size + 1)) { s with heap := h' }) :
    wpAny (model prog w) A (call (.type "enumerate") [v]) Q E s := by
  refine callType_new F.called_enumerate (by decide) (F.typeCall_enumerate_1 _) (F.newCall_enumerate_1 _) (fun obj => F.args_object_init_2 obj _) F.entry_enumerate_new
    (meets_enumerate_new1 B) ⟨h1, ?_⟩
  have hz : (s.heap.push o).objs.size = s.heap.objs.size + 1 := Heap.size_push ..
  show _ ∧ _
  rw [hz]
  have he : IsEnum ((s.heap.push o).push { cls := .type "enumerate", data := .fields #[.none, .bool false, .ref s.heap.objs.size, rawInt 0, .none, .none] }) (s.heap.objs.size + 1) s.heap.objs.size 0 .none := by
    have := Heap.get?_push_size (s.heap.push o) (o := { cls := .type "enumerate", data := .fields #[.none, .bool false, .ref s.heap.objs.size, rawInt 0, .none, .none] }) rfl
    rw [hz] at this; exact this
  refine ⟨⟨_, he, rfl⟩, h _ he (Heap.get?_push_of_some _ (Heap.get?_push_size _ B.free)) (by rw [Heap.size_push, hz]) fun b o x => Heap.get?_push_of_some _ (Heap.get?_push_of_some _ x)⟩
def iEnumB (K : PySem.W.Frag) (ta : L2.TA) : L2.TI := fun σ H R => ta σ H fun vs H1 => ∃ b a xs, vs = [.ref a] ∧ SqB b K H1 a xs ∧ R (IteB b K a) H1
theorem pi_enumB {X : Cx} {e : Expr} {ta : L2.TA} {p pos tpos : Pos} {elts : List Expr} {kk : Nat} (hg : Gl X "enumerate") (hm : X.mg "enumerate" = none) (ha : PA X [e] ta) (hs : starEach [e] X.env = [(false, eval e X.env)] := by rfl) :
    PI X (.Tuple elts kk tpos) (.Call (.Name "enumerate" p) [e] [] pos) (iEnumB X.K ta) := by
  refine ⟨fun pins s σ H R I h => ?_⟩
  refine Call_ (ld_blt I hg hm boot_enumerate (PyProof.Rows.callWith_type1 (thn (ha.run pos pins s σ H _ I h) fun us s1 ⟨vs, H1, I1, r1, q1⟩ => ?_) hs rfl))
  obtain ⟨b, a, xs, ex, hq, q⟩ := q1
  subst ex
  cases r1 with
  | cons r rr =>
    cases rr
    cases r
    obtain ⟨its, rv, p', hl⟩ := sqB_get I1 hq
    refine enum_begins1 (begins_B b a its.toArray) p' fun h' he hit hsz hk => wpAny_pyIter_enum he ?_
    have I2 : Inv X pins σ H1 { s1 with heap := h' } := I1.kept (t' := s1.toks) hk
    refine ⟨s1.heap.objs.size + 1, [s1.heap.objs.size + 1, s1.heap.objs.size], _, _, H1, rfl, I2, turn_enumB b a (s1.heap.objs.size + 1) s1.heap.objs.size (Nat.succ_ne_self _) (Nat.ne_of_gt (Nat.lt_succ_of_lt hl)) (Nat.ne_of_lt hl), ⟨⟨.none, he⟩, ItB.new hit⟩, fun b hb => ?_, q⟩
    have e' : b = s1.heap.objs.size + 1 ∨ b = s1.heap.objs.size := by simpa using hb
    have hle : s1.heap.objs.size ≤ b := by
      rcases e' with z | z
      · rw [z]; exact Nat.le_add_right _ _
      · rw [z]; exact Nat.le_refl _
    exact I1.fpOk hle (I1.hok.fresh hle)
/-- the rows at a and c as they stand at each turn, the items in new pairs -/
def ItzB (b1 b2 : Bool) (K : PySem.W.Frag) (a c : Addr) : It :=
  ⟨fun i H => ∃ (xs ys : List V) (x y : V), SqB b1 K H a xs ∧ SqB b2 K H c ys ∧ xs[i]? = some x ∧ ys[i]? = some y,
    fun i H v H' => ∃ T x y, v = .ref T ∧ H T = none ∧ (∃ o : Obj, o.dict = none ∧ H' = upd H T (fT o [x, y])) ∧ (∀ xs, SqB b1 K H a xs → xs[i]? = some x) ∧ ∀ ys, SqB b2 K H c ys → ys[i]? = some y,
    fun i H => ∃ xs ys : List V, SqB b1 K H a xs ∧ SqB b2 K H c ys ∧ i ≤ xs.length ∧ i ≤ ys.length ∧ (i = xs.length ∨ i = ys.length)⟩
theorem turn_zipB (b1 b2 : Bool) {P : Program} {w : World} {K : PySem.W.Frag} {elts : List Expr} {kk : Nat} {tpos : Pos} {a c z TI TO i1 i2 : Addr} (D : ZipSep2 z TI TO i1 i2 [i1, a] [i2, c]) (n1 : a ≠ i1) (n2 : c ≠ i2) :
    Turn P w K (.Tuple elts kk tpos) (ItzB b1 b2 K a c) [z, TI, TO, i1, i2] z (fun i h => IsZip h z TI TO .none ∧ IsTupOf2 h TI (.ref i1) (.ref i2) ∧ (∃ x y, IsTupOf2 h TO x y) ∧ ItB b1 h i1 a i ∧ ItB b2 h i2 c i) where
  mem := by simp
  obj := fun i h st d hd => by
    obtain ⟨hz, hTI, ⟨x, y, hTO⟩, h1, h2⟩ := st
    have e' : d = z ∨ d = TI ∨ d = TO ∨ d = i1 ∨ d = i2 := by simpa using hd
    rcases e' with q | q | q | q | q
    · rw [q]; exact ⟨_, hz, fun v q => nomatch q⟩
    · rw [q]; exact ⟨_, hTI, fun v q => nomatch q⟩
    · rw [q]; exact ⟨_, hTO, fun v q => nomatch q⟩
    · rw [q]; exact h1.obj
    · rw [q]; exact h2.obj
  keep := fun i h h' st k => by
    obtain ⟨hz, hTI, ⟨x, y, hTO⟩, h1, h2⟩ := st
    exact ⟨k z (by simp) _ hz, k TI (by simp) _ hTI, ⟨x, y, k TO (by simp) _ hTO⟩, h1.at fun o q => k i1 (by simp) o q, h2.at fun o q => k i2 (by simp) o q⟩
  item := by
    intro X hP hw hK hc i pins s σ H E I hf st hg
    subst hP hw hK
    obtain ⟨hz, hTI, ⟨x0, y0, hTO⟩, h1, h2⟩ := st
    obtain ⟨xs, ys, x, y, hqx, hqy, hx, hy⟩ := hg
    obtain ⟨its, rv, p, _⟩ := sqB_get I hqx
    obtain ⟨its2, rv2, p2, _⟩ := sqB_get I hqy
    obtain ⟨u, hu, ru⟩ := rv.get hx
    obtain ⟨u2, hu2, ru2⟩ := rv2.get hy
    have hzl : z < s.heap.objs.size := Heap.lt_size hz
    have hlt1 : i < its.toArray.size := by
      have := (List.getElem?_eq_some_iff.mp hu).1
      simpa using this
    have hlt2 : i < its2.toArray.size := by
      have := (List.getElem?_eq_some_iff.mp hu2).1
      simpa using this
    refine wpAny_pyNext_zipD2_item D (drawsB b1 (A := X.A.in1) (I.ok.hd hc) i1 a n1 its.toArray) (drawsB b2 (A := X.A.in1) (I.ok.hd hc) i2 c n2 its2.toArray) hz hTI hTO ⟨h1, p⟩ ⟨h2, p2⟩ hlt1 hlt2 fun x' y' h' tk hx' hy' z' TO' st1 st2 hT hsz hk => ?_
    have ex : x' = u := by
      have q : its.toArray[i]? = some u := by simpa using hu
      exact (Option.some.inj (q.symm.trans hx')).symm
    have ey : y' = u2 := by
      have q : its2.toArray[i]? = some u2 := by simpa using hu2
      exact (Option.some.inj (q.symm.trans hy')).symm
    subst ex ey
    refine ⟨_, rfl, wpAny_letOwnedTupleGo_zip (s := { s with heap := h', toks := tk }) z' fun h'' z'' sb => ?_⟩
    have hT2 : h''.get? s.heap.objs.size = some { cls := .type "tuple", data := .seq #[x', y'] } := (sb.2 _ (Nat.ne_of_gt hzl)).trans hT
    have new : ObjOk X.prog X.w (upd H s.heap.objs.size (fT { cls := .type "tuple", data := .seq #[x', y'] } [x, y])) h'' s.heap.objs.size (fT { cls := .type "tuple", data := .seq #[x', y'] } [x, y]) :=
      ⟨hT2, by show 2 ≤ sizeLine; decide, [x', y'], .cons ru (.cons ru2 .nil), ⟨_, hT2, rfl, _, rfl⟩⟩
    have I1 : Inv X pins σ (upd H s.heap.objs.size (fT { cls := .type "tuple", data := .seq #[x', y'] } [x, y])) { s with heap := h'', toks := tk } :=
      I.turnedNew (t' := tk) (ch := [z, TI, TO, i1, i2]) (fun d o hb q => (sb.2 d (fun q' => hb (by simp [q']))).trans (hk d o (fun q' => hb (by simp [q'])) (fun q' => hb (by simp [q'])) (fun q' => hb (by simp [q'])) (fun q' => hb (by simp [q'])) q)) hf (Nat.le_refl _) new
    refine ⟨.ref s.heap.objs.size, _, I1, rfl, ⟨_, x, y, rfl, I.hok.fresh (Nat.le_refl _), ⟨_, rfl, rfl⟩, fun l hl => by rw [sqB_inj I hl hqx]; exact hx, fun l hl => by rw [sqB_inj I hl hqy]; exact hy⟩, ⟨z'', ?_, ⟨x', y', ?_⟩, ?_, ?_⟩, fun d hcm => ?_⟩
    · exact (sb.2 _ D.TIz).trans (hk _ _ D.TIz D.TITO D.TIi1 D.TIi2 hTI)
    · exact (sb.2 _ D.TOz).trans TO'
    · exact st1.1.at fun o q => (sb.2 _ (Ne.symm D.zi1)).trans q
    · exact st2.1.at fun o q => (sb.2 _ (Ne.symm D.zi2)).trans q
    · have hlt : d < s.heap.objs.size := by
        have e' : d = z ∨ d = TI ∨ d = TO ∨ d = i1 ∨ d = i2 := by simpa using hcm
        rcases e' with q | q | q | q | q
        · rw [q]; exact hzl
        · rw [q]; exact Heap.lt_size hTI
        · rw [q]; exact Heap.lt_size hTO
        · rw [q]; obtain ⟨_, e1, _⟩ := h1.obj; exact Heap.lt_size e1
        · rw [q]; obtain ⟨_, e2, _⟩ := h2.obj; exact Heap.lt_size e2
      rw [upd_ne (Nat.ne_of_lt hlt)]
      exact (hf d hcm).1
  done := by
    intro X hP hw hK hc i pins s σ H E I hf st hg
    subst hP hw hK
    obtain ⟨hz, hTI, ⟨x0, y0, hTO⟩, h1, h2⟩ := st
    obtain ⟨xs, ys, hqx, hqy, l1, l2, hend⟩ := hg
    obtain ⟨its, rv, p, _⟩ := sqB_get I hqx
    obtain ⟨its2, rv2, p2, _⟩ := sqB_get I hqy
    have k1 := rv.length
    have k2 := rv2.length
    exact wpAny_pyNext_zipD2_end D (drawsB b1 (A := X.A.in1) (I.ok.hd hc) i1 a n1 its.toArray) (drawsB b2 (A := X.A.in1) (I.ok.hd hc) i2 c n2 its2.toArray) hz hTI hTO ⟨h1, p⟩ ⟨h2, p2⟩ (by simp; omega) (by simp; omega) (by simp; omega) fun h' tk hk => ⟨rfl, I.turnedL (t' := tk) (ch := [z, TI, TO, i1, i2]) (fun d o hb q =>
      hk d o (fun q' => hb (by simp [q'])) (fun q' => hb (by simp [q'])) (fun q' => hb (by simp [q'])) (fun q' => hb (by simp [q'])) q) hf⟩
  self := fun A i s Q E st h => wpAny_pyIter_zip st.1 h
def iZipB (K : PySem.W.Frag) (ta : L2.TA) : L2.TI := fun σ H R => ta σ H fun vs H1 => ∃ b1 b2 a c xs ys, vs = [.ref a, .ref c] ∧ SqB b1 K H1 a xs ∧ SqB b2 K H1 c ys ∧ R (ItzB b1 b2 K a c) H1
theorem pi_zipB {X : Cx} {e e2 : Expr} {ta : L2.TA} {p pos tpos : Pos} {elts : List Expr} {kk : Nat} (hg : Gl X "zip") (hm : X.mg "zip" = none) (ha : PA X [e, e2] ta)
    (hs : starEach [e, e2] X.env = (false, eval e X.env) :: starEach [e2] X.env := by rfl) (hpl : (backTo pos (starEach [e2] X.env)).any (·.1) = false := by rfl) :
    PI X (.Tuple elts kk tpos) (.Call (.Name "zip" p) [e, e2] [] pos) (iZipB X.K ta) := by
  refine ⟨fun pins s σ H R I h => ?_⟩
  refine Call_ (ld_blt I hg hm PyProof.Rows.boot_zip (PyProof.Rows.callWith_type1 (thn (ha.run pos pins s σ H _ I h) fun us s1 ⟨vs, H1, I1, r1, q1⟩ => ?_) hs hpl))
  obtain ⟨b1, b2, a, c, xs, ys, ex, hqx, hqy, q⟩ := q1
  subst ex
  cases r1 with
  | cons r rr =>
    cases rr with
    | cons r' rr =>
      cases rr
      cases r
      cases r'
      have fresh5 : ∀ d, d ∈ [s1.heap.objs.size + 4, s1.heap.objs.size + 2, s1.heap.objs.size + 3, s1.heap.objs.size, s1.heap.objs.size + 1] → FpOk X pins H1 d := fun d hcm => by
        have e' : d = s1.heap.objs.size + 4 ∨ d = s1.heap.objs.size + 2 ∨ d = s1.heap.objs.size + 3 ∨ d = s1.heap.objs.size ∨ d = s1.heap.objs.size + 1 := by simpa using hcm
        have hle : s1.heap.objs.size ≤ d := by
          rcases e' with z | z | z | z | z
          · rw [z]; exact Nat.le_add_right _ _
          · rw [z]; exact Nat.le_add_right _ _
          · rw [z]; exact Nat.le_add_right _ _
          · rw [z]; exact Nat.le_refl _
          · rw [z]; exact Nat.le_add_right _ _
        exact I1.fpOk hle (I1.hok.fresh hle)
      obtain ⟨its, rv, p1, l1⟩ := sqB_get I1 hqx
      obtain ⟨its2, rv2, p2, l2⟩ := sqB_get I1 hqy
      refine zip_begins2 (begins_B b1 a its.toArray) (begins_B b2 c its2.toArray) p1 p2 fun h' hz hTI hTO h1 h2 hsz hk => wpAny_pyIter_zip hz ?_
      have I2 : Inv X pins σ H1 { s1 with heap := h' } := I1.kept (t' := s1.toks) hk
      exact ⟨s1.heap.objs.size + 4, [s1.heap.objs.size + 4, s1.heap.objs.size + 2, s1.heap.objs.size + 3, s1.heap.objs.size, s1.heap.objs.size + 1], _, _, H1, rfl, I2,
        turn_zipB b1 b2 (zip_sep2 (fp1 := [a]) (fp2 := [c]) (fun b hb => by rw [List.mem_singleton.mp hb]; exact l1) fun b hb => by rw [List.mem_singleton.mp hb]; exact l2) (Nat.ne_of_lt l1) (Nat.ne_of_lt (Nat.lt_succ_of_lt l2)), ⟨hz, hTI, ⟨_, _, hTO⟩, ItB.new h1, ItB.new h2⟩, fresh5, q⟩

def rowOf : T → Option (List T)
  | .tup xs => some xs
  | .lst xs => some xs
  | _ => none
/-- a row's place: a list or a tuple that stands -/
structure RowAt (G : Gd) (b : Bool) (a : Addr) (ts : List T) (S1 : Sto) (H1 : Hp) : Prop where
  get : ∀ (M' : Addr → Prop) S H, (∀ a, M' a → ¬ G.M a → H1 a = none) → StoOk (G.mask M') H S → Ext S1 H1 S H → ∃ ws, SqB b G.K H a ws ∧ Reps (G.mask M') H S ts ws
  len : ∀ S H, Ext S1 H1 S H → ∃ ws, SqB b G.K H a ws ∧ ws.length = ts.length
section
variable {G : Gd} {S1 : Sto} {H1 : Hp}
theorem row_list {a : Addr} {ws : List V} {ts : List T} (h : LstAt G H1 S1 a ws) (r : Reps G H1 S1 ts ws) : RowAt G true a ts S1 H1 :=
  ⟨fun M' S H nk o x => ⟨ws, (h.ext x).sq, Reps.ext x _ _ (Reps.mask (newK nk) _ _ r)⟩, fun S H x => ⟨ws, (h.ext x).sq, r.length.symm⟩⟩
theorem row_tup {a : Addr} {ws : List V} {ts : List T} (h : TupAt G H1 S1 a ws) (r : Reps G H1 S1 ts ws) : RowAt G false a ts S1 H1 :=
  ⟨fun M' S H nk o x => ⟨ws, (h.ext x).sq, Reps.ext x _ _ (Reps.mask (newK nk) _ _ r)⟩, fun S H x => ⟨ws, (h.ext x).sq, r.length.symm⟩⟩
theorem row_of {x : T} {v : V} {ts : List T} (r : Rep G H1 S1 x v) (e : rowOf x = some ts) : ∃ b a, v = .ref a ∧ RowAt G b a ts S1 H1 := by
  cases r with
  | tup h1 h2 =>
    obtain rfl := Option.some.inj e
    exact ⟨false, _, rfl, row_tup h1 h2⟩
  | lst h1 h2 =>
    obtain rfl := Option.some.inj e
    exact ⟨true, _, rfl, row_list h1 h2⟩
  | _ => cases e
def enumL (ts : List T) : List T := ts.zipIdx.map fun p => .tup [.int (p.2 : Nat), p.1]
def zipL (xs ys : List T) : List T := (xs.zip ys).map fun p => .tup [p.1, p.2]
theorem wks_enum {b : Bool} {a : Addr} {ts : List T} (h : RowAt G b a ts S1 H1) : Wks G (IteB b G.K a) (enumL ts) yes S1 H1 where
  go := fun M' S H i z nk o x _ hz => by
    obtain ⟨ws, q, r⟩ := h.get M' S H nk o x
    unfold enumL at hz
    rw [List.getElem?_map, List.getElem?_zipIdx] at hz
    cases hc : ts[i]? with
    | none => rw [hc] at hz; cases hz
    | some c =>
      rw [hc] at hz
      obtain rfl : T.tup [.int ((0 + i : Nat) : Int), c] = z := Option.some.inj hz
      obtain ⟨v, h1, h2⟩ := r.get hc
      refine ⟨⟨ws, v, q, h1⟩, ?_⟩
      rintro y H' ⟨A, w, rfl, hn, ⟨ob, nd, rfl⟩, hy⟩
      obtain rfl : v = w := Option.some.inj (h1.symm.trans (hy ws q))
      refine ⟨o.new hn, Ext.new hn, .tup (.inl ⟨ob, ⟨upd_same, nd⟩, o.free hn, o.nom hn⟩) (.cons ?_ (.cons (Rep.ext (Ext.new hn) _ _ h2) .nil))⟩
      rw [Nat.zero_add]
      exact .int _
  stop := fun M' S H o x _ => by
    obtain ⟨ws, q, l⟩ := h.len S H x
    exact ⟨ws, q, by unfold enumL; rw [List.length_map, List.length_zipIdx]; exact l⟩
theorem wks_zip {b1 b2 : Bool} {a c : Addr} {ts us : List T} (h : RowAt G b1 a ts S1 H1) (g : RowAt G b2 c us S1 H1) : Wks G (ItzB b1 b2 G.K a c) (zipL ts us) yes S1 H1 where
  go := fun M' S H i z nk o x _ hz => by
    obtain ⟨ws, q, r⟩ := h.get M' S H nk o x
    obtain ⟨ws2, q2, r2⟩ := g.get M' S H nk o x
    unfold zipL at hz
    rw [List.getElem?_map] at hz
    cases hc : (ts.zip us)[i]? with
    | none => rw [hc] at hz; cases hz
    | some p =>
      rw [hc] at hz
      obtain rfl : T.tup [p.1, p.2] = z := Option.some.inj hz
      obtain ⟨e1, e2⟩ := List.getElem?_zip_eq_some.mp hc
      obtain ⟨v, h1, h2⟩ := r.get e1
      obtain ⟨v2, k1, k2⟩ := r2.get e2
      refine ⟨⟨ws, ws2, v, v2, q, q2, h1, k1⟩, ?_⟩
      rintro y H' ⟨A, w, w2, rfl, hn, ⟨ob, nd, rfl⟩, hy, hy2⟩
      obtain rfl : v = w := Option.some.inj (h1.symm.trans (hy ws q))
      obtain rfl : v2 = w2 := Option.some.inj (k1.symm.trans (hy2 ws2 q2))
      exact ⟨o.new hn, Ext.new hn, .tup (.inl ⟨ob, ⟨upd_same, nd⟩, o.free hn, o.nom hn⟩) (.cons (Rep.ext (Ext.new hn) _ _ h2) (.cons (Rep.ext (Ext.new hn) _ _ k2) .nil))⟩
  stop := fun M' S H o x _ => by
    obtain ⟨ws, q, l⟩ := h.len S H x
    obtain ⟨ws2, q2, l2⟩ := g.len S H x
    have e : (zipL ts us).length = min ts.length us.length := by unfold zipL; rw [List.length_map, List.length_zip]
    exact ⟨ws, ws2, q, q2, by omega, by omega, by omega⟩
end
def iEnum (e : TTE) : TTI := fun τ S Q E => e τ S (fun x S1 => ∃ ts, rowOf x = some ts ∧ Q (enumL ts) yes S1) E
def iZip (a b : TTE) : TTI := fun τ S Q E => a τ S (fun x S1 => b τ S1 (fun y S2 => ∃ ts us, rowOf x = some ts ∧ rowOf y = some us ∧ Q (zipL ts us) yes S2) E) E
section
variable {X : Cx} {tg e a b : Expr} {te ta tb : TTE} {p pos tpos : Pos} {elts : List Expr} {kk : Nat}
theorem ti_enum (hg : Gl X "enumerate") (hm : X.mg "enumerate" = none) (ha : TE X a ta) (hs : starEach [a] X.env = [(false, eval a X.env)] := by rfl) : TI X (.Tuple elts kk tpos) (.Call (.Name "enumerate" p) [a] [] pos) (iEnum ta) := fun M S0 H0 E tk =>
  (pi_enumB hg hm (ta_cons ha ta_nil hs M S0 H0 E tk) hs).weak fun σ H R ⟨τ, S, Qt, rel, q, k⟩ => ⟨τ, S, fun zs S1 => ∃ x ts, zs = [x] ∧ rowOf x = some ts ∧ Qt (enumL ts) yes S1, rel, by
    have e : (fun (x : T) (S1 : Sto) => ∃ y ts, [x] = [y] ∧ rowOf y = some ts ∧ Qt (enumL ts) yes S1) = fun (x : T) (S1 : Sto) => ∃ ts, rowOf x = some ts ∧ Qt (enumL ts) yes S1 := by
      funext x S1
      simp only [List.cons.injEq, and_true]
      apply propext
      constructor
      · rintro ⟨y, ts, rfl, h⟩; exact ⟨ts, h⟩
      · rintro ⟨ts, h⟩; exact ⟨x, ts, rfl, h⟩
    show ta τ S (fun (x : T) (S1 : Sto) => ∃ y ts, [x] = [y] ∧ rowOf y = some ts ∧ Qt (enumL ts) yes S1) fun x S' => E x τ S'
    rw [e]
    exact q, fun zs S1 vs H1 hq o1 x1 r1 => by
    obtain ⟨x, ts, rfl, h1, hq⟩ := hq
    cases r1 with
    | cons r1 r2 =>
      cases r2
      obtain ⟨b, a, rfl, hr⟩ := row_of r1 h1
      obtain ⟨ws, q1, _⟩ := hr.len S1 H1 Ext.refl
      exact ⟨b, a, ws, rfl, q1, k _ _ S1 _ H1 hq o1 x1 (wks_enum hr)⟩⟩
theorem ti_zip (hg : Gl X "zip") (hm : X.mg "zip" = none) (ha : TE X a ta) (hb : TE X b tb) (hs : starEach [a, b] X.env = (false, eval a X.env) :: starEach [b] X.env := by rfl) (hs2 : starEach [b] X.env = [(false, eval b X.env)] := by rfl) (hpl : (backTo pos (starEach [b] X.env)).any (·.1) = false := by rfl) :
    TI X (.Tuple elts kk tpos) (.Call (.Name "zip" p) [a, b] [] pos) (iZip ta tb) := fun M S0 H0 E tk =>
  (pi_zipB hg hm (ta_cons ha (ta_cons hb ta_nil hs2) hs M S0 H0 E tk) hs hpl).weak fun σ H R ⟨τ, S, Qt, rel, q, k⟩ => ⟨τ, S, fun zs S1 => ∃ x y ts us, zs = [x, y] ∧ rowOf x = some ts ∧ rowOf y = some us ∧ Qt (zipL ts us) yes S1, rel, by
    have e : ∀ (x y : T) (S2 : Sto), (∃ x' y' ts us, [x, y] = [x', y'] ∧ rowOf x' = some ts ∧ rowOf y' = some us ∧ Qt (zipL ts us) yes S2) = ∃ ts us, rowOf x = some ts ∧ rowOf y = some us ∧ Qt (zipL ts us) yes S2 := fun x y S2 => by
      simp only [List.cons.injEq, and_true]
      apply propext
      constructor
      · rintro ⟨x', y', ts, us, ⟨rfl, rfl⟩, h⟩; exact ⟨ts, us, h⟩
      · rintro ⟨ts, us, h⟩; exact ⟨x, y, ts, us, ⟨rfl, rfl⟩, h⟩
    show ta τ S (fun x S1 => tb τ S1 (fun y S2 => ∃ x' y' ts us, [x, y] = [x', y'] ∧ rowOf x' = some ts ∧ rowOf y' = some us ∧ Qt (zipL ts us) yes S2) fun x S' => E x τ S') fun x S' => E x τ S'
    simp only [e]
    exact q, fun zs S1 vs H1 hq o1 x1 r1 => by
    obtain ⟨x, y, ts, us, rfl, h1, h2, hq⟩ := hq
    cases r1 with
    | cons r1 r2 =>
      cases r2 with
      | cons r2 r3 =>
        cases r3
        obtain ⟨b, a, rfl, hr⟩ := row_of r1 h1
        obtain ⟨b2, c, rfl, hr2⟩ := row_of r2 h2
        obtain ⟨ws, q1, _⟩ := hr.len S1 H1 Ext.refl
        obtain ⟨ws2, q2, _⟩ := hr2.len S1 H1 Ext.refl
        exact ⟨b, b2, a, c, ws, ws2, rfl, q1, q2, k _ _ S1 _ H1 hq o1 x1 (wks_zip hr hr2)⟩⟩
end
end TL
namespace TL
open PySem PySem.Spec PyProof.Rows L2
def kyT : T → Option Key
  | .int i => some (.inl i)
  | .str x => some (.inr (txt x))
  | _ => none
def dHs : List T → Key → Bool
  | k :: ks, x => if kyT k = some x then true else dHs ks x
  | [], _ => false
def dRp : List T → List T → Key → T → List T
  | k :: ks, v :: vs, x, y => (if kyT k = some x then y else v) :: dRp ks vs x y
  | _, _, _, _ => []
def dPk (ks : List T) (x : Key) (t : T) : List T := if dHs ks x = true then ks else ks ++ [t]
def dPv (ks vs : List T) (x : Key) (y : T) : List T := if dHs ks x = true then dRp ks vs x y else vs ++ [y]
section
variable {G : Gd} {H : Hp} {S : Sto}
def dView (S : Sto) : T → Option (List T × List T)
  | .dct false ks vs => some (ks, vs)
  | .ref a => match S a with
    | some (.dct false ks vs) => some (ks, vs)
    | _ => none
  | _ => none
end
section
variable {X : Cx} {a b c o i e : Expr} {ta tb tc to ti te : TTE} {pos pos' apos cpos : Pos}
end
end TL
namespace TL
open PySem PySem.Spec PyProof.Rows L2
inductive Res (κ α : Type) where
  | ok (a : α) (k : κ)
  | exc (x : T) (k : κ)
  | bad
def PM (κ α : Type) := κ → Res κ α
section
variable {κ α β γ : Type}
def pu (a : α) : PM κ α := fun k => .ok a k
def bd (m : PM κ α) (f : α → PM κ β) : PM κ β := fun k => match m k with
  | .ok a k' => f a k'
  | .exc x k' => .exc x k'
  | .bad => .bad
def thr (x : T) : PM κ α := fun k => .exc x k
def stuck : PM κ α := fun _ => .bad
def ofO (o : Option α) : PM κ α := fun k => match o with
  | some a => .ok a k
  | none => .bad
def gd (b : Prop) [Decidable b] : PM κ Unit := if b then pu () else stuck
def lft (m : PM Unit α) : PM κ α := fun k => match m () with
  | .ok a _ => .ok a k
  | .exc x _ => .exc x k
  | .bad => .bad
def Sat (r : Res κ α) (P : α → κ → Prop) (X : T → κ → Prop) : Prop := match r with
  | .ok a k => P a k
  | .exc x k => X x k
  | .bad => False
theorem bd_pu (m : PM κ α) : bd m pu = m := by
  funext k
  unfold bd pu
  cases m k <;> rfl
theorem pu_bd (a : α) (f : α → PM κ β) : bd (pu a) f = f a := rfl
theorem bd_bd (m : PM κ α) (f : α → PM κ β) (g : β → PM κ γ) : bd (bd m f) g = bd m fun a => bd (f a) g := by
  funext k
  unfold bd
  cases m k <;> rfl
theorem stuck_bd (f : α → PM κ β) : bd (stuck : PM κ α) f = stuck := rfl
theorem thr_bd (x : T) (f : α → PM κ β) : bd (thr x : PM κ α) f = thr x := rfl
theorem lft_pu (a : α) : lft (κ := κ) (pu a) = pu a := rfl
theorem ofO_some (a : α) : ofO (κ := κ) (some a) = pu a := rfl
theorem gd_true {b : Prop} [Decidable b] (h : b) : gd (κ := κ) b = pu () := if_pos h
theorem Sat.bd {m : PM κ α} {f : α → PM κ β} {k : κ} {P : β → κ → Prop} {X : T → κ → Prop} : Sat (bd m f k) P X ↔ Sat (m k) (fun a k' => Sat (f a k') P X) X := by
  unfold TL.bd
  cases m k <;> exact Iff.rfl
theorem Sat.mono {r : Res κ α} {P P' : α → κ → Prop} {X X' : T → κ → Prop} (h : Sat r P X) (h1 : ∀ a k, P a k → P' a k) (h2 : ∀ x k, X x k → X' x k) : Sat r P' X' := by
  cases r with
  | ok a k => exact h1 _ _ h
  | exc x k => exact h2 _ _ h
  | bad => exact h
theorem Sat.lft {m : PM Unit α} {k : κ} {P : α → κ → Prop} {X : T → κ → Prop} : Sat (lft m k) P X ↔ Sat (m ()) (fun a _ => P a k) (fun x _ => X x k) := by
  unfold TL.lft
  cases m () <;> exact Iff.rfl
end
abbrev Cs := List (Addr × Cell)
def emp : Sto := fun _ => none
structure SI {κ : Type} (W : κ → Sto) (l : Cs) (k : κ) (S : Sto) : Prop where
  at_ : ∀ e ∈ l, S e.1 = some e.2
  own : ∀ e ∈ l, W k e.1 = none
  nd : (l.map (·.1)).Nodup
  base : ∀ a c, W k a = some c → S a = some c
def En : TEnv → TEnv → Prop
  | [], [] => True
  | p :: ps, t :: ts => (p = none ∨ p = t) ∧ En ps ts
  | _, _ => False
theorem En.refl : ∀ τ, En τ τ
  | [] => trivial
  | _ :: ts => ⟨.inr rfl, En.refl ts⟩
theorem En.len : ∀ {p τ : TEnv}, En p τ → p.length = τ.length
  | [], [], _ => rfl
  | _ :: _, _ :: _, h => by rw [List.length_cons, List.length_cons, En.len h.2]
  | [], _ :: _, h => h.elim
  | _ :: _, [], h => h.elim
theorem En.get : ∀ {p τ : TEnv} {i : Nat} {x : T}, En p τ → p[i]? = some (some x) → τ[i]? = some (some x)
  | [], [], _, _, _, e => by simp at e
  | _ :: _, [], _, _, h, _ => h.elim
  | [], _ :: _, _, _, h, _ => h.elim
  | p :: ps, t :: ts, 0, x, h, e => by
    rw [List.getElem?_cons_zero] at e ⊢
    cases e
    rcases h.1 with z | z
    · cases z
    · rw [← z]
  | p :: ps, t :: ts, i + 1, x, h, e => by
    rw [List.getElem?_cons_succ] at e ⊢
    exact En.get h.2 e
theorem En.set : ∀ {p τ : TEnv} {i : Nat} {x : Option T}, En p τ → En (p.set i x) (τ.set i x)
  | [], [], _, _, h => h
  | _ :: _, [], _, _, h => h.elim
  | [], _ :: _, _, _, h => h.elim
  | _ :: _, _ :: _, 0, _, h => ⟨.inr rfl, h.2⟩
  | _ :: _, _ :: _, i + 1, _, h => ⟨h.1, En.set h.2⟩
theorem En.trans : ∀ {p q τ : TEnv}, En p q → En q τ → En p τ
  | [], [], [], _, _ => trivial
  | _ :: _, _ :: _, _ :: _, h, g => ⟨h.1.elim .inl fun e => g.1.elim (fun z => .inl (e.trans z)) fun z => .inr (e.trans z), En.trans h.2 g.2⟩
  | [], _ :: _, _, h, _ => h.elim
  | _ :: _, [], _, h, _ => h.elim
  | [], [], _ :: _, _, g => g.elim
  | _ :: _, _ :: _, [], _, g => g.elim
theorem En.wipe {p τ : TEnv} (h : En p τ) (vs : List Nat) : En (wipeT p vs) (wipeT τ vs) := by
  induction vs with
  | nil => exact h
  | cons v vs ih => exact En.set ih
/-- z, seen as v -/
def Vw (l : Cs) (z v : T) : Prop := z = v ∨ (∃ a xs, z = .ref a ∧ (a, Cell.lst xs) ∈ l ∧ v = .lst xs) ∨ ∃ a n ks vs, z = .ref a ∧ (a, Cell.dct n ks vs) ∈ l ∧ v = .dct n ks vs
def VwS (S : Sto) (z v : T) : Prop := z = v ∨ (∃ a xs, z = .ref a ∧ S a = some (.lst xs) ∧ v = .lst xs) ∨ ∃ a n ks vs, z = .ref a ∧ S a = some (.dct n ks vs) ∧ v = .dct n ks vs
section
variable {κ : Type} {W : κ → Sto} {l : Cs} {k : κ} {S : Sto}
theorem Vw.at {z v : T} (i : SI W l k S) (h : Vw l z v) : VwS S z v := h.imp id (Or.imp (fun ⟨a, xs, e, m, f⟩ => ⟨a, xs, e, i.at_ _ m, f⟩) fun ⟨a, n, ks, vs, e, m, f⟩ => ⟨a, n, ks, vs, e, i.at_ _ m, f⟩)
inductive VwsS (S : Sto) : List T → List T → Prop
  | nil : VwsS S [] []
  | cons {z v : T} {zs vs : List T} : VwS S z v → VwsS S zs vs → VwsS S (z :: zs) (v :: vs)
inductive Vws (l : Cs) : List T → List T → Prop
  | nil : Vws l [] []
  | cons {z v : T} {zs vs : List T} : Vw l z v → Vws l zs vs → Vws l (z :: zs) (v :: vs)
theorem Vws.at : ∀ {zs vs : List T}, SI W l k S → Vws l zs vs → VwsS S zs vs
  | _, _, _, .nil => .nil
  | _, _, i, .cons h t => .cons (h.at i) (Vws.at i t)
theorem SI.tail {e : Addr × Cell} (i : SI W (e :: l) k S) : SI W l k S := ⟨fun x h => i.at_ x (List.mem_cons_of_mem _ h), fun x h => i.own x (List.mem_cons_of_mem _ h), (List.nodup_cons.mp i.nd).2, i.base⟩
theorem SI.nil (i : SI W l k S) : SI W [] k S := ⟨fun _ h => (nomatch h), fun _ h => (nomatch h), List.nodup_nil, i.base⟩
/-- a new cell -/
theorem SI.new {a : Addr} {c : Cell} (i : SI W l k S) (n : S a = none) : SI W ((a, c) :: l) k (ups S a c) := by
  have na : ∀ e ∈ l, e.1 ≠ a := fun e h z => by have := i.at_ e h; rw [z, n] at this; cases this
  have nw : W k a = none := by
    cases q : W k a with
    | none => rfl
    | some d => rw [i.base a d q] at n; cases n
  refine ⟨fun e h => ?_, fun e h => ?_, List.nodup_cons.mpr ⟨fun h => ?_, i.nd⟩, fun b d h => ?_⟩
  · rcases List.mem_cons.mp h with z | z
    · subst z; exact ups_same
    · rw [ups_ne (na e z)]; exact i.at_ e z
  · rcases List.mem_cons.mp h with z | z
    · subst z; exact nw
    · exact i.own e z
  · obtain ⟨e, he, q⟩ := List.mem_map.mp h
    exact na e he q
  · have : b ≠ a := fun z => by rw [z, nw] at h; cases h
    rw [ups_ne this]
    exact i.base b d h
/-- a cell written -/
theorem SI.put {a : Addr} {c d : Cell} {l1 l2 : Cs} (i : SI W (l1 ++ (a, c) :: l2) k S) : SI W (l1 ++ (a, d) :: l2) k (ups S a d) := by
  have nd := i.nd
  rw [List.map_append, List.map_cons] at nd
  have hm : ∀ e, e ∈ l1 ++ l2 → e ∈ l1 ++ (a, c) :: l2 ∧ e.1 ≠ a := fun e h => by
    obtain ⟨n1, n2, n3⟩ := List.nodup_append.mp nd
    rcases List.mem_append.mp h with z | z
    · exact ⟨List.mem_append_left _ z, fun q => n3 e.1 (List.mem_map_of_mem z) a (by simp) q⟩
    · exact ⟨List.mem_append_right _ (List.mem_cons_of_mem _ z), fun q => (List.nodup_cons.mp n2).1 (by rw [← q]; exact List.mem_map_of_mem (f := (·.1)) z)⟩
  have ow := i.own (a, c) (List.mem_append_right _ List.mem_cons_self)
  have cut : ∀ e, e ∈ l1 ++ (a, d) :: l2 → e = (a, d) ∨ e ∈ l1 ++ l2 := fun e h => by
    rcases List.mem_append.mp h with z | z
    · exact .inr (List.mem_append_left _ z)
    · rcases List.mem_cons.mp z with z | z
      · exact .inl z
      · exact .inr (List.mem_append_right _ z)
  refine ⟨fun e h => ?_, fun e h => ?_, by rw [List.map_append, List.map_cons]; exact nd, fun b e h => ?_⟩
  · rcases cut e h with z | z
    · subst z; exact ups_same
    · obtain ⟨q1, q2⟩ := hm e z
      rw [ups_ne q2]
      exact i.at_ e q1
  · rcases cut e h with z | z
    · subst z; exact ow
    · exact i.own e (hm e z).1
  · have : b ≠ a := fun z => by rw [z] at h; rw [ow] at h; cases h
    rw [ups_ne this]
    exact i.base b e h
end
def OpV (op : Sto → T → T → Option T) : Prop := ∀ S z1 v1 z2 v2 r, VwS S z1 v1 → VwS S z2 v2 → op emp v1 v2 = some r → op S z1 z2 = some r
def UnV (op : Sto → T → Option T) : Prop := ∀ S z v r, VwS S z v → op emp v = some r → op S z = some r
def FnV (f : Sto → List T → Option T) : Prop := ∀ S zs vs r, VwsS S zs vs → f emp vs = some r → f S zs = some r
def MtV (f : Sto → T → List T → Option T) : Prop := ∀ S z v zs vs r, VwS S z v → VwsS S zs vs → f emp v vs = some r → f S z zs = some r
theorem res_ref_emp (a : Addr) : res emp (.ref a) = .ref a := rfl
/-- either resolved alike, or a thing that no operation takes -/
theorem VwS.res {S : Sto} {z v : T} (h : VwS S z v) : res S z = v ∧ res emp v = v ∨ (∃ a, v = .ref a) ∨ ∃ n ks vs, v = .dct n ks vs := by
  rcases h with rfl | ⟨a, xs, rfl, h, rfl⟩ | ⟨a, n, ks, vs, rfl, h, rfl⟩
  · cases z with
    | ref a => exact .inr (.inl ⟨a, rfl⟩)
    | _ => exact .inl ⟨rfl, rfl⟩
  · exact .inl ⟨by simp only [TL.res, h], rfl⟩
  · exact .inr (.inr ⟨n, ks, vs, rfl⟩)
theorem res_dct_emp (n : Bool) (ks vs : List T) : res emp (.dct n ks vs) = .dct n ks vs := rfl
theorem opv_of {op : Sto → T → T → Option T} (g : T → T → Option T) (h : ∀ S x y, op S x y = g (res S x) (res S y)) (n1 : ∀ a y, g (.ref a) y = none) (n2 : ∀ a x, g x (.ref a) = none)
    (n3 : ∀ n ks vs y, g (.dct n ks vs) y = none) (n4 : ∀ n ks vs x, g x (.dct n ks vs) = none) : OpV op := fun S z1 v1 z2 v2 r h1 h2 e => by
  rw [h] at e ⊢
  rcases h1.res with ⟨e1, e1'⟩ | ⟨a, rfl⟩ | ⟨n, ks, vs, rfl⟩
  · rcases h2.res with ⟨e2, e2'⟩ | ⟨a, rfl⟩ | ⟨n, ks, vs, rfl⟩
    · rw [e1, e2, ← e1', ← e2']; rw [e1', e2'] at e ⊢; exact e
    · rw [res_ref_emp, n2] at e; cases e
    · rw [res_dct_emp, n4] at e; cases e
  · rw [res_ref_emp, n1] at e; cases e
  · rw [res_dct_emp, n3] at e; cases e
theorem unv_of {op : Sto → T → Option T} (g : T → Option T) (h : ∀ S x, op S x = g (res S x)) (n1 : ∀ a, g (.ref a) = none) (n3 : ∀ n ks vs, g (.dct n ks vs) = none) : UnV op := fun S z v r h1 e => by
  rw [h] at e ⊢
  rcases h1.res with ⟨e1, e1'⟩ | ⟨a, rfl⟩ | ⟨n, ks, vs, rfl⟩
  · rw [e1]; rw [e1'] at e; exact e
  · rw [res_ref_emp, n1] at e; cases e
  · rw [res_dct_emp, n3] at e; cases e
/-- the first by its resolution, the second as it is -/
theorem opv_of1 {op : Sto → T → T → Option T} (g : T → T → Option T) (h : ∀ S x y, op S x y = g (res S x) y) (n1 : ∀ a y, g (.ref a) y = none) (n3 : ∀ n ks vs y, g (.dct n ks vs) y = none) (n2 : ∀ x ts, g x (.lst ts) = none) (n4 : ∀ n ks vs x, g x (.dct n ks vs) = none) : OpV op := fun S z1 v1 z2 v2 r h1 h2 e => by
  rw [h] at e ⊢
  have e2 : z2 = v2 := by
    rcases h2 with q | ⟨a, xs, _, _, rfl⟩ | ⟨a, n, ks, vs, _, _, rfl⟩
    · exact q
    · rw [n2] at e; cases e
    · rw [n4] at e; cases e
  subst e2
  rcases h1.res with ⟨e1, e1'⟩ | ⟨a, rfl⟩ | ⟨n, ks, vs, rfl⟩
  · rw [e1]; rw [e1'] at e; exact e
  · rw [res_ref_emp, n1] at e; cases e
  · rw [res_dct_emp, n3] at e; cases e
/-- numbers alone -/
theorem opv_flat {op : Sto → T → T → Option T} (g : T → T → Option T) (h : ∀ S x y, op S x y = g x y) (n1 : ∀ ts y, g (.lst ts) y = none) (n3 : ∀ n ks vs y, g (.dct n ks vs) y = none) (n2 : ∀ x ts, g x (.lst ts) = none) (n4 : ∀ n ks vs x, g x (.dct n ks vs) = none) : OpV op := fun S z1 v1 z2 v2 r h1 h2 e => by
  rw [h] at e ⊢
  have e2 : z2 = v2 := by
    rcases h2 with q | ⟨a, xs, _, _, rfl⟩ | ⟨a, n, ks, vs, _, _, rfl⟩
    · exact q
    · rw [n2] at e; cases e
    · rw [n4] at e; cases e
  have e1 : z1 = v1 := by
    rcases h1 with q | ⟨a, xs, _, _, rfl⟩ | ⟨a, n, ks, vs, _, _, rfl⟩
    · exact q
    · rw [n1] at e; cases e
    · rw [n3] at e; cases e
  rw [e1, e2]
  exact e
theorem opv_addT : OpV addT := opv_of (fun x y => match x, y with
  | .int i, .int j => some (.int (i + j))
  | .str a, .str b => if a.length + b.length ≤ sizeLine then some (.str (a ++ b)) else none
  | .tup a, .tup b => if a.length + b.length ≤ sizeLine then some (.tup (a ++ b)) else none
  | .lst a, .lst b => if a.length + b.length ≤ sizeLine then some (.lst (a ++ b)) else none
  | _, _ => none) (fun _ _ _ => rfl) (fun _ _ => rfl) (fun _ x => by cases x <;> rfl) (fun _ _ _ _ => rfl) fun _ _ _ x => by cases x <;> rfl
theorem opv_i2 {c : Int → Int → Bool} {f : Int → Int → T} : OpV (i2 c f) := opv_flat (fun x y => i2 c f emp x y) (fun _ _ _ => rfl) (fun _ _ => rfl) (fun _ _ _ _ => rfl) (fun x _ => by cases x <;> rfl) fun _ _ _ x => by cases x <;> rfl
theorem opv_powT : OpV powT := opv_i2
theorem okd_refN (a : Addr) : okd (.ref a) = false := rfl
theorem okd_dctN (n : Bool) (ks vs : List T) : okd (.dct n ks vs) = false := rfl
theorem opv_eqT : OpV eqT := opv_of (fun x y => if (okd x && okd y) = true then some (.bl (eqt x y)) else none) (fun _ _ _ => rfl) (fun _ _ => rfl) (fun _ x => by rw [okd_refN, Bool.and_false]; rfl) (fun _ _ _ _ => rfl) fun _ _ _ x => by rw [okd_dctN, Bool.and_false]; rfl
theorem opv_neT : OpV neT := opv_of (fun x y => if (okd x && okd y) = true then some (.bl (!eqt x y)) else none) (fun _ _ _ => rfl) (fun _ _ => rfl) (fun _ x => by rw [okd_refN, Bool.and_false]; rfl) (fun _ _ _ _ => rfl) fun _ _ _ x => by rw [okd_dctN, Bool.and_false]; rfl
theorem opv_ixT : OpV ixT := opv_of1 (fun x y => match x, y with
  | .lst ts, .int i => L2.atI ts i
  | .tup ts, .int i => L2.atI ts i
  | .str z, .int i => if z.length ≤ sizeLine then (L2.atI z i).map fun c => .str [c] else none
  | _, _ => none) (fun _ _ _ => rfl) (fun _ _ => rfl) (fun _ _ _ _ => rfl) (fun x _ => by cases x <;> rfl) fun _ _ _ x => by cases x <;> rfl
theorem kdOf_v {S : Sto} {z v : T} {k : Kd} (h : VwS S z v) (e : kdOf emp v = some k) : kdOf S z = some k := by
  rcases h with rfl | ⟨a, xs, rfl, h, rfl⟩ | ⟨a, n, ks', vs, rfl, h, rfl⟩
  · cases z with
    | ref a => cases e
    | dct n ks vs => cases n <;> exact e
    | _ => exact e
  · simp only [kdOf, h]
    exact e
  · cases n with
    | false => simp only [kdOf, h]; exact e
    | true => cases e
theorem unv_isiT {ks : List Kd} : UnV (isiT ks) := fun S z v r h e => by
  unfold isiT at e ⊢
  cases q : kdOf emp v with
  | none => rw [q] at e; cases e
  | some k => rw [kdOf_v h q]; rw [q] at e; exact e
theorem fnv_one {f : Sto → List T → Option T} (g : T → Option T) (h : ∀ S x, f S [x] = g (res S x)) (n0 : f emp [] = none) (n2 : ∀ x y zs, f emp (x :: y :: zs) = none) (n1 : ∀ a, g (.ref a) = none) (n3 : ∀ n ks vs, g (.dct n ks vs) = none) : FnV f := fun S zs vs r hv e => by
  cases hv with
  | nil => rw [n0] at e; cases e
  | cons h1 ht =>
    cases ht with
    | nil =>
      exact unv_of (op := fun S x => f S [x]) g h n1 n3 S _ _ r h1 e
    | cons h2 ht => rw [n2] at e; cases e
theorem fnv_lenF : FnV lenF := fnv_one (fun x => match x with
  | .lst ts => some (.int ts.length)
  | .tup ts => some (.int ts.length)
  | .str z => if z.length ≤ sizeLine then some (.int z.length) else none
  | _ => none) (fun _ _ => rfl) rfl (fun _ _ _ => rfl) (fun _ => rfl) fun _ _ _ => rfl
theorem fnv_allF : FnV allF := fnv_one (fun x => match x with
  | .lst ts => (blsOf ts).map fun bs => .bl (bs.all id)
  | _ => none) (fun _ _ => rfl) rfl (fun _ _ _ => rfl) (fun _ => rfl) fun _ _ _ => rfl
theorem VwsS.same {S : Sto} : ∀ (vs : List T), VwsS S vs vs
  | [] => .nil
  | _ :: vs => .cons (.inl rfl) (VwsS.same vs)
theorem mtv_joinF : MtV joinF := fun S z v zs vs r h hv e => by
  have hz : z = v := by
    rcases h with q | ⟨a, xs, _, _, rfl⟩ | ⟨a, n, ks, vs, _, _, rfl⟩
    · exact q
    · cases e
    · cases e
  subst hz
  cases hv with
  | nil => cases z <;> cases e
  | cons h1 ht =>
    cases ht with
    | cons h2 ht => cases z <;> cases e
    | nil =>
      cases z with
      | str a =>
        rcases h1.res with ⟨e1, e1'⟩ | ⟨b, rfl⟩ | ⟨n, ks, vs, rfl⟩
        · unfold joinF at e ⊢
          simp only at e ⊢
          rw [e1]
          rw [e1'] at e
          exact e
        · cases e
        · cases e
      | _ => cases e
end TL
namespace TL
open PySem PySem.Spec PyProof.Rows L2
section
variable {κ : Type} {α β γ : Type}
def XE (W : κ → Sto) (p : TEnv) (l : Cs) (e : TTE) (m : PM κ T) : Prop := ∀ (Q E : T → Sto → Prop) k τ S, En p τ → SI W l k S → Sat (m k) (fun v k' => ∀ S', SI W l k' S' → Q v S') (fun x k' => ∀ S', SI W [] k' S' → E x S') → e τ S Q E
def XV (W : κ → Sto) (p : TEnv) (l : Cs) (e : TTE) (m : PM κ T) : Prop := ∀ (Q E : T → Sto → Prop) k τ S, En p τ → SI W l k S → Sat (m k) (fun v k' => ∀ z S', SI W l k' S' → Vw l z v → Q z S') (fun x k' => ∀ S', SI W [] k' S' → E x S') → e τ S Q E
def XTs (W : κ → Sto) (p : TEnv) (l : Cs) (e : TTB) (m : PM κ Bool) : Prop := ∀ (Q : Bool → Sto → Prop) (E : T → Sto → Prop) k τ S, En p τ → SI W l k S → Sat (m k) (fun v k' => ∀ S', SI W l k' S' → Q v S') (fun x k' => ∀ S', SI W [] k' S' → E x S') → e τ S Q E
/-- arguments, exact or seen; in continuation form -/
def XA (W : κ → Sto) (p : TEnv) (l : Cs) (n : Nat) (a : TTA) (m : (List T → PM κ β) → PM κ β) : Prop := ∀ (K : List T → PM κ β) (P : β → κ → Prop) (X : T → κ → Prop) (Q : List T → Sto → Prop) (E : T → Sto → Prop) k τ S, En p τ → SI W l k S → Sat (m K k) P X →
  (∀ zs k' S', zs.length = n → SI W l k' S' → Sat (K zs k') P X → Q zs S') → (∀ x k' S', SI W [] k' S' → X x k' → E x S') → a τ S Q E
def XAV (W : κ → Sto) (p : TEnv) (l : Cs) (a : TTA) (m : (List T → PM κ β) → PM κ β) : Prop := ∀ (K : List T → PM κ β) (P : β → κ → Prop) (X : T → κ → Prop) (Q : List T → Sto → Prop) (E : T → Sto → Prop) k τ S, En p τ → SI W l k S → Sat (m K k) P X →
  (∀ zs vs k' S', Vws l zs vs → SI W l k' S' → Sat (K vs k') P X → Q zs S') → (∀ x k' S', SI W [] k' S' → X x k' → E x S') → a τ S Q E
/-- what is walked; y: nothing hangs on the store -/
def XI (W : κ → Sto) (p : TEnv) (l : Cs) (it : TTI) (m : PM κ (List T)) : Prop := ∀ (Q : List T → (Sto → Prop) → Sto → Prop) (E : T → Sto → Prop) k τ S, En p τ → SI W l k S → Sat (m k) (fun xs k' => ∀ S' g, SI W l k' S' → (∀ k S, SI W l k S → g S) → Q xs g S') (fun x k' => ∀ S', SI W [] k' S' → E x S') → it τ S Q E
def XIy (W : κ → Sto) (p : TEnv) (l : Cs) (it : TTI) (m : PM κ (List T)) : Prop := ∀ (Q : List T → (Sto → Prop) → Sto → Prop) (E : T → Sto → Prop) k τ S, En p τ → SI W l k S → Sat (m k) (fun xs k' => ∀ S', SI W l k' S' → Q xs yes S') (fun x k' => ∀ S', SI W [] k' S' → E x S') → it τ S Q E
variable {W : κ → Sto} {p : TEnv} {l : Cs} {e a b c : TTE} {m ma mb mc : PM κ T}
theorem XE.v (h : XE W p l e m) : XV W p l e m := fun Q E k τ S hE i s => h Q E k τ S hE i (s.mono (fun v k' q S' j => q v S' j (.inl rfl)) fun _ _ q => q)
theorem XIy.i {it : TTI} {m : PM κ (List T)} (h : XIy W p l it m) : XI W p l it m := fun Q E k τ S hE i s => h Q E k τ S hE i (s.mono (fun v k' q S' j => q S' yes j fun _ _ _ => trivial) fun _ _ q => q)
theorem xe_c {t : T} : XE W p l (cC t) (pu t) := fun Q E k τ S hE i s => s S i
theorem xe_var {i : Nat} {x : T} (h : p[i]? = some (some x)) : XE W p l (cVar i) (pu x) := fun Q E k τ S hE i s => ⟨x, hE.get h, s S i⟩
theorem xe_op {op : Sto → T → T → Option T} (ho : OpV op) (ha : XV W p l a ma) (hb : XV W p l b mb) : XE W p l (cOp op a b) (bd ma fun x => bd mb fun y => ofO (op emp x y)) := fun Q E k τ S hE i s => by
  refine ha _ _ k τ S hE i ((Sat.bd.mp s).mono (fun v k1 s1 z S1 i1 w1 => ?_) fun _ _ q => q)
  refine hb _ _ k1 τ S1 hE i1 ((Sat.bd.mp s1).mono (fun v2 k2 s2 z2 S2 i2 w2 => ?_) fun _ _ q => q)
  unfold ofO at s2
  cases q : op emp v v2 with
  | none => rw [q] at s2; exact s2.elim
  | some r => rw [q] at s2; exact ⟨r, ho S2 _ _ _ _ r (w1.at i2) (w2.at i2) q, s2 S2 i2⟩
theorem xe_un {op : Sto → T → Option T} (ho : UnV op) (ha : XV W p l a ma) : XE W p l (cUn op a) (bd ma fun x => ofO (op emp x)) := fun Q E k τ S hE i s => by
  refine ha _ _ k τ S hE i ((Sat.bd.mp s).mono (fun v k1 s1 z S1 i1 w1 => ?_) fun _ _ q => q)
  unfold ofO at s1
  cases q : op emp v with
  | none => rw [q] at s1; exact s1.elim
  | some r => rw [q] at s1; exact ⟨r, ho S1 _ _ r (w1.at i1) q, s1 S1 i1⟩
def tb (x : T) : PM κ Bool := match x with
  | .bl b => pu b
  | _ => stuck
theorem tb_bl {b : Bool} : tb (κ := κ) (.bl b) = pu b := rfl
theorem sat_tb {x : T} {k : κ} {P : Bool → κ → Prop} {X : T → κ → Prop} (h : Sat (tb x k) P X) : ∃ b, x = .bl b ∧ P b k := by
  cases x with
  | bl b => exact ⟨b, rfl, h⟩
  | _ => exact h.elim
theorem xb_val (ha : XE W p l a ma) : XTs W p l (bVal a) (bd ma tb) := fun Q E k τ S hE i s => by
  refine ha _ _ k τ S hE i ((Sat.bd.mp s).mono (fun v k1 s1 S1 i1 => ?_) fun _ _ q => q)
  obtain ⟨b, e, q⟩ := sat_tb s1
  exact ⟨b, e, q S1 i1⟩
variable {ca cb : TTB} {na nb : PM κ Bool}
theorem xb_or (ha : XTs W p l ca na) (hb : XTs W p l cb nb) : XTs W p l (bOr ca cb) (bd na fun t => if t = true then pu true else nb) := fun Q E k τ S hE i s => by
  refine ha _ _ k τ S hE i ((Sat.bd.mp s).mono (fun v k1 s1 S1 i1 => ?_) fun _ _ q => q)
  cases v with
  | false => exact hb _ _ k1 τ S1 hE i1 s1
  | true => exact s1 S1 i1
theorem xb_not (ha : XTs W p l ca na) : XTs W p l (bNot ca) (bd na fun t => pu !t) := fun Q E k τ S hE i s => by
  refine ha _ _ k τ S hE i ((Sat.bd.mp s).mono (fun v k1 s1 S1 i1 => s1 S1 i1) fun _ _ q => q)
theorem xe_and (ha : XE W p l a ma) (hb : XE W p l b mb) : XE W p l (cAnd a b) (bd ma fun x => bd (tb x) fun t => if t = true then mb else pu (.bl false)) := fun Q E k τ S hE i s => by
  refine ha _ _ k τ S hE i ((Sat.bd.mp s).mono (fun v k1 s1 S1 i1 => ?_) fun _ _ q => q)
  obtain ⟨t, e, q⟩ := sat_tb (Sat.bd.mp s1)
  refine ⟨t, e, ?_⟩
  cases t with
  | true => exact hb _ _ k1 τ S1 hE i1 q
  | false => exact q S1 i1
theorem xa_nil : XA (β := β) W p l 0 cNil (fun K => K []) := fun K P X Q E k τ S hE i s h _ => h [] k S rfl i s
theorem xa_cons {n : Nat} {r : TTA} {mr : (List T → PM κ β) → PM κ β} (ha : XE W p l a ma) (hr : XA W p l n r mr) : XA W p l (n + 1) (cCons a r) (fun K => bd ma fun x => mr fun xs => K (x :: xs)) := fun K P X Q E k τ S hE i s h hx => by
  refine ha _ _ k τ S hE i ((Sat.bd.mp s).mono (fun v k1 s1 S1 i1 => ?_) fun x k1 q S1 i1 => hx x k1 S1 i1 q)
  exact hr _ P X _ E k1 τ S1 hE i1 s1 (fun zs k2 S2 e i2 s2 => h (v :: zs) k2 S2 (by rw [List.length_cons, e]) i2 s2) hx
theorem xav_nil : XAV (β := β) W p l cNil (fun K => K []) := fun K P X Q E k τ S hE i s h _ => h [] [] k S .nil i s
theorem xav_cons {r : TTA} {mr : (List T → PM κ β) → PM κ β} (ha : XV W p l a ma) (hr : XAV W p l r mr) : XAV W p l (cCons a r) (fun K => bd ma fun x => mr fun xs => K (x :: xs)) := fun K P X Q E k τ S hE i s h hx => by
  refine ha _ _ k τ S hE i ((Sat.bd.mp s).mono (fun v k1 s1 z S1 i1 w1 => ?_) fun x k1 q S1 i1 => hx x k1 S1 i1 q)
  exact hr _ P X _ E k1 τ S1 hE i1 s1 (fun zs vs k2 S2 w2 i2 s2 => h (z :: zs) (v :: vs) k2 S2 (.cons w1 w2) i2 s2) hx
theorem small_line {n : Nat} (h : n ≤ 1000) : n ≤ sizeLine := by have := sizeLine_eq; omega
theorem xe_tup {n : Nat} {r : TTA} {mr : (List T → PM κ T) → PM κ T} (h : XA W p l n r mr) (hn : n ≤ 1000 := by decide) : XE W p l (cTup r) (mr fun xs => pu (.tup xs)) := fun Q E k τ S hE i s =>
  h _ _ _ _ E k τ S hE i s (fun zs k' S' e i' s' => ⟨by rw [e]; exact small_line hn, s' S' i'⟩) fun x k' S' i' q => q S' i'
theorem xe_lst {n : Nat} {r : TTA} {mr : (List T → PM κ T) → PM κ T} (h : XA W p l n r mr) (hn : n ≤ 1000 := by decide) : XE W p l (cLst r) (mr fun xs => pu (.lst xs)) := fun Q E k τ S hE i s =>
  h _ _ _ _ E k τ S hE i s (fun zs k' S' e i' s' => ⟨by rw [e]; exact small_line hn, s' S' i'⟩) fun x k' S' i' q => q S' i'
theorem xe_fn {g : Sto → List T → Option T} {r : TTA} {mr : (List T → PM κ T) → PM κ T} (hg : FnV g) (h : XAV W p l r mr) : XE W p l (cFn g r) (mr fun xs => ofO (g emp xs)) := fun Q E k τ S hE i s =>
  h _ _ _ _ E k τ S hE i s (fun zs vs k' S' w i' s' => by
    unfold ofO at s'
    cases q : g emp vs with
    | none => rw [q] at s'; exact s'.elim
    | some r => rw [q] at s'; exact ⟨r, hg S' _ _ r (w.at i') q, s' S' i'⟩) fun x k' S' i' q => q S' i'
/-- methods of texts and tuples -/
theorem xe_m {kk : T → Bool} {f : Sto → T → List T → Option T} {r : TTA} {mr : T → (List T → PM κ T) → PM κ T} (hf : MtV f) (ha : XE W p l a ma) (h : ∀ x, XAV W p l r (mr x)) :
    XE W p l (cM kk f a r) (bd ma fun x => bd (gd (kk x = true)) fun _ => mr x fun xs => ofO (f emp x xs)) := fun Q E k τ S hE i s => by
  refine ha _ _ k τ S hE i ((Sat.bd.mp s).mono (fun v k1 s1 S1 i1 => ?_) fun _ _ q => q)
  have s2 := Sat.bd.mp s1
  unfold gd at s2
  by_cases hk : kk v = true
  · rw [if_pos hk] at s2
    refine ⟨hk, h v _ _ _ _ E k1 τ S1 hE i1 s2 (fun zs vs k' S' w i' s' => ?_) fun x k' S' i' q => q S' i'⟩
    unfold ofO at s'
    cases q : f emp v vs with
    | none => rw [q] at s'; exact s'.elim
    | some r => rw [q] at s'; exact ⟨r, hf S' _ _ _ _ r (.inl rfl) (w.at i') q, s' S' i'⟩
  · rw [if_neg hk] at s2; exact s2.elim
def intO (x : T) : PM κ Int := match x with
  | .int i => pu i
  | _ => stuck
theorem intO_int {i : Int} : intO (κ := κ) (.int i) = pu i := rfl
def itemsM (v : T) : PM κ (List T) := match v with
  | .tup xs => pu xs
  | .lst xs => pu xs
  | .str x => pu (x.map fun c => .str [c])
  | _ => stuck
theorem itemsM_tup {xs : List T} : itemsM (κ := κ) (.tup xs) = pu xs := rfl
theorem itemsM_lst {xs : List T} : itemsM (κ := κ) (.lst xs) = pu xs := rfl
theorem itemsM_str {x : List Sg} : itemsM (κ := κ) (.str x) = pu (x.map fun c => .str [c]) := rfl
theorem xiy_seq (ha : XE W p l a ma) : XIy W p l (iSeq a) (bd ma itemsM) := fun Q E k τ S hE i s => by
  refine ha _ _ k τ S hE i ((Sat.bd.mp s).mono (fun v k1 s1 S1 i1 => ?_) fun _ _ q => q)
  cases v with
  | tup xs => exact ⟨_, rfl, s1 S1 i1⟩
  | lst xs => exact ⟨_, rfl, s1 S1 i1⟩
  | str xs => exact ⟨_, rfl, s1 S1 i1⟩
  | _ => exact s1.elim
def rng1 (x : T) : PM κ (List T) := match x with
  | .int j => bd (gd (-(2 ^ 62) ≤ j ∧ j < 2 ^ 62)) fun _ => pu ((List.range j.toNat).map fun i => T.int (0 + (i : Nat)))
  | _ => stuck
theorem rng1_int {j : Int} (h : -(2 ^ 62) ≤ j ∧ j < 2 ^ 62) : rng1 (κ := κ) (.int j) = pu ((List.range j.toNat).map fun i => T.int (0 + (i : Nat))) := by
  show bd (gd _) _ = _
  rw [gd_true h]; rfl
theorem sat_gd {b : Prop} [Decidable b] {k : κ} {P : Unit → κ → Prop} {X : T → κ → Prop} (h : Sat (gd b k) P X) : b ∧ P () k := by
  unfold gd at h
  split at h
  · exact ⟨by assumption, h⟩
  · exact h.elim
theorem xiy_range1 (ha : XE W p l a ma) : XIy W p l (iRange1 a) (bd ma rng1) := fun Q E k τ S hE i s => by
  refine ha _ _ k τ S hE i ((Sat.bd.mp s).mono (fun v k1 s1 S1 i1 => ?_) fun _ _ q => q)
  cases v with
  | int j =>
    obtain ⟨hb, q⟩ := sat_gd (Sat.bd.mp s1)
    exact ⟨j, rfl, hb.1, hb.2, q S1 i1⟩
  | _ => exact s1.elim
def enumM (v : T) : PM κ (List T) := match rowOf v with
  | some ts => pu (enumL ts)
  | none => stuck
def zipM (x y : T) : PM κ (List T) := match rowOf x, rowOf y with
  | some ts, some us => pu (zipL ts us)
  | _, _ => stuck
theorem xiy_enum (ha : XE W p l a ma) : XIy W p l (iEnum a) (bd ma enumM) := fun Q E k τ S hE i s => by
  refine ha _ _ k τ S hE i ((Sat.bd.mp s).mono (fun v k1 s1 S1 i1 => ?_) fun _ _ q => q)
  unfold enumM at s1
  cases q : rowOf v with
  | none => simp only [q] at s1; exact s1.elim
  | some ts => simp only [q] at s1; exact ⟨ts, rfl, s1 S1 i1⟩
theorem xiy_zip (ha : XE W p l a ma) (hb : XE W p l b mb) : XIy W p l (iZip a b) (bd ma fun x => bd mb fun y => zipM x y) := fun Q E k τ S hE i s => by
  refine ha _ _ k τ S hE i ((Sat.bd.mp s).mono (fun v k1 s1 S1 i1 => ?_) fun _ _ q => q)
  refine hb _ _ k1 τ S1 hE i1 ((Sat.bd.mp s1).mono (fun v2 k2 s2 S2 i2 => ?_) fun _ _ q => q)
  unfold zipM at s2
  cases q : rowOf v with
  | none => simp only [q] at s2; exact s2.elim
  | some ts =>
    cases q2 : rowOf v2 with
    | none => simp only [q, q2] at s2; exact s2.elim
    | some us => simp only [q, q2] at s2; exact ⟨ts, us, rfl, rfl, s2 S2 i2⟩
theorem enumM_lst {xs : List T} : enumM (κ := κ) (.lst xs) = pu (enumL xs) := rfl
theorem zipM_tt {xs ys : List T} : zipM (κ := κ) (.tup xs) (.tup ys) = pu (zipL xs ys) := rfl
theorem zipM_ll {xs ys : List T} : zipM (κ := κ) (.lst xs) (.lst ys) = pu (zipL xs ys) := rfl
def spU (f : List T → PM Unit T) : SpT := fun ts S Q E => Sat (f ts ()) (fun v _ => Q v S) (fun x _ => E x S)
def spP (f : List T → PM Cell T) : SpT := fun ts S Q E => ∃ p rest c, ts = .ref p :: rest ∧ S p = some c ∧ Sat (f rest c) (fun v c' => Q v (ups S p c')) (fun x c' => E x (ups S p c'))
theorem xe_call {n : Nat} {f : List T → PM Unit T} {r : TTA} {mr : (List T → PM κ T) → PM κ T} (h : XA W p l n r mr) : XE W p l (cCall (spU f) r) (mr fun xs => lft (f xs)) := fun Q E k τ S hE i s =>
  h _ _ _ _ E k τ S hE i s (fun zs k' S' e i' s' => (Sat.lft.mp s').mono (fun v _ q => q S' i') fun x _ q => q S' i'.nil) fun x k' S' i' q => q S' i'
/-- by the pen -/
abbrev penW (S0 : Sto) (a : Addr) : Cell → Sto := fun c => ups S0 a c
theorem SI.pen {S0 : Sto} {a : Addr} {c d : Cell} {S : Sto} (i : SI (penW S0 a) l c S) : SI (penW S0 a) l d (ups S a d) := by
  have ne : ∀ e ∈ l, e.1 ≠ a := fun e h z => by
    have := i.own e h
    rw [z] at this
    rw [show penW S0 a c a = some c from ups_same] at this
    cases this
  refine ⟨fun e h => by rw [ups_ne (ne e h)]; exact i.at_ e h, fun e h => ?_, i.nd, fun b q h => ?_⟩
  · have := i.own e h
    rw [show penW S0 a c e.1 = S0 e.1 from ups_ne (ne e h)] at this
    rw [show penW S0 a d e.1 = S0 e.1 from ups_ne (ne e h)]
    exact this
  · by_cases hb : b = a
    · subst hb
      rw [show penW S0 b d b = some d from ups_same] at h
      cases h
      exact ups_same
    · rw [show penW S0 a d b = S0 b from ups_ne hb] at h
      rw [ups_ne hb]
      exact i.base b q (by rw [show penW S0 a c b = S0 b from ups_ne hb]; exact h)
end
section
variable {S0 : Sto} {pa : Addr} {p : TEnv} {l : Cs}
theorem xe_callP {n : Nat} {f : List T → PM Cell T} {i : Nat} {r : TTA} {mr : (List T → PM Cell T) → PM Cell T} (hp : p[i]? = some (some (.ref pa))) (h : XA (penW S0 pa) p l n r mr) : XE (penW S0 pa) p l (cCall (spP f) (cCons (cVar i) r)) (mr f) := fun Q E k τ S hE i s => by
  refine ⟨.ref pa, hE.get hp, ?_⟩
  refine h _ _ _ _ E k τ S hE i s (fun zs k' S' e i' s' => ?_) fun x k' S' i' q => q S' i'
  exact ⟨pa, zs, k', rfl, i'.base pa k' ups_same, s'.mono (fun v c' q => q _ i'.pen) fun x c' q => q _ i'.pen.nil⟩
end
end TL
namespace TL
open PySem PySem.Spec PyProof.Rows L2
def FzE (S S2 : Sto) (τ τ2 : TEnv) : Prop := τ.length = τ2.length ∧ ∀ (i : Nat) (u : T), τ2[i]? = some (some u) → ∃ t, τ[i]? = some (some t) ∧ Fz S S2 t u
def cDrop (t : TTS) : TTS := fun D τ S E => ∃ τ2 S2, Sub S2 S ∧ FzE S S2 τ τ2 ∧ t D τ2 S2 E
theorem tss_drop {X : Cx} {rest : List Stmt} {t : TTS} (h : TSs X rest t) : TSs X rest (cDrop t) := fun M S0 H0 E tk =>
  (h M S0 H0 E tk).weak fun D σ H ⟨τ, S, B, rel, ⟨τ2, S2, sub, fz, q⟩, k1, k2, k3, k4⟩ =>
    have x := sub.ext (H := H)
    ⟨τ2, S2, B, ⟨⟨rel.env.1.trans fz.1, fun i u e => by
      obtain ⟨t, e1, f⟩ := fz.2 i u e
      obtain ⟨v, h1, h2⟩ := rel.env.2 i t e1
      exact ⟨v, h1, Fz.rep rel.sto sub f h2⟩⟩, rel.sto.drop sub, rel.ext.trans x⟩, q, fun σ' H' τ' S' r x' => k1 σ' H' τ' S' r (x.trans x'), fun z S' v H' o x' => k2 z S' v H' o (x.trans x'),
      fun σ' H' τ' S' r x' => k3 σ' H' τ' S' r (x.trans x'), fun σ' H' τ' S' r x' => k4 σ' H' τ' S' r (x.trans x')⟩

inductive Dest where
  | nx (p : TEnv) (l : Cs)
  | rt (v : T)
  | bk (p : TEnv) (l : Cs)
  | ct (p : TEnv) (l : Cs)
  | fin
section
variable {κ : Type} {α β γ σ : Type}
def DOk (W : κ → Sto) (D : TD) (k : κ) : Dest → Prop
  | .nx p l => ∀ τ S, En p τ → SI W l k S → D.nx τ S
  | .rt v => ∀ l z S, SI W l k S → Vw l z v → D.rt z S
  | .bk p l => ∀ τ S, En p τ → SI W l k S → D.bk τ S
  | .ct p l => ∀ τ S, En p τ → SI W l k S → D.ct τ S
  | .fin => ∀ τ l S, SI W l k S → D.nx τ S
def XS (W : κ → Sto) (p : TEnv) (l : Cs) (t : TTS) (m : PM κ β) (post : β → Dest) : Prop := ∀ (D : TD) (E : T → TEnv → Sto → Prop) k τ S, En p τ → SI W l k S →
  Sat (m k) (fun b k' => DOk W D k' (post b)) (fun x k' => ∀ τ' S', SI W [] k' S' → E x τ' S') → t D τ S E
/-- a target, a body -/
def XF (W : κ → Sto) (p : TEnv) (l : Cs) (g : TTG) (t : TTS) (m : PM κ β) (post : β → Dest) (z : T) : Prop := ∀ (D : TD) (E : T → TEnv → Sto → Prop) k τ S, En p τ → SI W l k S →
  Sat (m k) (fun b k' => DOk W D k' (post b)) (fun x k' => ∀ τ' S', SI W [] k' S' → E x τ' S') → g z τ S fun τ1 S1 => t D τ1 S1 E
/-- a comprehension's turn -/
def XCi (W : κ → Sto) (p : TEnv) (l : Cs) (g : TTG) (c : TTB) (e : TTE) (m : PM κ (Option T)) (z : T) : Prop := ∀ (R : T → Sto → Prop) (N : Sto → Prop) k τ S, En p τ → SI W l k S →
  Sat (m k) (fun o k' => ∀ S', SI W l k' S' → match o with | some y => R y S' | none => N S') (fun _ _ => False) → g z τ S fun τ1 S1 => c τ1 S1 (fun b S2 => if b = true then e τ1 S2 R (fun _ _ => False) else N S2) fun _ _ => False
def XGt (g : TTG) (p : TEnv) (u : T → Option β) (pf : β → TEnv) : Prop := ∀ z b τ S Q, u z = some b → En p τ → (∀ τ', En (pf b) τ' → Q τ' S) → g z τ S Q
def un2 : T → Option (T × T)
  | .tup [a, b] => some (a, b)
  | _ => none
def un3 : T → Option (T × T × T)
  | .tup [a, b, c] => some (a, b, c)
  | _ => none
def un4 : T → Option (T × T × T × T)
  | .tup [a, b, c, d] => some (a, b, c, d)
  | _ => none
theorem un2_tup {a b : T} : un2 (.tup [a, b]) = some (a, b) := rfl
theorem un3_tup {a b c : T} : un3 (.tup [a, b, c]) = some (a, b, c) := rfl
theorem un4_tup {a b c d : T} : un4 (.tup [a, b, c, d]) = some (a, b, c, d) := rfl
theorem un2_is {z : T} {b : T × T} (h : un2 z = some b) : z = .tup [b.1, b.2] := by
  unfold un2 at h
  split at h
  · cases h; rfl
  · cases h
variable {W : κ → Sto} {p : TEnv} {l : Cs}
theorem xg_2 {i j : Nat} : XGt (gT (gC (gN i) (gC (gN j) gZ))) p un2 (fun b => (p.set i (some b.1)).set j (some b.2)) := fun z b τ S Q e h q => by
  rw [un2_is e]
  exact ⟨_, rfl, _, _, rfl, _, _, rfl, rfl, q _ h.set.set⟩
theorem sat_ofO {o : Option α} {k : κ} {P : α → κ → Prop} {X : T → κ → Prop} (h : Sat (ofO o k) P X) : ∃ a, o = some a ∧ P a k := by
  cases o with
  | none => exact h.elim
  | some a => exact ⟨a, rfl, h⟩
theorem xf_name {i : Nat} {t : TTS} {m : PM κ β} {post : β → Dest} {z : T} (h : XS W (p.set i (some z)) l t m post) : XF W p l (gN i) t m post z := fun D E k τ S hE i s => h D E k _ S hE.set i s
theorem xf_un {δ : Type} {g : TTG} {t : TTS} {u : T → Option δ} {pf : δ → TEnv} {f : δ → PM κ β} {post : β → Dest} {z : T} (hg : XGt g p u pf) (h : ∀ b, XS W (pf b) l t (f b) post) : XF W p l g t (bd (ofO (u z)) f) post z := fun D E k τ S hE i s => by
  obtain ⟨b, e, s1⟩ := sat_ofO (Sat.bd.mp s)
  exact hg z b τ S _ e hE fun τ' hE' => h b D E k τ' S hE' i s1
/-- nothing is raised -/
def nox (m : PM κ α) : PM κ α := fun k => match m k with
  | .ok a k' => .ok a k'
  | _ => .bad
theorem nox_pu {a : α} : nox (κ := κ) (pu a) = pu a := rfl
theorem sat_nox {m : PM κ α} {k : κ} {P : α → κ → Prop} {X : T → κ → Prop} (h : Sat (nox m k) P X) : Sat (m k) P (fun _ _ => False) := by
  unfold nox at h
  cases q : m k with
  | ok a k' => rw [q] at h; exact h
  | exc x k' => rw [q] at h; exact h
  | bad => rw [q] at h; exact h
def compM (f : T → PM κ (Option T)) : List T → PM κ (List T)
  | [] => pu []
  | x :: xs => bd (nox (f x)) fun o => bd (compM f xs) fun ys => pu (o.toList ++ ys)
def compG (f : T → PM κ (Option T)) (xs : List T) : PM κ (List T) := bd (gd (xs.length ≤ sizeLine)) fun _ => compM f xs
section
variable {g : TTG} {c : TTB} {e : TTE} {own : List Nat} {it : TTI} {mi : PM κ (List T)} {f : T → PM κ (Option T)}
theorem comp_run {gd : Sto → Prop} (hgd : ∀ k S, SI W l k S → gd S) (hf : ∀ x, XCi W (wipeT p own) l g c e (f x) x) {K : List T → Sto → Prop} {X : T → κ → Prop} {τ : TEnv} (hE : En p τ) : ∀ (xs acc : List T) (k : κ) (S : Sto), SI W l k S → acc.length + xs.length ≤ sizeLine →
    Sat (compM f xs k) (fun ys k' => ∀ S', SI W l k' S' → K (acc ++ ys) S') X → compT g c e own gd τ K xs acc S
  | [], acc, k, S, i, _, s => ⟨hgd _ _ i, by simpa using s S i⟩
  | x :: xs, acc, k, S, i, hl, s => by
    rw [List.length_cons] at hl
    refine ⟨hgd _ _ i, hf x _ _ k _ S (hE.wipe own) i ((sat_nox (Sat.bd.mp s)).mono (fun o k1 s1 S1 i1 => ?_) fun _ _ q => q)⟩
    have s2 := Sat.bd.mp s1
    cases o with
    | none => exact comp_run hgd hf hE xs acc k1 S1 i1 (by omega) (X := X) (s2.mono (fun ys k2 q S' i' => q S' i') fun _ _ q => q)
    | some y => exact ⟨by omega, comp_run hgd hf hE xs (acc ++ [y]) k1 S1 i1 (by simp; omega) (X := X) (s2.mono (fun ys k2 q S' i' => by
        have q := q S' i'
        simpa using q) fun _ _ q => q)⟩
theorem xe_comp (hi : XI W p l it mi) (hf : ∀ x, XCi W (wipeT p own) l g c e (f x) x) : XE W p l (cComp it g c e own) (bd mi fun xs => bd (compG f xs) fun ys => pu (.lst ys)) := fun Q E k τ S hE i s => by
  refine hi _ _ k τ S hE i ((Sat.bd.mp s).mono (fun xs k1 s1 S1 gd i1 hgd => ?_) fun _ _ q => q)
  have s2 := Sat.bd.mp s1
  obtain ⟨hl, s3⟩ := sat_gd (Sat.bd.mp s2)
  exact comp_run hgd hf hE xs [] k1 S1 i1 (by simpa using hl) s3
theorem xc_nameY {i : Nat} {me : PM κ T} {z : T} (he : XE W (p.set i (some z)) l e me) : XCi W p l (gN i) bYes e (bd me fun y => pu (some y)) z := fun R N k τ S hE i s =>
  he _ _ k _ S hE.set i ((Sat.bd.mp s).mono (fun v k2 s2 S2 i2 => s2 S2 i2) fun _ _ q => q.elim)
theorem xc_un {δ : Type} {u : T → Option δ} {pf : δ → TEnv} {mc : δ → PM κ Bool} {me : δ → PM κ T} {z : T} (hg : XGt g p u pf) (hc : ∀ b, XTs W (pf b) l c (mc b)) (he : ∀ b, XE W (pf b) l e (me b)) : XCi W p l g c e (bd (ofO (u z)) fun b => bd (mc b) fun t => if t = true then bd (me b) fun y => pu (some y) else pu none) z := fun R N k τ S hE i s => by
  obtain ⟨b, e, s⟩ := sat_ofO (Sat.bd.mp s)
  refine hg z b τ S _ e hE fun τ' hE' => ?_
  refine hc b _ _ k _ S hE' i ((Sat.bd.mp s).mono (fun d k1 s1 S1 i1 => ?_) fun _ _ q => q.elim)
  cases d with
  | true => exact he b _ _ k1 _ S1 hE' i1 ((Sat.bd.mp s1).mono (fun v k2 s2 S2 i2 => s2 S2 i2) fun _ _ q => q.elim)
  | false => exact s1 S1 i1
theorem xc_unY {δ : Type} {u : T → Option δ} {pf : δ → TEnv} {me : δ → PM κ T} {z : T} (hg : XGt g p u pf) (he : ∀ b, XE W (pf b) l e (me b)) : XCi W p l g bYes e (bd (ofO (u z)) fun b => bd (me b) fun y => pu (some y)) z := fun R N k τ S hE i s => by
  obtain ⟨b, e, s⟩ := sat_ofO (Sat.bd.mp s)
  refine hg z b τ S _ e hE fun τ' hE' => ?_
  exact he b _ _ k _ S hE' i ((Sat.bd.mp s).mono (fun v k2 s2 S2 i2 => s2 S2 i2) fun _ _ q => q.elim)
end
def XN (W : κ → Sto) (p : TEnv) (l : Cs) (e : TTE) (m : PM κ α) (z : α → Addr → T) (cc : α → Addr → Cs) : Prop := ∀ (Q E : T → Sto → Prop) k τ S, En p τ → SI W l k S → Sat (m k) (fun v k' => ∀ S' a, SI W (cc v a ++ l) k' S' → Q (z v a) S') (fun x k' => ∀ S', SI W [] k' S' → E x S') → e τ S Q E
theorem xn_e {e : TTE} {m : PM κ T} (h : XE W p l e m) : XN W p l e m (fun v _ => v) (fun _ _ => []) := fun Q E k τ S hE i s => h Q E k τ S hE i (s.mono (fun v k' q S' i' => q S' 0 i') fun _ _ q => q)
variable {t u : TTS} {post : β → Dest} {e : TTE} {m : PM κ T}
theorem xs_assoc {t1 t2 : TTS} {m : PM κ β} (h : XS W p l (cSeq t1 (cSeq t2 u)) m post) : XS W p l (cSeq (cSeq t1 t2) u) m post := h
theorem xs_skipseq {m : PM κ β} (h : XS W p l u m post) : XS W p l (cSeq cSkip u) m post := h
theorem xs_skip {b : β} {p' : TEnv} (hp : post b = .nx p' l) (h : En p' p) : XS W p l cSkip (pu b) post := fun D E k τ S hE i s => by
  have s : DOk W D k (post b) := s
  rw [hp] at s
  exact s τ S (h.trans hE) i
theorem xs_ret {g : T → β} (hp : ∀ v, post (g v) = .rt v) (h : XV W p l e m) : XS W p l (cSeq (cRet e) u) (bd m fun v => pu (g v)) post := fun D E k τ S hE i s =>
  h _ _ k τ S hE i ((Sat.bd.mp s).mono (fun v k1 s1 z S1 i1 w1 => by
    have s1 : DOk W D k1 (post (g v)) := s1
    rw [hp] at s1
    exact s1 l z S1 i1 w1) fun x k1 q S1 i1 => q τ S1 i1)
theorem xs_set {i : Nat} {f : T → PM κ β} (he : XE W p l e m) (h : ∀ v, XS W (p.set i (some v)) l u (f v) post) : XS W p l (cSeq (cSet i e) u) (bd m f) post := fun D E k τ S hE j s =>
  he _ _ k τ S hE j ((Sat.bd.mp s).mono (fun v k1 s1 S1 i1 => h v D E k1 _ S1 hE.set i1 s1) fun x k1 q S1 i1 => q τ S1 i1)
theorem xs_new {i : Nat} {m : PM κ α} {z : α → Addr → T} {cc : α → Addr → Cs} {f : α → PM κ β} (he : XN W p l e m z cc) (h : ∀ v a, XS W (p.set i (some (z v a))) (cc v a ++ l) u (f v) post) : XS W p l (cSeq (cSet i e) u) (bd m f) post := fun D E k τ S hE j s =>
  he _ _ k τ S hE j ((Sat.bd.mp s).mono (fun v k1 s1 S1 a i1 => h v a D E k1 _ S1 hE.set i1 s1) fun x k1 q S1 i1 => q τ S1 i1)
theorem xs_par2 {α1 α2 : Type} {i j : Nat} {ea eb : TTE} {ma : PM κ α1} {mb : PM κ α2} {z1 : α1 → Addr → T} {c1 : α1 → Addr → Cs} {z2 : α2 → Addr → T} {c2 : α2 → Addr → Cs} {f : α1 → α2 → PM κ β} (ha : XN W p l ea ma z1 c1) (hb : ∀ v a, XN W p (c1 v a ++ l) eb mb z2 c2)
    (h : ∀ v a w b, XS W ((p.set i (some (z1 v a))).set j (some (z2 w b))) (c2 w b ++ (c1 v a ++ l)) u (f v w) post) : XS W p l (cSeq (cPar2 i j ea eb) u) (bd ma fun x => bd mb fun y => f x y) post := fun D E k τ S hE _ s => by
  refine ha _ _ k τ S hE (by assumption) ((Sat.bd.mp s).mono (fun v k1 s1 S1 a i1 => ?_) fun x k1 q S1 i1 => q τ S1 i1)
  refine hb v a _ _ k1 τ S1 hE i1 ((Sat.bd.mp s1).mono (fun w k2 s2 S2 b i2 => ?_) fun x k1 q S1 i1 => q τ S1 i1)
  exact h v a w b D E k2 _ S2 hE.set.set i2 s2
def appM (xs : List T) (y : T) : PM κ (List T) := bd (gd (xs.length < sizeLine)) fun _ => pu (xs ++ [y])
def extM (xs : List T) (y : T) : PM κ (List T) := match y with
  | .lst zs => bd (gd (xs.length + zs.length ≤ sizeLine)) fun _ => pu (xs ++ zs)
  | .tup zs => bd (gd (xs.length + zs.length ≤ sizeLine)) fun _ => pu (xs ++ zs)
  | _ => stuck
theorem xs_app {i : Nat} {a : Addr} {xs : List T} {l1 l2 : Cs} {f : List T → PM κ β} (hp : p[i]? = some (some (.ref a))) (he : XE W p (l1 ++ (a, .lst xs) :: l2) e m) (h : ∀ ys, XS W p (l1 ++ (a, .lst ys) :: l2) u (f ys) post) :
    XS W p (l1 ++ (a, .lst xs) :: l2) (cSeq (cDo (cApp (cVar i) e)) u) (bd m fun y => bd (appM xs y) f) post := fun D E k τ S hE j s => by
  refine ⟨.ref a, hE.get hp, a, xs, rfl, j.at_ (a, .lst xs) (by simp), ?_⟩
  refine he _ _ k τ S hE j ((Sat.bd.mp s).mono (fun v k1 s1 S1 i1 => ?_) fun x k1 q S1 i1 => q τ S1 i1)
  obtain ⟨hl, s2⟩ := sat_gd (Sat.bd.mp (Sat.bd.mp s1))
  exact ⟨xs, i1.at_ (a, .lst xs) (by simp), hl, h _ D E k1 τ _ hE i1.put s2⟩
theorem xs_ifE {c : TTB} {mc : PM κ Bool} {A B : TTS} {mA mB : PM κ β} (hc : XTs W p l c mc) (hA : XS W p l (cSeq A u) mA post) (hB : XS W p l (cSeq B u) mB post) : XS W p l (cSeq (cIfS c A B) u) (bd mc fun t => if t = true then mA else mB) post := fun D E k τ S hE i s => by
  refine hc _ _ k τ S hE i ((Sat.bd.mp s).mono (fun b k1 s1 S1 i1 => ?_) fun x k1 q S1 i1 => q τ S1 i1)
  cases b with
  | true => exact hA D E k1 τ S1 hE i1 s1
  | false => exact hB D E k1 τ S1 hE i1 s1
def sumD (P : σ → TEnv) (C : σ → Cs) : σ ⊕ T → Dest
  | .inl s => .nx (P s) (C s)
  | .inr v => .rt v
theorem xs_seqR {P : σ → TEnv} {C : σ → Cs} {m : PM κ (σ ⊕ T)} {f : σ → PM κ β} {g : T → β} (hg : ∀ v, post (g v) = .rt v) (h1 : XS W p l t m (sumD P C)) (h2 : ∀ s, XS W (P s) (C s) u (f s) post) : XS W p l (cSeq t u) (bd m fun r => Sum.elim f (fun v => pu (g v)) r) post := fun D E k τ S hE i s =>
  h1 _ E k τ S hE i ((Sat.bd.mp s).mono (fun b k1 s1 => by
    cases b with
    | inl b => exact fun τ1 S1 hE1 i1 => h2 b D E k1 τ1 S1 hE1 i1 s1
    | inr v =>
      have s1 : DOk W D k1 (post (g v)) := s1
      rw [hg] at s1
      exact s1) fun _ _ q => q)
inductive Fl (σ : Type) where
  | nx (s : σ)
  | rt (v : T)
  | bk (s : σ)
  | ct (s : σ)
def flD (P : σ → TEnv) (C : σ → Cs) : Fl σ → Dest
  | .nx s => .nx (P s) (C s)
  | .rt v => .rt v
  | .bk s => .bk (P s) (C s)
  | .ct s => .ct (P s) (C s)
def forM (f : T → σ → PM κ σ) : List T → σ → PM κ σ
  | [], s => pu s
  | x :: xs, s => bd (f x s) (forM f xs)
def forR (f : T → σ → PM κ (Fl σ)) : List T → σ → PM κ (σ ⊕ T)
  | [], s => pu (.inl s)
  | x :: xs, s => bd (f x s) fun r => match r with
    | .nx s => forR f xs s
    | .ct s => forR f xs s
    | .bk s => pu (.inl s)
    | .rt v => pu (.inr v)
section
variable {P : σ → TEnv} {C : σ → Cs} {s0 : σ} {it : TTI} {g : TTG} {mi : PM κ (List T)}
theorem forR_run {f : T → σ → PM κ (Fl σ)} {gd : Sto → Prop} (hgd : ∀ s k S, SI W (C s) k S → gd S) (hb : ∀ x s, XF W (P s) (C s) g t (f x s) (flD P C) x) {D : TD} {E : T → TEnv → Sto → Prop} : ∀ (xs : List T) (s : σ) k τ S, En (P s) τ → SI W (C s) k S →
    Sat (forR f xs s k) (fun s' k' => DOk W D k' (sumD P C s')) (fun x k' => ∀ τ' S', SI W [] k' S' → E x τ' S') → forT g t gd D E xs τ S
  | [], s, k, τ, S, hE, i, h => ⟨hgd _ _ _ i, h τ S hE i⟩
  | x :: xs, s, k, τ, S, hE, i, h => ⟨hgd _ _ _ i, hb x s _ E k τ S hE i ((Sat.bd.mp h).mono (fun r k' h' => match r, h' with
    | .nx s', h' => fun τ' S' hE' i' => forR_run hgd hb xs s' k' τ' S' hE' i' h'
    | .ct s', h' => fun τ' S' hE' i' => forR_run hgd hb xs s' k' τ' S' hE' i' h'
    | .bk s', h' => h'
    | .rt v, h' => h') fun _ _ q => q)⟩
theorem xs_forR {f : T → σ → PM κ (Fl σ)} (hi : XIy W p l it mi) (hs : En (P s0) p) (hl : l = C s0) (hb : ∀ x s, XF W (P s) (C s) g t (f x s) (flD P C) x) : XS W p l (cFor it g t) (bd mi fun xs => forR f xs s0) (sumD P C) := fun D E k τ S hE i s =>
  hi _ _ k τ S hE i ((Sat.bd.mp s).mono (fun xs k1 s1 S1 i1 => forR_run (fun _ _ _ _ => trivial) hb xs s0 k1 τ S1 (hs.trans hE) (hl ▸ i1) s1) fun x k1 q S1 i1 => q τ S1 i1)
end
theorem fzs_id {S S2 : Sto} : ∀ ts : List T, Fzs S S2 ts ts
  | [] => .nil
  | t :: ts => .cons (.same t) (fzs_id ts)
theorem SI.sub {l1 l2 : Cs} {a : Addr} {c : Cell} {k : κ} {S : Sto} (i : SI W (l1 ++ (a, c) :: l2) k S) : SI W (l1 ++ l2) k (offs S a) := by
  have nd := i.nd
  rw [List.map_append, List.map_cons] at nd
  obtain ⟨n1, n2, n3⟩ := List.nodup_append.mp nd
  have hm : ∀ e, e ∈ l1 ++ l2 → e ∈ l1 ++ (a, c) :: l2 ∧ e.1 ≠ a := fun e h => by
    rcases List.mem_append.mp h with z | z
    · exact ⟨List.mem_append_left _ z, fun q => n3 e.1 (List.mem_map_of_mem z) a (by simp) q⟩
    · exact ⟨List.mem_append_right _ (List.mem_cons_of_mem _ z), fun q => (List.nodup_cons.mp n2).1 (by rw [← q]; exact List.mem_map_of_mem (f := (·.1)) z)⟩
  refine ⟨fun e h => by rw [offs_ne (hm e h).2]; exact i.at_ e (hm e h).1, fun e h => i.own e (hm e h).1, ?_, fun b d h => ?_⟩
  · rw [List.map_append]
    exact List.nodup_append.mpr ⟨n1, (List.nodup_cons.mp n2).2, fun x hx y hy => n3 x hx y (List.mem_cons_of_mem _ hy)⟩
  · have ow := i.own (a, c) (List.mem_append_right _ List.mem_cons_self)
    have : b ≠ a := fun z => by rw [z] at h; rw [show W k a = none from ow] at h; cases h
    rw [offs_ne this]
    exact i.base b d h
theorem xs_drop {i : Nat} {a : Addr} {xs : List T} {l1 l2 : Cs} {m : PM κ β} (hp : p[i]? = some (some (.ref a))) (h : XS W (p.set i (some (.lst xs))) (l1 ++ l2) t m post) : XS W p (l1 ++ (a, .lst xs) :: l2) (cDrop t) m post := fun D E k τ S hE j s => by
  have hg := hE.get hp
  have hi := (List.getElem?_eq_some_iff.mp hg).1
  refine ⟨τ.set i (some (.lst xs)), offs S a, sub_offs, ⟨by rw [List.length_set], fun n u e => ?_⟩, h D E k _ _ hE.set j.sub s⟩
  by_cases q : i = n
  · subst q
    rw [List.getElem?_set_self hi] at e
    cases e
    exact ⟨_, hg, .lstc (j.at_ (a, .lst xs) (by simp)) offs_same (fzs_id xs)⟩
  · rw [List.getElem?_set_ne q] at e
    exact ⟨u, e, .same u⟩
end
theorem fin_of {κ : Type} {W : κ → Sto} {l : Cs} {k : κ} {S : Sto} {z v : T} {Q : T → Sto → Prop} (i : SI W l k S) (w : Vw l z v) (q : Q v (W k)) : Fin Q z S := by
  refine ⟨W k, v, i.base, ?_, q⟩
  rcases w with rfl | ⟨a, xs, rfl, h, rfl⟩ | ⟨a, n, ks, vs, rfl, h, rfl⟩
  · exact .same _
  · exact .lstc (i.at_ _ h) (i.own _ h) (fzs_id _)
  · exact .dctc (i.at_ _ h) (i.own _ h) (fzs_id _)
theorem si_start {κ : Type} {W : κ → Sto} {k : κ} : SI W [] k (W k) := ⟨fun _ h => (nomatch h), fun _ h => (nomatch h), List.nodup_nil, fun _ _ h => h⟩
section
variable {κ α : Type}
def u0 (f : PM κ α) : List T → PM κ α
  | [] => f
  | _ => stuck
def u1 (f : T → PM κ α) : List T → PM κ α
  | [a] => f a
  | _ => stuck
def u2 (f : T → T → PM κ α) : List T → PM κ α
  | [a, b] => f a b
  | _ => stuck
end
/-- a def's mirror takes so many -/
def Ar {κ α : Type} (n : Nat) (f : List T → PM κ α) : Prop := ∀ ts k, f ts k ≠ .bad → ts.length = n
theorem ar0 {κ α : Type} {f : PM κ α} : Ar 0 (u0 f) := fun ts k h => match ts, h with
  | [], _ => rfl
  | _ :: _, h => (h rfl).elim
theorem ar1 {κ α : Type} {f : T → PM κ α} : Ar 1 (u1 f) := fun ts k h => match ts, h with
  | [], h => (h rfl).elim
  | [a], _ => rfl
  | _ :: _ :: _, h => (h rfl).elim
theorem ar2 {κ α : Type} {f : T → T → PM κ α} : Ar 2 (u2 f) := fun ts k h => match ts, h with
  | [], h => (h rfl).elim
  | [_], h => (h rfl).elim
  | [a, b], _ => rfl
  | _ :: _ :: _ :: _, h => (h rfl).elim
theorem sat_nb {κ α : Type} {r : Res κ α} {P : α → κ → Prop} {X : T → κ → Prop} (h : Sat r P X) : r ≠ .bad := fun e => by rw [e] at h; exact h
theorem spU_len {n : Nat} {f : List T → PM Unit T} (ha : Ar n f) : ∀ ts S Q E, spU f ts S Q E → ts.length = n := fun ts S Q E h => ha ts () (sat_nb h)
theorem spP_len {n : Nat} {f : List T → PM Cell T} (ha : Ar n f) : ∀ ts S Q E, spP f ts S Q E → ts.length = n + 1 := fun ts S Q E ⟨p, rest, c, e, _, h⟩ => by
  subst e
  rw [List.length_cons, ha rest c (sat_nb h)]
theorem vc_u {N : List Str} {f : List T → PM Unit T} {c : TTS} (h : ∀ S ts, XS (fun _ : Unit => S) (startT N ts) [] c (f ts) .rt) : VC N (spU f) c := fun ts S Q E q =>
  h S ts _ _ () _ S (En.refl _) si_start (Sat.mono q (fun v k' q l z S' i w => fin_of i w q) fun x k' q τ' S' i => ⟨S, i.base, q⟩)
theorem ups_self {S : Sto} {p : Addr} {c : Cell} (h : S p = some c) : ups S p c = S := ups_eq h
theorem vc_p {N : List Str} {f : List T → PM Cell T} {c : TTS} (h : ∀ S pa ts, XS (penW S pa) (startT N (.ref pa :: ts)) [] c (f ts) .rt) : VC N (spP f) c := fun ts S Q E ⟨pa, rest, k, e, hs, q⟩ => by
  subst e
  have i0 : SI (penW S pa) [] k S := by
    have := si_start (W := penW S pa) (k := k)
    rwa [show penW S pa k = S from ups_self hs] at this
  exact h S pa rest _ _ k _ S (En.refl _) i0 (q.mono (fun v k' q l z S' i w => fin_of i w q) fun x k' q τ' S' i => ⟨_, i.base, q⟩)
theorem xs_stuck {κ β : Type} {W : κ → Sto} {p : TEnv} {l : Cs} {t : TTS} {post : β → Dest} : XS W p l t stuck post := fun D E k τ S hE i s => s.elim
theorem Ar.bd {κ α β : Type} {n : Nat} {f : List T → PM κ α} {g : α → PM κ β} (h : Ar n f) : Ar n (fun ts => bd (f ts) g) := fun ts k e => h ts k fun z => e (by simp only [TL.bd, z])
theorem vc_p0 {N : List Str} {c : TTS} {f : PM Cell T} (h : ∀ S pa, XS (penW S pa) (startT N (.ref pa :: [])) [] c (f ) .rt) : VC N (spP (u0 f)) c := vc_p fun S pa ts => match ts with
  | [] => h S pa 
  | _ :: _ => xs_stuck
theorem vc_u1 {N : List Str} {c : TTS} {f : T → PM Unit T} (h : ∀ S y1, XS (fun _ : Unit => S) (startT N [y1]) [] c (f y1) .rt) : VC N (spU (u1 f)) c := vc_u fun S ts => match ts with
  | [] => xs_stuck
  | [y1] => h S y1
  | _ :: _ :: _ => xs_stuck
theorem vc_u2 {N : List Str} {c : TTS} {f : T → T → PM Unit T} (h : ∀ S y1 y2, XS (fun _ : Unit => S) (startT N [y1, y2]) [] c (f y1 y2) .rt) : VC N (spU (u2 f)) c := vc_u fun S ts => match ts with
  | [] => xs_stuck
  | [_] => xs_stuck
  | [y1, y2] => h S y1 y2
  | _ :: _ :: _ :: _ => xs_stuck
theorem us2 {κ α : Type} {f : T → T → PM κ α} (h : ∀ y1 y2, f y1 y2 = stuck) : ∀ ts, u2 f ts = stuck
  | [] => rfl
  | [_] => rfl
  | [y1, y2] => h y1 y2
  | _ :: _ :: _ :: _ => rfl
theorem fn_none {P : Program} {w : World} {K : PySem.W.Frag} {mg : Str → Option Value} {base : Heap} {k : Nat} {f : Addr} {fd : FuncData} {ps : List Str} {g : List T → PM Unit T} (h : ∀ ts, g ts = stuck) : FnOk P w K mg base (L2N.CX P w) k f fd ps (liftSp P K w (spU g)) :=
  have no : ∀ vs H Q E, liftSp P K w (spU g) vs H Q E → False := fun vs H Q E ⟨M, ts, S, Qt, Et, _, _, q, _⟩ => by
    unfold spU at q
    rw [h] at q
    exact q
  ⟨fun vs H Q E q => (no _ _ _ _ q).elim, fun A outer s H args us vs Q E hr he hb hv hs => (no _ _ _ _ hs).elim⟩
/-- the law: the pen first -/
def sp_pen_of : SpT := sp1 fun a S Q _ => ∃ ns : List Int, a = .scr ns ∧ ∀ p c, S p = none → PenC 0 c → Q (.ref p) (ups S p c)
def sp_law1 : SpT := sp1 fun a S Q _ => ∃ ns, a = .scr ns ∧ ∀ S', Q (.bl true) S'
theorem law1_sp (ns : List Int) (_ : ns.length ≤ 63) : sp_law1 [.scr ns] (fun _ => none) (fun z _ => z = .bl true) fun _ _ => False := ⟨_, rfl, ns, rfl, fun _ => rfl⟩
theorem vc_law {N : List Str} {m : PM Cell T} {u : TTS} (h : ∀ S0 pa a, XS (penW S0 pa) ((startT N [a]).set 1 (some (.ref pa))) [] u m .rt) (hm : ∀ c, PenC 0 c → ∃ k, m c = .ok (.bl true) k) (h0 : (startT N [T.non])[0]? = some (some T.non) := by rfl) :
    VC N sp_law1 (cSeq (cSet 1 (cCall sp_pen_of (cCons (cVar 0) cNil))) u) := by
  rintro ts S Q E ⟨a, rfl, ns, rfl, hq⟩
  refine ⟨.scr ns, rfl, _, rfl, ns, rfl, fun p c hp hc => ?_⟩
  obtain ⟨k, hk⟩ := hm c hc
  refine h S p (.scr ns) _ _ c _ _ (En.refl _) (si_start (W := penW S p)) ?_
  rw [hk]
  exact fun l z S' i w => fin_of i w (hq _)
end TL
namespace TL
open PySem PySem.Spec PyProof.Rows L2
def intsOf : List T → Option (List Int)
  | [] => some []
  | .int i :: ts => (intsOf ts).map (i :: ·)
  | _ :: _ => none
theorem intsOf_is : ∀ {ts : List T} {ns : List Int}, intsOf ts = some ns → ts = ns.map T.int
  | [], ns, e => by obtain rfl := Option.some.inj e; rfl
  | .int i :: ts, ns, e => by
    unfold intsOf at e
    cases q : intsOf ts with
    | none => rw [q] at e; cases e
    | some ms =>
      rw [q] at e
      obtain rfl := Option.some.inj e
      rw [intsOf_is q]
      rfl
  | .non :: _, _, e | .bl _ :: _, _, e | .str _ :: _, _, e | .tup _ :: _, _, e | .lst _ :: _, _, e | .ref _ :: _, _, e | .exc _ _ _ :: _, _, e | .dct _ _ _ :: _, _, e | .obj _ _ _ :: _, _, e | .fn _ :: _, _, e | .scr _ :: _, _, e => by cases e
theorem intsOf_map : ∀ ns : List Int, intsOf (ns.map T.int) = some ns
  | [] => rfl
  | i :: ns => by rw [List.map_cons]; unfold intsOf; rw [intsOf_map ns]; rfl
def penCell (ns : List Int) (at_ rest : Int) : Cell := .lst [.lst (ns.map T.int), .int at_, .int rest]
def absI (z : Int) : Int := if z < 0 then -z else z
def drawNum (z at_ many : Int) : Int := (((((z.fmod 2147483647 + 69621 * at_ + 13) * 48271).fmod 2147483629 * ((z.fmod 2147483647 + 69621 * at_ + 13) * 48271).fmod 2147483629).fmod 2147483587 * ((((z.fmod 2147483647 + 69621 * at_ + 13) * 48271).fmod 2147483629).fmod 65521 + 7 * at_ + 1)).fmod 2147483563).fdiv 32 |>.fmod many
def cellAt (ns : List Int) (at_ : Int) : Int := if 0 < ns.length then ns.getD (at_.fmod ns.length).toNat 0 else 11
def drawStep (ns : List Int) (at_ rest many : Int) : Int × Cell :=
  if 0 < rest then (rest.fmod many, penCell ns at_ (rest.fdiv many))
  else if at_ < ns.length then (if 10 ^ 18 ≤ absI (cellAt ns at_) then ((absI (cellAt ns at_)).fmod many, penCell ns (at_ + 1) ((absI (cellAt ns at_)).fdiv many)) else (drawNum (cellAt ns at_) at_ many, penCell ns (at_ + 1) rest))
  else (drawNum (cellAt ns at_) at_ many, penCell ns (at_ + 1) rest)
def m_draw (t : T) : PM Cell T := fun c => match c, t with
  | .lst [.lst xs, .int at_, .int rest], .int many => match intsOf xs with
    | some ns => if 0 < many ∧ many < 1000000000000000000000000000001 ∧ 0 ≤ at_ ∧ at_ ≤ big ∧ 0 ≤ rest ∧ ns.length ≤ 63 then .ok (.int (drawStep ns at_ rest many).1) (drawStep ns at_ rest many).2 else .bad
    | none => .bad
  | _, _ => .bad
theorem sat_draw {t : T} {c : Cell} {P : T → Cell → Prop} {X : T → Cell → Prop} (h : Sat (m_draw t c) P X) : ∃ ns at_ rest many, c = penCell ns at_ rest ∧ t = .int many ∧ (0 < many ∧ many < 1000000000000000000000000000001 ∧ 0 ≤ at_ ∧ at_ ≤ big ∧ 0 ≤ rest ∧ ns.length ≤ 63) ∧ P (.int (drawStep ns at_ rest many).1) (drawStep ns at_ rest many).2 := by
  unfold m_draw at h
  split at h
  · rename_i xs at_ rest many
    split at h
    · rename_i ns e
      split at h
      · rename_i k
        exact ⟨ns, at_, rest, many, by rw [intsOf_is e]; rfl, rfl, k, h⟩
      · exact h.elim
    · exact h.elim
  · exact h.elim
theorem draw_ok {n : Nat} {c : Cell} {many : Int} (h : PenC n c) (hn : n ≤ big) (h1 : 0 < many) (h2 : many < 1000000000000000000000000000001) : ∃ d c', m_draw (.int many) c = .ok (.int d) c' ∧ 0 ≤ d ∧ d < many ∧ PenC (n + 1) c' := by
  obtain ⟨ns, at_, rest, rfl, a0, a1, a2, a3⟩ := h
  have hb : (n : Int) ≤ big := by exact_mod_cast hn
  have e : m_draw (.int many) (.lst [.lst (ns.map T.int), .int at_, .int rest]) = .ok (.int (drawStep ns at_ rest many).1) (drawStep ns at_ rest many).2 := by
    unfold m_draw
    simp only [intsOf_map]
    rw [if_pos ⟨h1, h2, a0, by omega, a2, a3⟩]
  refine ⟨_, _, e, ?_⟩
  have w : 0 ≤ absI (cellAt ns at_) := by unfold absI; split <;> omega
  unfold drawStep
  split
  · exact ⟨fmod_lo h1, fmod_hi h1, ns, at_, _, rfl, a0, by omega, fdiv_lo a2 h1, a3⟩
  split
  · split
    · exact ⟨fmod_lo h1, fmod_hi h1, ns, at_ + 1, _, rfl, by omega, by omega, fdiv_lo w h1, a3⟩
    · exact ⟨fmod_lo h1, fmod_hi h1, ns, at_ + 1, _, rfl, by omega, by omega, a2, a3⟩
  · exact ⟨fmod_lo h1, fmod_hi h1, ns, at_ + 1, _, rfl, by omega, by omega, a2, a3⟩
end TL
namespace TL
open PySem PySem.Spec PyProof.Rows L2
section
variable {κ α β γ σ : Type}
/-- a condition -/
noncomputable def gdc (b : Prop) : PM κ Unit := @gd κ b (Classical.propDecidable b)
theorem gd_c {b : Prop} [d : Decidable b] : gd (κ := κ) b = gdc b := by
  unfold gdc
  congr
theorem gdc_t {b : Prop} (h : b) : gdc (κ := κ) b = pu () := @gd_true κ b (Classical.propDecidable b) h
theorem gdc_f {b : Prop} (h : ¬ b) : gdc (κ := κ) b = stuck := @if_neg b (Classical.propDecidable b) h _ _ _
theorem gdc_b {b : Prop} (h : b) (f : Unit → PM κ α) : bd (gdc b) f = f () := by rw [gdc_t h]; rfl
theorem ofO_none : ofO (κ := κ) (none : Option α) = stuck := rfl
theorem ofO_ite {c : Prop} [Decidable c] {v : α} : ofO (κ := κ) (if c then some v else none) = bd (gdc c) fun _ => pu v := by
  by_cases h : c
  · rw [if_pos h, gdc_t h]; rfl
  · rw [if_neg h, gdc_f h]; rfl
theorem ite_pu {c : Prop} [Decidable c] {x y : α} : (if c then pu (κ := κ) x else pu y) = pu (if c then x else y) := by split <;> rfl
theorem lft_bd (m : PM Unit α) (f : α → PM Unit β) : lft (κ := κ) (bd m f) = bd (lft m) fun a => lft (f a) := by
  funext k
  unfold lft bd
  cases m () <;> rfl
theorem lft_gdc {b : Prop} : lft (κ := κ) (gdc b) = gdc b := by
  by_cases h : b
  · rw [gdc_t h, gdc_t h]; rfl
  · rw [gdc_f h, gdc_f h]; rfl
theorem lft_ite {c : Prop} [Decidable c] {x y : PM Unit α} : lft (κ := κ) (if c then x else y) = if c then lft x else lft y := by split <;> rfl
theorem lft_stuck : lft (κ := κ) (stuck : PM Unit α) = stuck := rfl
def compA (f : α → PM κ (Option T)) : List α → PM κ (List T)
  | [] => pu []
  | x :: xs => bd (nox (f x)) fun o => bd (compA f xs) fun ys => pu (o.toList ++ ys)
theorem compA_cons {f : α → PM κ (Option T)} {x : α} {xs : List α} : compA f (x :: xs) = bd (nox (f x)) fun o => bd (compA f xs) fun ys => pu (o.toList ++ ys) := rfl
theorem compM_map {e : α → T} {f : T → PM κ (Option T)} : ∀ xs : List α, compM f (xs.map e) = compA (fun a => f (e a)) xs
  | [] => rfl
  | x :: xs => by
    rw [List.map_cons, compA_cons, ← compM_map xs]
    rfl
theorem compG_map {e : α → T} {f : T → PM κ (Option T)} {xs : List α} : compG f (xs.map e) = bd (gdc (xs.length ≤ sizeLine)) fun _ => compA (fun a => f (e a)) xs := by
  unfold compG
  rw [gd_c, compM_map, List.length_map]
theorem compA_pu {g : α → T} : ∀ xs : List α, compA (κ := κ) (fun a => pu (some (g a))) xs = pu (xs.map g)
  | [] => rfl
  | x :: xs => by
    rw [compA_cons, compA_pu xs]
    rfl
theorem compA_if {p : α → Prop} [DecidablePred p] {g : α → T} : ∀ xs : List α, compA (κ := κ) (fun a => if p a then pu (some (g a)) else pu none) xs = pu ((xs.filter fun a => decide (p a)).map g)
  | [] => rfl
  | x :: xs => by
    rw [compA_cons, compA_if xs]
    by_cases h : p x
    · rw [if_pos h, List.filter_cons_of_pos (by simpa using h)]; rfl
    · rw [if_neg h, List.filter_cons_of_neg (by simpa using h)]; rfl
theorem bd_stuck (m : PM κ α) (h : ∀ k, ∃ a k', m k = .ok a k' ∨ m k = .bad) : bd m (fun _ => (stuck : PM κ β)) = stuck := by
  funext k
  obtain ⟨a, k', e | e⟩ := h k <;> (unfold bd; rw [e]; rfl)
theorem nox_cases (m : PM κ α) [Inhabited α] (k : κ) : ∃ a k', nox m k = .ok a k' ∨ nox m k = .bad := by
  unfold nox
  cases e : m k with
  | ok a k' => exact ⟨a, k', .inl rfl⟩
  | exc x k' => exact ⟨default, k, .inr rfl⟩
  | bad => exact ⟨default, k, .inr rfl⟩
theorem compA_gd {c : α → Prop} {h : α → PM κ (Option T)} : ∀ xs : List α, compA (fun a => bd (gdc (c a)) fun _ => h a) xs = bd (gdc (∀ a ∈ xs, c a)) fun _ => compA h xs
  | [] => by rw [gdc_t (fun _ h => nomatch h)]; rfl
  | x :: xs => by
    have ih := compA_gd (c := c) (h := h) xs
    by_cases hx : c x
    · by_cases hs : ∀ a ∈ xs, c a
      · rw [gdc_t hs, pu_bd] at ih
        rw [gdc_t (List.forall_mem_cons.mpr ⟨hx, hs⟩), pu_bd, compA_cons, gdc_t hx, ih]
        rfl
      · rw [gdc_f hs, stuck_bd] at ih
        rw [gdc_f fun z => hs (List.forall_mem_cons.mp z).2, compA_cons, ih]
        exact bd_stuck _ (nox_cases _)
    · rw [gdc_f fun z => hx (List.forall_mem_cons.mp z).1, compA_cons, gdc_f hx]
      rfl
theorem compA_gdif {p c : α → Prop} [DecidablePred p] {h : α → PM κ (Option T)} (xs : List α) : compA (fun a => if p a then bd (gdc (c a)) fun _ => h a else pu none) xs = bd (gdc (∀ a ∈ xs, p a → c a)) fun _ => compA (fun a => if p a then h a else pu none) xs := by
  rw [← compA_gd]
  congr
  funext a
  by_cases hp : p a
  · rw [if_pos hp]
    by_cases hc : c a
    · rw [gdc_t hc, gdc_t (fun _ => hc), if_pos hp]
    · rw [gdc_f hc, gdc_f (fun z => hc (z hp))]; rfl
  · rw [if_neg hp, gdc_t (fun z => absurd z hp), if_neg hp]; rfl
theorem compA_congr {f g : α → PM κ (Option T)} : ∀ {xs : List α}, (∀ a ∈ xs, f a = g a) → compA f xs = compA g xs
  | [], _ => rfl
  | x :: xs, h => by
    rw [compA_cons, compA_cons, h x List.mem_cons_self, compA_congr fun a ha => h a (List.mem_cons_of_mem _ ha)]
def forA (f : α → σ → PM κ σ) : List α → σ → PM κ σ
  | [], s => pu s
  | x :: xs, s => bd (f x s) (forA f xs)
theorem forM_map {e : α → T} {f : T → σ → PM κ σ} : ∀ (xs : List α) (s : σ), forM f (xs.map e) s = forA (fun a => f (e a)) xs s
  | [], _ => rfl
  | x :: xs, s => by
    rw [List.map_cons]
    show bd (f (e x) s) (forM f (xs.map e)) = bd (f (e x) s) (forA (fun a => f (e a)) xs)
    congr
    funext s
    exact forM_map xs s
def forRA (f : α → σ → PM κ (Fl σ)) : List α → σ → PM κ (σ ⊕ T)
  | [], s => pu (.inl s)
  | x :: xs, s => bd (f x s) fun r => match r with
    | .nx s => forRA f xs s
    | .ct s => forRA f xs s
    | .bk s => pu (.inl s)
    | .rt v => pu (.inr v)
theorem forR_map {e : α → T} {f : T → σ → PM κ (Fl σ)} : ∀ (xs : List α) (s : σ), forR f (xs.map e) s = forRA (fun a => f (e a)) xs s
  | [], _ => rfl
  | x :: xs, s => by
    rw [List.map_cons]
    show bd (f (e x) s) _ = bd (f (e x) s) _
    congr
    funext r
    cases r with
    | nx s => exact forR_map xs s
    | ct s => exact forR_map xs s
    | _ => rfl
theorem forR_A {f : T → σ → PM κ (Fl σ)} (xs : List T) (s : σ) : forR f xs s = forRA f xs s := by
  have := forR_map (e := id) (f := f) xs s
  rwa [List.map_id] at this
/-- a loop that goes through: a state kept -/
theorem forRA_all {f : α → σ → PM κ (Fl σ)} : ∀ (xs : List α) (s : σ), (∀ x ∈ xs, f x s = pu (.nx s)) → forRA f xs s = pu (.inl s)
  | [], _, _ => rfl
  | x :: xs, s, h => by
    show bd (f x s) _ = _
    rw [h x List.mem_cons_self, pu_bd]
    exact forRA_all xs s fun y hy => h y (List.mem_cons_of_mem _ hy)
theorem sum_inl {f : σ → γ} {g : T → γ} {s : σ} : Sum.elim f g (.inl s) = f s := rfl
theorem sum_inr {f : σ → γ} {g : T → γ} {v : T} : Sum.elim f g (.inr v) = g v := rfl
end
def Pen (r : Nat) (c : Cell) : Prop := ∃ n, n + r ≤ big ∧ PenC n c
def HT {α : Type} (d : Nat) (m : PM Cell α) (P : α → Prop) : Prop := ∀ r c, Pen (r + d) c → ∃ a c', m c = .ok a c' ∧ Pen r c' ∧ P a
section
variable {α β γ σ : Type}
theorem HT.le {d d' : Nat} {m : PM Cell α} {P : α → Prop} (h : HT d m P) (hd : d ≤ d') : HT d' m P := fun r c ⟨n, h1, h2⟩ => by
  obtain ⟨a, c', e, ⟨n', k1, k2⟩, p⟩ := h (r + (d' - d)) c ⟨n, by omega, h2⟩
  exact ⟨a, c', e, ⟨n', by omega, k2⟩, p⟩
theorem HT.mono {d : Nat} {m : PM Cell α} {P Q : α → Prop} (h : HT d m P) (hq : ∀ a, P a → Q a) : HT d m Q := fun r c hc => by
  obtain ⟨a, c', e, k, p⟩ := h r c hc
  exact ⟨a, c', e, k, hq a p⟩
theorem HT.pu {d : Nat} {a : α} {P : α → Prop} (h : P a) : HT d (TL.pu a) P := fun r c ⟨n, h1, h2⟩ => ⟨a, c, rfl, ⟨n, by omega, h2⟩, h⟩
theorem HT.bd {d1 d2 : Nat} {m : PM Cell α} {f : α → PM Cell β} {P : α → Prop} {Q : β → Prop} (h1 : HT d1 m P) (h2 : ∀ a, P a → HT d2 (f a) Q) : HT (d2 + d1) (TL.bd m f) Q := fun r c hc => by
  obtain ⟨a, c1, e1, k1, p1⟩ := h1 (r + d2) c (by rw [Nat.add_assoc]; exact hc)
  obtain ⟨b, c2, e2, k2, p2⟩ := h2 a p1 r c1 k1
  exact ⟨b, c2, by unfold TL.bd; rw [e1]; exact e2, k2, p2⟩
theorem HT.draw {many : Int} {P : T → Prop} (h1 : 0 < many) (h2 : many < 1000000000) (h : ∀ d : Int, 0 ≤ d → d < many → P (.int d)) : HT 1 (m_draw (.int many)) P := fun r c ⟨n, k1, k2⟩ => by
  obtain ⟨d, c', e, d0, d1, k⟩ := draw_ok k2 (by omega) h1 (by omega)
  exact ⟨_, c', e, ⟨n + 1, by omega, k⟩, h d d0 d1⟩
/-- a draw, then on -/
theorem HT.drawB {many : Int} {d : Nat} {f : T → PM Cell β} {Q : β → Prop} (h1 : 0 < many) (h2 : many < 1000000000) (h : ∀ i : Int, 0 ≤ i → i < many → HT d (f (.int i)) Q) : HT (d + 1) (TL.bd (m_draw (.int many)) f) Q :=
  HT.bd (P := fun v => ∃ i : Int, 0 ≤ i ∧ i < many ∧ v = .int i) (HT.draw h1 h2 fun i a b => ⟨i, a, b, rfl⟩) fun v ⟨i, a, b, e⟩ => e ▸ h i a b
theorem HT.gdc {b : Prop} {d : Nat} {f : Unit → PM Cell β} {Q : β → Prop} (hb : b) (h : HT d (f ()) Q) : HT d (TL.bd (TL.gdc b) f) Q := by rw [gdc_b hb]; exact h
theorem HT.forA {d : Nat} {f : α → σ → PM Cell σ} (I : List α → σ → Prop) : ∀ (xs : List α) (s : σ), I xs s → (∀ x xs s, I (x :: xs) s → HT d (f x s) fun s' => I xs s') → HT (xs.length * d) (TL.forA f xs s) fun s' => I [] s'
  | [], s, hi, _ => by
    rw [List.length_nil, Nat.zero_mul]
    exact HT.pu hi
  | x :: xs, s, hi, h => by
    rw [List.length_cons, Nat.succ_mul]
    exact HT.bd (h x xs s hi) fun s' hs' => HT.forA I xs s' hs' h
theorem HT.compA {d : Nat} {f : α → PM Cell (Option T)} (I : List α → List T → Prop) : ∀ (xs : List α) (acc : List T), I xs acc → (∀ x xs acc, I (x :: xs) acc → HT d (f x) fun o => I xs (acc ++ o.toList)) → HT (xs.length * d) (TL.compA f xs) fun ys => I [] (acc ++ ys)
  | [], acc, hi, _ => by
    rw [List.length_nil, Nat.zero_mul]
    exact HT.pu (by simpa using hi)
  | x :: xs, acc, hi, h => by
    rw [List.length_cons, Nat.succ_mul]
    rw [compA_cons]
    refine HT.bd (P := fun o => I xs (acc ++ o.toList)) (fun r c hc => ?_) fun o ho => ?_
    · obtain ⟨a, c', e1, k1, p1⟩ := h x xs acc hi r c hc
      exact ⟨a, c', by unfold nox; rw [e1], k1, p1⟩
    · have := HT.compA I xs (acc ++ o.toList) ho h
      refine (HT.bd (d2 := 0) this fun ys hy => HT.pu ?_).le (Nat.le_of_eq (Nat.zero_add _))
      rw [← List.append_assoc]
      exact hy
theorem HT.compN (d n : Nat) {f : α → PM Cell (Option T)} (I : List α → List T → Prop) {xs : List α} (hn : xs.length ≤ n) (hi : I xs []) (h : ∀ x xs acc, I (x :: xs) acc → HT d (f x) fun o => I xs (acc ++ o.toList)) : HT (n * d) (TL.compA f xs) fun ys => I [] ys :=
  (HT.compA I xs [] hi h).le (Nat.mul_le_mul_right d hn)
/-- the law at its end -/
theorem HT.law {d : Nat} {m : PM Cell T} (h : HT d m fun v => v = .bl true) (hd : d ≤ 1000000000000) : ∀ c, PenC 0 c → ∃ k, m c = .ok (.bl true) k := fun c hc => by
  obtain ⟨a, c', e, _, rfl⟩ := h 0 c ⟨0, by unfold big; omega, hc⟩
  exact ⟨c', e⟩
end
end TL
namespace TL
open PySem PySem.Spec PyProof.Rows L2
abbrev Nm := List Sg
def fkT (x : Nm × Nm) : T := .tup [.str x.1, .str x.2]
/-- a kind of keys -/
structure KE {α : Type} (e : α → T) : Prop where
  inj : ∀ a b, e a = e b → a = b
  kx : ∀ a, kx (e a) = true
  dp : ∀ a, dep (e a) ≤ 8
  alk : ∀ a b, alk (e a) (e b) = true
theorem KE.okd {α : Type} {e : α → T} (h : KE e) (a : α) : okd (e a) = true := by
  have := h.dp a
  unfold TL.okd
  rw [kx_plain _ (h.kx a), decide_eq_true (by omega)]
  rfl
theorem ke_str : KE T.str := ⟨fun _ _ => str_inj, fun _ => rfl, fun _ => Nat.zero_le _, fun _ _ => rfl⟩
section
variable {α : Type} {e : α → T} {S : Sto}
theorem KE.eqt (h : KE e) [DecidableEq α] (a b : α) : eqt (e a) (e b) = decide (a = b) := by
  have z := eqt_kx (e a) (e b) (h.kx a) (h.kx b)
  by_cases q : a = b
  · subst q; rw [decide_eq_true rfl]; exact z.mpr rfl
  · rw [decide_eq_false q]
    cases w : TL.eqt (e a) (e b) with
    | false => rfl
    | true => exact absurd (h.inj _ _ (z.mp w)) q
theorem KE.eqT (h : KE e) [DecidableEq α] (a b : α) : eqT emp (e a) (e b) = some (.bl (decide (a = b))) := by
  have r : ∀ a, res emp (e a) = e a := fun a => by
    have := h.kx a
    cases q : e a with
    | ref x => rw [q] at this; cases this
    | _ => rfl
  unfold TL.eqT
  rw [r, r, h.okd, h.okd, h.eqt]
  rfl
theorem KE.neT (h : KE e) [DecidableEq α] (a b : α) : neT emp (e a) (e b) = some (.bl (!decide (a = b))) := by
  have r : ∀ a, res emp (e a) = e a := fun a => by
    have := h.kx a
    cases q : e a with
    | ref x => rw [q] at this; cases this
    | _ => rfl
  unfold TL.neT
  rw [r, r, h.okd, h.okd, h.eqt]
  rfl
theorem KE.any (h : KE e) [DecidableEq α] (a : α) : ∀ xs : List α, ((xs.map e).any fun z => TL.eqt z (e a)) = decide (a ∈ xs)
  | [] => rfl
  | x :: xs => by
    rw [List.map_cons, List.any_cons, KE.any h a xs, h.eqt]
    by_cases q : x = a
    · subst q; simp
    · have q' : a ≠ x := fun z => q z.symm
      simp [q, q']
theorem KE.okds (h : KE e) (xs : List α) : TL.okd (.lst (xs.map e)) = true ∧ TL.okd (.tup (xs.map e)) = true := okd_map fun x _ => ⟨h.okd x, by have := h.dp x; omega⟩
theorem KE.inT (h : KE e) [DecidableEq α] (a : α) (xs : List α) : inT emp (e a) (.tup (xs.map e)) = some (.bl (decide (a ∈ xs))) ∧ inT emp (e a) (.lst (xs.map e)) = some (.bl (decide (a ∈ xs))) := by
  constructor
  · unfold TL.inT inQ
    show Option.map _ (if (TL.okd (e a) && TL.okd (.tup (xs.map e))) = true then _ else none) = _
    rw [h.okd, (h.okds xs).2, Bool.and_self, if_pos rfl, h.any]; rfl
  · unfold TL.inT inQ
    show Option.map _ (if (TL.okd (e a) && TL.okd (.lst (xs.map e))) = true then _ else none) = _
    rw [h.okd, (h.okds xs).1, Bool.and_self, if_pos rfl, h.any]; rfl
theorem KE.ninT (h : KE e) [DecidableEq α] (a : α) (xs : List α) : ninT emp (e a) (.tup (xs.map e)) = some (.bl (!decide (a ∈ xs))) ∧ ninT emp (e a) (.lst (xs.map e)) = some (.bl (!decide (a ∈ xs))) := by
  constructor
  · unfold TL.ninT inQ
    show Option.map _ (if (TL.okd (e a) && TL.okd (.tup (xs.map e))) = true then _ else none) = _
    rw [h.okd, (h.okds xs).2, Bool.and_self, if_pos rfl, h.any]; rfl
  · unfold TL.ninT inQ
    show Option.map _ (if (TL.okd (e a) && TL.okd (.lst (xs.map e))) = true then _ else none) = _
    rw [h.okd, (h.okds xs).1, Bool.and_self, if_pos rfl, h.any]; rfl
theorem KE.kxs (h : KE e) (xs : List α) : TL.kxs (xs.map e) = true := kxs_map fun x _ => h.kx x
theorem KE.eqts (h : KE e) [DecidableEq α] (xs ys : List α) : TL.eqts (xs.map e) (ys.map e) = decide (xs = ys) := by
  have z := eqts_kx (xs.map e) (ys.map e) (h.kxs xs) (h.kxs ys)
  by_cases q : xs = ys
  · subst q; rw [decide_eq_true rfl]; exact z.mpr rfl
  · rw [decide_eq_false q]
    cases w : TL.eqts (xs.map e) (ys.map e) with
    | false => rfl
    | true => exact absurd ((List.map_inj_right h.inj).mp (z.mp w)) q
/-- sorted -/
def srt (e : α → T) (xs : List α) : List α := xs.mergeSort fun a b => leT' (e a) (e b)
theorem srt_map (xs : List α) : (xs.map e).mergeSort leT' = (srt e xs).map e := (List.map_mergeSort (r := fun a b => leT' (e a) (e b)) (s := leT') (f := e) (l := xs) fun a _ b _ => rfl).symm
/-- can be sorted -/
structure SE (e : α → T) (P : α → Prop) : Prop where
  ke : KE e
  srt : ∀ xs : List α, (∀ x ∈ xs, P x) → sortOk (xs.map e) = true
theorem se_str : SE T.str fun _ => True := ⟨ke_str, fun xs _ => sortOk_strs xs⟩
variable {P : α → Prop}
theorem SE.sorted (h : SE e P) {xs : List α} (hp : ∀ x ∈ xs, P x) (hl : xs.length ≤ sizeLine) : sortedF emp [.lst (xs.map e)] = some (.lst ((TL.srt e xs).map e)) ∧ sortedF emp [.tup (xs.map e)] = some (.lst ((TL.srt e xs).map e)) := by
  constructor
  · rw [sortedF_lst, h.srt xs hp, List.length_map, decide_eq_true hl, Bool.and_self, if_pos rfl, srt_map]
  · rw [sortedF_tup, h.srt xs hp, List.length_map, decide_eq_true hl, Bool.and_self, if_pos rfl, srt_map]
theorem SE.rise (h : SE e P) {xs : List α} (hp : ∀ x ∈ xs, P x) (nd : xs.Nodup) : Rise ((TL.srt e xs).map e) := by
  rw [← srt_map]
  exact rise_sort (h.ke.kxs xs) (h.srt xs hp) (nodup_map h.ke.inj nd)
end
end TL
namespace TL
open PySem PySem.Spec PyProof.Rows L2
section
variable {κ α β : Type} {e : α → T}
theorem gdc_T : gdc (κ := κ) True = pu () := gdc_t trivial
theorem isStr_str {x : Nm} : isStr (.str x) = true := rfl
theorem isTup_tup {x : List T} : isTup (.tup x) = true := rfl
theorem joinF_l {a : Nm} {ts : List T} : joinF emp (.str a) [.lst ts] = (strsOf ts).bind fun xs => if joinSz a xs = true then some (T.str (jnL a xs)) else none := by
  show (match strsOf ts with | some xs => if joinSz a xs = true then some (T.str (jnL a xs)) else none | none => none) = _
  cases strsOf ts <;> rfl
theorem joinF_t {a : Nm} {ts : List T} : joinF emp (.str a) [.tup ts] = (strsOf ts).bind fun xs => if joinSz a xs = true then some (T.str (jnL a xs)) else none := by
  show (match strsOf ts with | some xs => if joinSz a xs = true then some (T.str (jnL a xs)) else none | none => none) = _
  cases strsOf ts <;> rfl
theorem strsOf_nil : strsOf [] = some [] := rfl
theorem strsOf_cons {x : Nm} {ts : List T} : strsOf (.str x :: ts) = (strsOf ts).map (x :: ·) := rfl
theorem extM_l {xs zs : List T} : extM (κ := κ) xs (.lst zs) = bd (gdc (xs.length + zs.length ≤ sizeLine)) fun _ => pu (xs ++ zs) := by
  show bd (gd _) _ = _
  rw [gd_c]
theorem appM_c {xs : List T} {y : T} : appM (κ := κ) xs y = bd (gdc (xs.length < sizeLine)) fun _ => pu (xs ++ [y]) := by
  unfold appM
  rw [gd_c]
theorem gdc_e {b : Prop} {f : Unit → PM κ α} {m : PM κ α} (h : b) (h2 : f () = m) : bd (gdc b) f = m := by rw [gdc_b h, h2]
theorem forR_all {σ : Type} {f : T → σ → PM κ (Fl σ)} {xs : List T} {s : σ} (h : ∀ x ∈ xs, f x s = pu (.nx s)) : forR f xs s = pu (.inl s) := by rw [forR_A]; exact forRA_all xs s h
theorem joinSz_ok {a : Nm} {xs : List Nm} {k : Nat} (h : ∀ x ∈ xs, x.length ≤ k) (h2 : xs.length * (k + a.length) ≤ 1000000) : joinSz a xs = true := by
  have : (xs.map (·.length)).sum ≤ xs.length * k := by
    clear h2
    induction xs with
    | nil => exact Nat.zero_le _
    | cons x xs ih =>
      have a1 := h x List.mem_cons_self
      have a2 := ih fun y hy => h y (List.mem_cons_of_mem _ hy)
      rw [List.map_cons, List.sum_cons, List.length_cons, Nat.succ_mul]
      omega
  rw [Nat.mul_add] at h2
  show decide ((xs.map fun x => x.length).sum + xs.length * a.length ≤ 1000000) = true
  exact decide_eq_true (by omega)
end
structure Bk where
  folk : List (Nm × Nm)
  unions : List (List Nm)
  births : List (Nm × List Nm)
  adopts : List (Nm × List Nm)
def bkT (B : Bk) : T := .tup [.tup (B.folk.map fkT), .tup (B.unions.map famT), .tup (B.births.map kinT), .tup (B.adopts.map kinT)]
def Bk.names (B : Bk) : List Nm := B.folk.map (·.1)
structure BkOk (B : Bk) : Prop where
  name : ∀ x ∈ B.folk, NameOk x.1 ∧ x.2 ∈ MKS
  nd : B.names.Nodup
  rf : Rise (B.folk.map fkT)
  lf : B.folk.length ≤ 16
  un : ∀ f ∈ B.unions, FamOk B.names f
  ru : Rise (B.unions.map famT)
  lu : B.unions.length ≤ 16
  bi : ∀ b ∈ B.births, KinOk B.names B.unions b
  rb : Rise (B.births.map kinT)
  lb : B.births.length ≤ 24
  ad : ∀ b ∈ B.adopts, KinOk B.names B.unions b
  ra : Rise (B.adopts.map kinT)
  la : B.adopts.length ≤ 12
section
variable {B : Bk} (h : BkOk B)
include h
theorem BkOk.nm {x : Nm} (hx : x ∈ B.names) : NameOk x := by
  obtain ⟨p, hp, rfl⟩ := List.mem_map.mp hx
  exact (h.name p hp).1
end
end TL
namespace TL
open PySem PySem.Spec PyProof.Rows L2
structure Lens (B : Bk) : Prop where
  f : ∀ a ∈ B.folk, a.1.length ≤ 8 ∧ a.2.length = 1
  u : ∀ a ∈ B.unions, a.length ≤ 2 ∧ ∀ x ∈ a, x.length ≤ 8
  b : ∀ a ∈ B.births, a.1.length ≤ 8 ∧ a.2.length ≤ 2 ∧ ∀ x ∈ a.2, x.length ≤ 8
  a : ∀ a ∈ B.adopts, a.1.length ≤ 8 ∧ a.2.length ≤ 2 ∧ ∀ x ∈ a.2, x.length ≤ 8
theorem kis_non_non : Kd.non.is .non = true := by decide
theorem kis_non_bool : Kd.non.is .bool = false := by decide
theorem kis_non_int : Kd.non.is .int = false := by decide
theorem kis_non_str : Kd.non.is .str = false := by decide
theorem kis_non_tup : Kd.non.is .tup = false := by decide
theorem kis_non_lst : Kd.non.is .lst = false := by decide
theorem kis_non_dct : Kd.non.is .dct = false := by decide
theorem kis_bool_non : Kd.bool.is .non = false := by decide
theorem kis_bool_bool : Kd.bool.is .bool = true := by decide
theorem kis_bool_int : Kd.bool.is .int = true := by decide
theorem kis_bool_str : Kd.bool.is .str = false := by decide
theorem kis_bool_tup : Kd.bool.is .tup = false := by decide
theorem kis_bool_lst : Kd.bool.is .lst = false := by decide
theorem kis_bool_dct : Kd.bool.is .dct = false := by decide
theorem kis_int_non : Kd.int.is .non = false := by decide
theorem kis_int_bool : Kd.int.is .bool = false := by decide
theorem kis_int_int : Kd.int.is .int = true := by decide
theorem kis_int_str : Kd.int.is .str = false := by decide
theorem kis_int_tup : Kd.int.is .tup = false := by decide
theorem kis_int_lst : Kd.int.is .lst = false := by decide
theorem kis_int_dct : Kd.int.is .dct = false := by decide
theorem kis_str_non : Kd.str.is .non = false := by decide
theorem kis_str_bool : Kd.str.is .bool = false := by decide
theorem kis_str_int : Kd.str.is .int = false := by decide
theorem kis_str_str : Kd.str.is .str = true := by decide
theorem kis_str_tup : Kd.str.is .tup = false := by decide
theorem kis_str_lst : Kd.str.is .lst = false := by decide
theorem kis_str_dct : Kd.str.is .dct = false := by decide
theorem kis_tup_non : Kd.tup.is .non = false := by decide
theorem kis_tup_bool : Kd.tup.is .bool = false := by decide
theorem kis_tup_int : Kd.tup.is .int = false := by decide
theorem kis_tup_str : Kd.tup.is .str = false := by decide
theorem kis_tup_tup : Kd.tup.is .tup = true := by decide
theorem kis_tup_lst : Kd.tup.is .lst = false := by decide
theorem kis_tup_dct : Kd.tup.is .dct = false := by decide
theorem kis_lst_non : Kd.lst.is .non = false := by decide
theorem kis_lst_bool : Kd.lst.is .bool = false := by decide
theorem kis_lst_int : Kd.lst.is .int = false := by decide
theorem kis_lst_str : Kd.lst.is .str = false := by decide
theorem kis_lst_tup : Kd.lst.is .tup = false := by decide
theorem kis_lst_lst : Kd.lst.is .lst = true := by decide
theorem kis_lst_dct : Kd.lst.is .dct = false := by decide
theorem kis_dct_non : Kd.dct.is .non = false := by decide
theorem kis_dct_bool : Kd.dct.is .bool = false := by decide
theorem kis_dct_int : Kd.dct.is .int = false := by decide
theorem kis_dct_str : Kd.dct.is .str = false := by decide
theorem kis_dct_tup : Kd.dct.is .tup = false := by decide
theorem kis_dct_lst : Kd.dct.is .lst = false := by decide
theorem kis_dct_dct : Kd.dct.is .dct = true := by decide
theorem isi_bl {S : Sto} {ks : List Kd} {b : Bool} : isiT ks S (.bl b) = some (.bl (ks.any fun c => Kd.is .bool c)) := rfl
theorem isi_non {S : Sto} {ks : List Kd} : isiT ks S .non = some (.bl (ks.any fun c => Kd.is .non c)) := rfl
theorem compA_ifo {κ α : Type} {p : α → Prop} [DecidablePred p] {g : α → T} (xs : List α) : compA (κ := κ) (fun a => pu (if p a then some (g a) else none)) xs = pu ((xs.filter fun a => decide (p a)).map g) := by
  rw [← compA_if]
  congr
  funext a
  split <;> rfl
inductive Dt : Nat → T → Prop
  | str (n : Nat) (x : Nm) : Dt n (.str x)
  | int (n : Nat) (i : Int) : Dt n (.int i)
  | bl (n : Nat) (b : Bool) : Dt n (.bl b)
  | tup {n : Nat} {xs : List T} : (∀ x ∈ xs, Dt n x) → xs.length ≤ 100000 → Dt (n + 1) (.tup xs)
  | lst {n : Nat} {xs : List T} : (∀ x ∈ xs, Dt n x) → xs.length ≤ 100000 → Dt (n + 1) (.lst xs)
theorem Dt.up : ∀ {n : Nat} {t : T}, Dt n t → Dt (n + 1) t
  | _, _, .str n x => .str _ x
  | _, _, .int n x => .int _ x
  | _, _, .bl n x => .bl _ x
  | _, _, .tup h l => .tup (fun x hx => Dt.up (h x hx)) l
  | _, _, .lst h l => .lst (fun x hx => Dt.up (h x hx)) l
theorem Dt.le {n m : Nat} {t : T} (h : Dt n t) (k : n ≤ m) : Dt m t := by
  induction k with
  | refl => exact h
  | step _ ih => exact ih.up
theorem blsOf_rep (n : Nat) : blsOf (List.replicate n (T.bl true)) = some (List.replicate n true) := by
  induction n with
  | zero => rfl
  | succ n ih => rw [List.replicate_succ, List.replicate_succ]; unfold blsOf; rw [ih]; rfl
theorem all_true {α : Type} (xs : List α) : allF emp [.lst (xs.map fun _ => T.bl true)] = some (.bl true) := by
  have : xs.map (fun _ => T.bl true) = List.replicate xs.length (T.bl true) := by
    induction xs with
    | nil => rfl
    | cons x xs ih => rw [List.map_cons, ih, List.length_cons, List.replicate_succ]
  rw [this]
  show (blsOf (List.replicate xs.length (T.bl true))).map (fun bs => T.bl (bs.all id)) = _
  rw [blsOf_rep]
  simp
end TL
namespace TL
open PySem PySem.Spec PyProof.Rows L2
def Bk.kins (B : Bk) : List (Nm × List Nm) := B.births ++ B.adopts
theorem BkOk.kin {B : Bk} (h : BkOk B) {b : Nm × List Nm} (hb : b ∈ B.kins) : KinOk B.names B.unions b := (List.mem_append.mp hb).elim (h.bi b) (h.ad b)
end TL
namespace TL
open PySem PySem.Spec PyProof.Rows L2
section
variable {X : Cx} {e : Expr} {p apos cpos pos : Pos}
def dvalsT (S : Sto) (x : T) : Option T := (dView S x).map fun p => .lst p.2
end
section
variable {X : Cx} {e e2 : Expr} {p p2 pos pos2 : Pos}
def zmT : List T → List T → List T → List T → Option (List T × List T)
  | t :: ts, u :: us, ks, vs => match kyT t with
    | some x => zmT ts us (dPk ks x t) (dPv ks vs x u)
    | none => none
  | _, _, ks, vs => some (ks, vs)
def dzipF (S : Sto) : List T → Option T
  | [x, y] => match res S x, res S y with
    | .lst ts, .lst us => if ts.length = us.length then (zmT ts us [] []).map fun p => .dct false p.1 p.2 else none
    | _, _ => none
  | _ => none
end
section
variable {X : Cx} {o e : Expr} {to te : TTE} {apos cpos : Pos}
end
end TL
namespace TL
open PySem PySem.Spec PyProof.Rows L2
@[simp] theorem dvalsT_dct {ks vs : List T} : dvalsT emp (.dct false ks vs) = some (.lst vs) := rfl
theorem dzipF_l {ts us : List T} : dzipF emp [.lst ts, .lst us] = if ts.length = us.length then (zmT ts us [] []).map fun p => .dct false p.1 p.2 else none := rfl
section
variable {κ : Type} {W : κ → Sto} {p : TEnv} {α β : Type}
end
end TL
namespace TL
open PySem PySem.Spec PyProof.Rows L2
section
variable {κ α β σ : Type}
end
/-- the first book is a part of the other one, marks told or not -/
structure Part (P B : Bk) : Prop where
  nm : P.names.Sublist B.names
  mrk : ∀ p ∈ P.folk, ∃ m, (p.1, m) ∈ B.folk ∧ (p.2 = m ∨ p.2 = q "o")
  un : P.unions.Sublist B.unions
  bi : P.births.Sublist B.births
  ad : P.adopts.Sublist B.adopts
theorem Rise.sub {α : Type} {e : α → T} {xs ys : List α} (h : Rise (ys.map e)) (s : xs.Sublist ys) : Rise (xs.map e) := List.Pairwise.sublist (s.map e) h
section
variable {B : Bk} {F : Nm → Nm} (h : BkOk B) (inj : ∀ a ∈ B.names, ∀ b ∈ B.names, F a = F b → a = b)
include h inj
end
/-- pairs of the folk of two books -/
structure PairsOk (A B : Bk) (ps : List (Nm × Nm)) : Prop where
  nd1 : (ps.map (·.1)).Nodup
  nd2 : (ps.map (·.2)).Nodup
  m1 : ∀ p ∈ ps, p.1 ∈ A.names
  m2 : ∀ p ∈ ps, p.2 ∈ B.names
end TL
namespace TL
open PySem PySem.Spec PyProof.Rows L2
/-- a kind of things that can be asked for -/
structure KQ {α : Type} (e : α → T) : Prop where
  inj : ∀ a b, e a = e b → a = b
  kx : ∀ a, kx (e a) = true
  dp : ∀ a, dep (e a) ≤ 8
section
variable {α : Type} {e : α → T}
theorem KQ.okd (h : KQ e) (a : α) : okd (e a) = true := by
  have := h.dp a
  unfold TL.okd
  rw [kx_plain _ (h.kx a), decide_eq_true (by omega)]
  rfl
theorem KQ.eqt (h : KQ e) [DecidableEq α] (a b : α) : eqt (e a) (e b) = decide (a = b) := by
  have z := eqt_kx (e a) (e b) (h.kx a) (h.kx b)
  by_cases q : a = b
  · subst q; rw [decide_eq_true rfl]; exact z.mpr rfl
  · rw [decide_eq_false q]
    cases w : TL.eqt (e a) (e b) with
    | false => rfl
    | true => exact absurd (h.inj _ _ (z.mp w)) q
theorem KQ.any (h : KQ e) [DecidableEq α] (a : α) : ∀ xs : List α, ((xs.map e).any fun z => TL.eqt z (e a)) = decide (a ∈ xs)
  | [] => rfl
  | x :: xs => by
    rw [List.map_cons, List.any_cons, KQ.any h a xs, h.eqt]
    by_cases q : x = a
    · subst q; simp
    · have q' : a ≠ x := fun z => q z.symm
      simp [q, q']
theorem KQ.okds (h : KQ e) (xs : List α) : TL.okd (.lst (xs.map e)) = true ∧ TL.okd (.tup (xs.map e)) = true := okd_map fun x _ => ⟨h.okd x, by have := h.dp x; omega⟩
theorem KQ.inT (h : KQ e) [DecidableEq α] (a : α) (xs : List α) : inT emp (e a) (.tup (xs.map e)) = some (.bl (decide (a ∈ xs))) ∧ inT emp (e a) (.lst (xs.map e)) = some (.bl (decide (a ∈ xs))) := by
  constructor
  · unfold TL.inT inQ
    show Option.map _ (if (TL.okd (e a) && TL.okd (.tup (xs.map e))) = true then _ else none) = _
    rw [h.okd, (h.okds xs).2, Bool.and_self, if_pos rfl, h.any]; rfl
  · unfold TL.inT inQ
    show Option.map _ (if (TL.okd (e a) && TL.okd (.lst (xs.map e))) = true then _ else none) = _
    rw [h.okd, (h.okds xs).1, Bool.and_self, if_pos rfl, h.any]; rfl
theorem KQ.ninT (h : KQ e) [DecidableEq α] (a : α) (xs : List α) : ninT emp (e a) (.tup (xs.map e)) = some (.bl (!decide (a ∈ xs))) ∧ ninT emp (e a) (.lst (xs.map e)) = some (.bl (!decide (a ∈ xs))) := by
  constructor
  · unfold TL.ninT inQ
    show Option.map _ (if (TL.okd (e a) && TL.okd (.tup (xs.map e))) = true then _ else none) = _
    rw [h.okd, (h.okds xs).2, Bool.and_self, if_pos rfl, h.any]; rfl
  · unfold TL.ninT inQ
    show Option.map _ (if (TL.okd (e a) && TL.okd (.lst (xs.map e))) = true then _ else none) = _
    rw [h.okd, (h.okds xs).1, Bool.and_self, if_pos rfl, h.any]; rfl
end
inductive Rw where
  | fk (p : Nm × Nm) : Rw
  | un (f : List Nm) : Rw
  | bo (b : Nm × List Nm) : Rw
  | ad (b : Nm × List Nm) : Rw
  deriving DecidableEq
def Bk.rows (B : Bk) : List Rw := B.folk.map .fk ++ B.unions.map .un ++ B.births.map .bo ++ B.adopts.map .ad
end TL
namespace TL
open PySem PySem.Spec PyProof.Rows L2
section
variable {G : Gd} {S1 : Sto} {H1 : Hp}
end
section
variable {S0 S S' : Sto} {H0 H H' : Hp} {d : Addr} {o : Obj} {kvs : List (Key × V)}
end
section
variable {X : Cx} {tg : Expr} {body : List Stmt} {g : TTG} {t : TTS} {vs : List Nat} {pos p : Pos} {x : Str} {i : Nat}
end
section
variable {X : Cx} {elt tg : Expr} {ifs : List Expr} {scope : Scope} {g : TTG} {tc : TTB} {te : TTE} {pos p : Pos} {x : Str} {i : Nat} {ow : List (Str × Nat)}
end
section
variable {X : Cx} {k v : Expr} {tk tv : TTE} {pos : Pos}
end
section
variable {X : Cx} {o e i : Expr} {to te ti : TTE} {apos cpos : Pos}
end
section
variable {X : Cx} {e : Expr} {te : TTE} {p pos : Pos}
end
end TL
namespace TL
open PySem PySem.Spec PyProof.Rows L2
section
variable {κ : Type} {W : κ → Sto} {p : TEnv} {l : Cs}
def keysM (v : T) : PM κ (List T) := match v with
  | .dct false ks _ => pu ks
  | _ => stuck
@[simp] theorem keysM_dct {ks vs : List T} : keysM (κ := κ) (.dct false ks vs) = pu ks := rfl
variable {e : TTE} {m : PM κ T}
end
end TL
namespace TL
open PySem PySem.Spec PyProof.Rows L2
/-- a walk of so many steps -/
def Walk (ab : Nm → List Nm) : Nat → Nm → Nm → Prop
  | 0, a, b => a = b
  | k + 1, a, b => ∃ c, c ∈ ab a ∧ Walk ab k c b
structure Bfs (ab : Nm → List Nm) (b : Nm) (row : List Nm) (par : Nm → Option Nm) (D : Nm → Nat) (i : Nat) : Prop where
  nd : row.Nodup
  hd : row[0]? = some b
  db : D b = 0
  pb : par b = none
  pr : ∀ x ∈ row, x ≠ b → ∃ p, par x = some p ∧ p ∈ row ∧ x ∈ ab p ∧ D x = D p + 1
  mono : ∀ (j k : Nat) (x y : Nm), j ≤ k → row[j]? = some x → row[k]? = some y → D x ≤ D y
  near : ∀ x y : Nm, row[i]? = some x → y ∈ row → D y ≤ D x + 1
  done : ∀ (j : Nat) (x : Nm), j < i → row[j]? = some x → b ∉ ab x ∧ ∀ y ∈ ab x, y ∈ row ∧ D y ≤ D x + 1
section
variable {ab : Nm → List Nm} {b here y : Nm} {row : List Nm} {par : Nm → Option Nm} {D : Nm → Nat} {i : Nat}
theorem Bfs.start (b : Nm) : Bfs ab b [b] (fun _ => none) (fun _ => 0) 0 where
  nd := by simp
  hd := rfl
  db := rfl
  pb := rfl
  pr := fun x hx hn => absurd (List.mem_singleton.mp hx) hn
  mono := fun _ _ _ _ _ _ _ => Nat.le_refl _
  near := fun _ _ _ _ => Nat.zero_le _
  done := fun j _ h _ => absurd h (Nat.not_lt_zero _)
theorem Bfs.bm (h : Bfs ab b row par D i) : b ∈ row := List.mem_of_getElem? h.hd
theorem Bfs.next (h : Bfs ab b row par D i) (hi : row[i]? = some here) (hb : b ∉ ab here) (ha : ∀ y ∈ ab here, y ∈ row) : Bfs ab b row par D (i + 1) :=
  ⟨h.nd, h.hd, h.db, h.pb, h.pr, h.mono, fun x z hx hz => Nat.le_trans (h.near here z hi hz) (by have := h.mono i (i + 1) here x (by omega) hi hx; omega), fun j x hj hx => by
    by_cases e : j = i
    · subst e
      rw [hi] at hx
      cases hx
      exact ⟨hb, fun z hz => ⟨ha z hz, h.near here z hi (ha z hz)⟩⟩
    · exact h.done j x (by omega) hx⟩
theorem Bfs.none (h : Bfs ab b row par D row.length) : ∀ (k : Nat) (x : Nm), x ∈ row → ¬ Walk ab (k + 1) x b
  | 0, x, hx, ⟨c, hc, e⟩ => by
    obtain ⟨j, hj⟩ := List.getElem?_of_mem hx
    have e : c = b := e
    subst e
    exact (h.done j x (List.getElem?_eq_some_iff.mp hj).1 hj).1 hc
  | k + 1, x, hx, ⟨c, hc, w⟩ => by
    obtain ⟨j, hj⟩ := List.getElem?_of_mem hx
    exact h.none k c ((h.done j x (List.getElem?_eq_some_iff.mp hj).1 hj).2 c hc).1 w
theorem Bfs.least (h : Bfs ab b row par D i) (hi : row[i]? = some here) : ∀ (k : Nat) (x : Nm), x ∈ row → Walk ab (k + 1) x b → D here ≤ D x + k := by
  intro k
  induction k with
  | zero =>
    rintro x hx ⟨c, hc, e⟩
    obtain ⟨j, hj⟩ := List.getElem?_of_mem hx
    by_cases q : j < i
    · have e : c = b := e
      subst e
      exact absurd hc (h.done j x q hj).1
    · exact h.mono i j here x (by omega) hi hj
  | succ k ih =>
    rintro x hx ⟨c, hc, w⟩
    obtain ⟨j, hj⟩ := List.getElem?_of_mem hx
    by_cases q : j < i
    · obtain ⟨m1, m2⟩ := (h.done j x q hj).2 c hc
      have := ih c m1 w
      omega
    · have := h.mono i j here x (by omega) hi hj
      omega
end
/-- each one leads to the next one -/
def Chn (ab : Nm → List Nm) : List Nm → Prop
  | a :: c :: r => c ∈ ab a ∧ Chn ab (c :: r)
  | _ => True
section
variable {κ σ : Type} {c : σ → PM κ Bool} {b : σ → PM κ σ}
end
theorem Bfs.deep {ab : Nm → List Nm} {b0 : Nm} {row : List Nm} {par : Nm → Option Nm} {D : Nm → Nat} {i : Nat} (h : Bfs ab b0 row par D i) : ∀ (n : Nat) (x : Nm), x ∈ row → D x = n → ∃ l : List Nm, l.Nodup ∧ (∀ y ∈ l, y ∈ row ∧ D y ≤ n) ∧ l.length = n + 1
  | 0, x, hx, hd => ⟨[x], by simp, fun y hy => by rw [List.mem_singleton.mp hy]; exact ⟨hx, by omega⟩, rfl⟩
  | n + 1, x, hx, hd => by
    have hn : x ≠ b0 := fun e => by rw [e, h.db] at hd; omega
    obtain ⟨p, _, e2, _, e4⟩ := h.pr x hx hn
    obtain ⟨l, l1, l2, l3⟩ := h.deep n p e2 (by omega)
    refine ⟨x :: l, List.nodup_cons.mpr ⟨fun z => by have := (l2 x z).2; omega, l1⟩, fun y hy => ?_, by rw [List.length_cons, l3]⟩
    rcases List.mem_cons.mp hy with rfl | hy
    · exact ⟨hx, by omega⟩
    · exact ⟨(l2 y hy).1, by have := (l2 y hy).2; omega⟩
section
variable {κ σ α : Type}
variable {c : σ → PM κ Bool} {b : σ → PM κ (Fl σ)} {k : Nat} {s s' : σ}
end
/-- a ring of forebears from somebody, of least length -/
structure RingAt (ab : Nm → List Nm) (V : List Nm) (b0 : Nm) (p : List Nm) : Prop where
  chn : Chn ab (b0 :: p)
  mem : ∀ x ∈ p, x ∈ V
  back : ∃ l, (b0 :: p)[p.length]? = some l ∧ b0 ∈ ab l
  least : ∀ k, Walk ab (k + 1) b0 b0 → p.length ≤ k
  len : p.length < V.length
theorem Walk.snoc {ab : Nm → List Nm} : ∀ {k : Nat} {a b c : Nm}, Walk ab k a b → c ∈ ab b → Walk ab (k + 1) a c
  | 0, a, b, c, h, hc => ⟨c, by have h : a = b := h; rw [h]; exact hc, rfl⟩
  | k + 1, a, b, c, ⟨d, hd, w⟩, hc => ⟨d, hd, w.snoc hc⟩
theorem Chn.walk {ab : Nm → List Nm} : ∀ {p : List Nm} {a l : Nm}, Chn ab (a :: p) → (a :: p)[p.length]? = some l → Walk ab p.length a l
  | [], a, l, _, h => by
    have h : some a = some l := h
    cases h
    rfl
  | c :: p, a, l, ⟨h1, h2⟩, h => ⟨c, h1, Chn.walk h2 (by simpa using h)⟩
theorem RingAt.walk {ab : Nm → List Nm} {V p : List Nm} {b0 : Nm} (h : RingAt ab V b0 p) : Walk ab (p.length + 1) b0 b0 := by
  obtain ⟨l, h1, h2⟩ := h.back
  exact (h.chn.walk h1).snoc h2
end TL
namespace TL
open PySem PySem.Spec PyProof.Rows L2
end TL
namespace TL
open PySem PySem.Spec PyProof.Rows L2
end TL
namespace TL
open PySem PySem.Spec PyProof.Rows L2
theorem oexB_ok {K : PySem.W.Frag} {C : Addr} (h : oexB K C = true) : ∃ nm q N bs bm sn sub ab col dd k0 k1 k2 k3 k5, K.lookup C = some (excClassObj nm q C N bs bm true sn sub ab col dd k0 k1 k2 k3 k5 "ValueError.__new__") ∧ PySem.HandSPX.refsVE bm = true := by
  unfold oexB at h
  split at h
  · rename_i dd cd sl ho
    split at h
    · rename_i C' bm k0 k1 k2 k3 n k5 hm hs
      simp only [Bool.and_eq_true, beq_iff_eq, Bool.not_eq_true'] at h
      obtain ⟨rfl, rfl, hd, hdel, hb⟩ := h
      obtain ⟨nm, bs, mro, ns, qn, hd', sn, sub, ab, col, del⟩ := cd
      dsimp only at hm hdel hd
      subst hm hdel hd
      have hsl : sl = #[k0, k1, k2, k3, some (.builtin "ValueError.__new__"), k5] := by
        obtain ⟨l⟩ := sl
        simp only at hs
        rw [hs]
      subst hsl
      exact ⟨nm, qn, ns, bs, bm, sn, sub, ab, col, dd, k0, k1, k2, k3, k5, ho, hb⟩
    · cases h
  · cases h
/-- an exception class of the program -/
structure XC (K : PySem.W.Frag) (C : Addr) : Prop where
  oex : OexC K C
  ga : PySem.W.findIn K (.ref C) "__getattribute__" = some (some (.builtin "BaseException.__getattribute__"))
  gg : PySem.W.findIn K (.ref C) "__getattr__" = some none
  hd : PySem.W.hasDictIn K C = true
  ca : PySem.W.findIn K (.ref C) "__class__" = some (some (.builtin "object.__class__"))
  mo : PySem.W.mroIn K C (.type "object") = some true
  cn : PySem.W.specialIn K (.builtin "object.__class__") "__get__" = some (some (.builtin "getset_descriptor.__get__"))
  ct : PySem.W.takesIn K (.builtin "object.__class__") = some true
theorem xcB_ok {K : PySem.W.Frag} {C : Addr} (h : xcB K C = true) : XC K C := by
  unfold xcB at h
  simp only [Bool.and_eq_true, decide_eq_true_eq] at h
  obtain ⟨h1, h2, h3, h4, h5, h6, h7, h8, h9, h10, h11, h12⟩ := h
  exact ⟨⟨oexB_ok h1, He.eqO_ok h2, h3, h4, h5⟩, He.eqO_ok h6, He.eqO_ok h7, h8, He.eqO_ok h9, h10, He.eqO_ok h11, h12⟩
/-- the base class over ValueError, without an __init__ of its own -/
structure KeB (K : PySem.W.Frag) (B : Addr) : Prop where
  rd : PySem.W.readsIn K B (.type "type") = true
  ga : PySem.W.specialIn K (.ref B) "__getattribute__" = some (some (.builtin "type.__getattribute__"))
  at_ : PySem.W.findCls K (.ref B) (.type "type") "__init__" = some (.val (.builtin "ValueError.__init__"))
theorem keB_ok {K : PySem.W.Frag} {B : Addr} (h : keB K B = true) : KeB K B := by
  unfold keB at h
  simp only [Bool.and_eq_true] at h
  obtain ⟨h1, h2, h3⟩ := h
  refine ⟨h1, He.eqO_ok h2, ?_⟩
  split at h3
  · rename_i v e
    rw [e, of_decide_eq_true h3]
  · cases h3
/-- C's __init__ at f; its fields aren't found in the class -/
structure XIn (K : PySem.W.Frag) (C f : Addr) (fs : List Str) : Prop where
  iC : PySem.W.findIn K (.ref C) "__init__" = some (some (.ref f))
  tI : PySem.W.typeIn K (.ref f) = some (.type "function")
  no : ∀ x ∈ fs, PySem.W.findIn K (.ref C) x = some none
theorem xinB_ok {K : PySem.W.Frag} {C f : Addr} {fs : List Str} (h : xinB K C f fs = true) : XIn K C f fs := by
  unfold xinB at h
  simp only [Bool.and_eq_true, decide_eq_true_eq] at h
  obtain ⟨h1, h2, h3⟩ := h
  exact ⟨He.eqO_ok h1, h2, fun x hx => He.eqO_ok (List.all_eq_true.mp h3 x hx)⟩

section
variable {X : Cx} {o e : Expr} {es : List Expr} {ta : L2.TA} {p1 p2 pos : Pos} {x : Str} {B : Addr}
theorem pe_keinit {pl : Sem Bool} (k : KeB X.K B) (hg : Gl X x) (hm : X.mg x = some (.ref B)) (ha : PA X (e :: es) ta) (hdb : (x == ("__debug__" : Str)) = false := by decide)
    (hc : eval (.Call (.Attribute (.Name x p1) "__init__" p2) (e :: es) [] pos) X.env = (do
      let ov ← eval (.Name x p1) X.env
      standAt p2.atName
      let (f, first) ← holding [ov] (getMethod ov "__init__" pl)
      callWith pos f first (backTo pos (starEach (e :: es) X.env)) (backToKw pos (keywordEach [] X.env))) := by rfl)
    (he : starEach (e :: es) X.env = (false, eval e X.env) :: starEach es X.env := by rfl) (hpl : (backTo pos (starEach es X.env)).any (·.1) = false := by rfl) :
    PE X (.Call (.Attribute (.Name x p1) "__init__" p2) (e :: es) [] pos) (tVeI X.K ta) := by
  refine ⟨fun pins s σ H Q I h => ?_⟩
  refine PySem.W.methodCall_KW (ld_glob I hg hm ?_ hdb) hc
  refine PySem.W.method_cls I.kIn k.ga (PySem.W.cls_value I.kIn k.rd k.at_ (by decide +kernel) ?_)
  show wpAny _ _ (callWith pos (Value.builtin "ValueError.__init__") [] (backTo pos (starEach (e :: es) X.env)) []) _ _ _
  refine PyProof.Rows.callWith_method1 (thn (ha.run pos pins _ σ H _ (I.tok _) h) fun us s1 ⟨vs, H1, I1, r1, a, C, ws, ev, hl, T, ea, q⟩ => ?_) he hpl
  subst ev
  cases r1 with
  | @cons _ u0 _ ur ra rw' =>
    obtain rfl : u0 = Value.ref a := ra
    have hlen : ur.length ≤ sizeLine := by
      rw [← Paired.length rw', sizeLine_eq]
      omega
    exact oinit_ok T I1 ea hlen fun s' J => ⟨.non, H1, J, rfl, q⟩
end
/-- what an __init__ of the class at C promises: its fields, the last one first -/
def spI (K : PySem.W.Frag) (C : Addr) (fs : List Str) : Sp := fun vs H Q _ => ∃ a ws, vs = .ref a :: ws ∧ ws.length = fs.length ∧ H a = some (exo a C none) ∧
  ((fs = [] ∧ Q .non H) ∨ (fs ≠ [] ∧ ∀ d H2, H d = none → d ≠ a → (∀ b, b ≠ a → b ≠ d → H2 b = H b) → H2 a = some (exo a C (some d)) → H2 d = some (exd d (fs.reverse.zip ws.reverse)) → Q .non H2))
section
variable {P : Program} {w : World} {K : PySem.W.Frag} {mg : Str → Option Value} {base : Heap} {x qual : Str} {params : Arguments} {body : List Stmt} {scope : Scope} {f C : Addr} {fd : FuncData} {m f1 f2 a1 a2 : Str}
theorem spI_len {fs : List Str} : ∀ vs H Q E, spI K C fs vs H Q E → vs.length = fs.length + 1 := fun vs H Q E ⟨a, ws, e, l, _⟩ => by rw [e, List.length_cons, l]
theorem init0 (F : FunD K x qual params body scope [] [] f fd) (Sc : FnScope ["self"] ["self"] scope) (T : OexC K C)
    (hb : ∀ (cdv : Value) (A : Around) (outer : List Env) (s : Shared) (H : Hp) (E : XK), PSs (cxOf (L2N.CX P w) P w K mg base ["self"] qual scope f cdv A outer s H E) body (tSeq (tDrop (tVeI K (tCons (tVar 0) (tCons (tC (.str m)) tNil)))) tNext)) :
    FnOk P w K mg base (L2N.CX P w) 1 f fd ["self"] (spI K C []) := by
  refine F.ok Sc spI_len fun cdv A outer s H vs Q E hr h => ⟨_, hb cdv A outer s H E, ?_⟩
  obtain ⟨a, ws, rfl, hl, ea, hq⟩ := h
  obtain rfl : ws = [] := List.length_eq_zero_iff.mp hl
  rcases hq with ⟨_, q⟩ | ⟨n, _⟩
  · exact ⟨.ref a, rfl, a, C, [.str m], rfl, by simp, T, ea, q⟩
  · exact absurd rfl n
theorem init1 (F : FunD K x qual params body scope [] [] f fd) (Sc : FnScope ["self", a1] ["self", a1] scope) (T : OexC K C) (n1 : PySem.W.findIn K (.ref C) f1 = some none)
    (hb : ∀ (cdv : Value) (A : Around) (outer : List Env) (s : Shared) (H : Hp) (E : XK), PSs (cxOf (L2N.CX P w) P w K mg base ["self", a1] qual scope f cdv A outer s H E) body (tSeq (tDrop (tVeI K (tCons (tVar 0) (tCons (tC (.str m)) tNil)))) (tSeq (tOst K f1 (tVar 0) (tVar 1)) tNext))) :
    FnOk P w K mg base (L2N.CX P w) 1 f fd ["self", a1] (spI K C [f1]) := by
  refine F.ok Sc spI_len fun cdv A outer s H vs Q E hr h => ⟨_, hb cdv A outer s H E, ?_⟩
  obtain ⟨a, ws, rfl, hl, ea, hq⟩ := h
  obtain ⟨v, rfl⟩ : ∃ v, ws = [v] := by
    match ws, hl with
    | [v], _ => exact ⟨v, rfl⟩
  rcases hq with ⟨n, _⟩ | ⟨_, q⟩
  · cases n
  · refine ⟨.ref a, rfl, a, C, [.str m], rfl, by simp, T, ea, ?_⟩
    refine ⟨v, rfl, .ref a, rfl, a, C, rfl, T, n1, .inl ⟨ea, fun d hd ne => ?_⟩⟩
    exact q d _ hd ne (fun b h1 h2 => by rw [upd_ne h1, upd_ne h2]) upd_same (by rw [upd_ne ne, upd_same]; rfl)
theorem init2 (F : FunD K x qual params body scope [] [] f fd) (Sc : FnScope ["self", a1, a2] ["self", a1, a2] scope) (T : OexC K C) (n1 : PySem.W.findIn K (.ref C) f1 = some none) (n2 : PySem.W.findIn K (.ref C) f2 = some none)
    (hb : ∀ (cdv : Value) (A : Around) (outer : List Env) (s : Shared) (H : Hp) (E : XK), PSs (cxOf (L2N.CX P w) P w K mg base ["self", a1, a2] qual scope f cdv A outer s H E) body (tSeq (tDrop (tVeI K (tCons (tVar 0) (tCons (tC (.str m)) tNil)))) (tSeq (tOst K f1 (tVar 0) (tVar 1)) (tSeq (tOst K f2 (tVar 0) (tVar 2)) tNext)))) :
    FnOk P w K mg base (L2N.CX P w) 1 f fd ["self", a1, a2] (spI K C [f1, f2]) := by
  refine F.ok Sc spI_len fun cdv A outer s H vs Q E hr h => ⟨_, hb cdv A outer s H E, ?_⟩
  obtain ⟨a, ws, rfl, hl, ea, hq⟩ := h
  obtain ⟨v, v2, rfl⟩ : ∃ v v2, ws = [v, v2] := by
    match ws, hl with
    | [v, v2], _ => exact ⟨v, v2, rfl⟩
  rcases hq with ⟨n, _⟩ | ⟨_, q⟩
  · cases n
  · refine ⟨.ref a, rfl, a, C, [.str m], rfl, by simp, T, ea, ?_⟩
    refine ⟨v, rfl, .ref a, rfl, a, C, rfl, T, n1, .inl ⟨ea, fun d hd ne => ?_⟩⟩
    refine ⟨v2, rfl, .ref a, rfl, a, C, rfl, T, n2, .inr ⟨d, [(f1, v)], upd_same, by rw [upd_ne ne, upd_same], by simp, ?_⟩⟩
    exact q d _ hd ne (fun b h1 h2 => by rw [upd_ne h2, upd_ne h1, upd_ne h2]) (by rw [upd_ne (Ne.symm ne)]; exact upd_same) (by rw [upd_same]; rfl)
end
theorem mk_endN {X : Cx} {pins : List (Addr × Obj)} {σ : L2.St} {H1 H2 : Hp} {hp hp2 h2 : Heap} {g1 g2 : Array GenState} {d1 d2 : Drawn} {t1 t2 : Nat} {os1 os2 : OsState} {a C : Addr} (I1 : Inv X pins σ H1 ⟨hp, g1, d1, t1, os1⟩)
    (ha : hp.objs.size ≤ a) (k : ∀ b o, hp.get? b = some o → hp2.get? b = some o) (un : Un (frs X.stack) [] (upd H1 a (exo a C none)) H2 hp2 h2) (hok : HOk X.prog X.w H2 h2) (ho : os2 = os1) (hb : AllBare g2) (ea : H2 a = some (exo a C none)) :
    ∃ (t0 : Addr) (G : Heap), Inv X pins σ (L2.del H2 a) ⟨G, g2, d2, t2, os2⟩ ∧ (∀ b o, G.get? b = some o → h2.get? b = some o) ∧ G.get? a = none ∧
      h2.get? a = some ({ cls := .ref C, dict := none, data := .fields #[.ref t0, .none, .none, .none, .bool false, .none] } : Obj) ∧ (L2.del H2 a) a = none := by
  obtain ⟨t0, hoe⟩ := exo_at hok ea
  have hn : H1 a = none := I1.hok.fresh ha
  obtain ⟨G, g1', g2'⟩ := restrict h2 fun b => decide (b ≠ a)
  have gk : ∀ b, b ≠ a → G.get? b = h2.get? b := fun b hb => g1' b (decide_eq_true hb)
  have ge : G.get? a = none := g2' a (by simp)
  have nha : ∀ {b : Addr} {o : Obj}, hp.get? b = some o → b ≠ a := fun {b o} z => Nat.ne_of_lt (Nat.lt_of_lt_of_le (Heap.lt_size z) ha)
  have up : ∀ {b : Addr}, b ≠ a → H1 b = none → upd H1 a (exo a C none) b = none := fun {b} hb n => by rw [upd_ne hb]; exact n
  have U : Un (frs X.stack) [] H1 (L2.del H2 a) hp G := {
    keep := fun b o z n hf hx => by
      rw [gk b (nha z)]
      exact un.keep b o (k b o z) (up (nha z) n) hf hx
    slot := fun b o z n hf hx => by
      rw [gk b (nha z)]
      exact un.slot b o (k b o z) (up (nha z) n) hf hx
    free := fun b o z n hx => by
      rw [del_ne (nha z)]
      exact un.free b o (k b o z) (up (nha z) n) hx
    there := fun b o z hx => by
      rw [gk b (nha z)]
      exact un.there b o (k b o z) hx
    tups := fun b xs z => by
      rw [del_ne (ne_of_none z hn)]
      exact un.tups b xs (by rw [upd_ne (ne_of_none z hn)]; exact z)
    frzs := fun b o v z => by
      rw [del_ne (ne_of_none z hn)]
      exact un.frzs b o v (by rw [upd_ne (ne_of_none z hn)]; exact z)
    tbls := fun b ps z => by
      rw [del_ne (ne_of_none z hn)]
      exact un.tbls b ps (by rw [upd_ne (ne_of_none z hn)]; exact z) }
  have hok3 : HOk X.prog X.w (L2.del H2 a) G := fun b o z => by
    have hba : b ≠ a := fun e => by
      rw [e, del_same] at z
      cases z
    rw [del_ne hba] at z
    have noa : ∀ {c : Addr}, H2 c = some (.own b) → c ≠ a := fun {c} hc => at_ne ea hc exo_own
    exact (hok b o z).stay (fun c v hc y => by
        have hca : c ≠ a := by
          rcases hc with hc | hc
          · rw [hc]
            exact hba
          · exact noa hc
        rw [gk c hca]
        exact y)
      (fun c hc => by rw [del_ne (noa hc)]; exact hc) (fun c xs hc => by rw [del_ne (at_ne ea hc exo_tup)]; exact hc)
  have J : Inv X pins σ (L2.del H2 a) ⟨G, g2, d2, t2, os2⟩ := I1.call' (ch := []) ho U hok3 hb (fun b z => absurd z (by simp))
  refine ⟨t0, G, J, fun b o z => ?_, ge, hoe, del_same⟩
  by_cases hba : b = a
  · rw [hba, ge] at z
    cases z
  · exact (gk b hba).symm.trans z
/-- C(..): its fields, the last one first -/
def tMkX (C : Addr) (fs : List Str) (ta : L2.TA) : L2.St → Hp → XK → Prop := fun σ H Q => ta σ H fun vs H1 => vs.length = fs.length ∧ fs.length ≤ 900 ∧
  ((fs = [] ∧ Q (.ref C) none H1) ∨ (fs ≠ [] ∧ ∀ d, H1 d = none → Q (.ref C) (some d) (upd H1 d (.xd (fs.reverse.zip vs.reverse)))))
section
variable {X : Cx} {CX : CXT} {x : Str} {C fI : Addr} {k : Nat} {fd : FuncData} {ps : List Str} {fs : List Str} {e : Expr} {es : List Expr} {ta : L2.TA} {p pos : Pos}
theorem run_mkX {pins : List (Addr × Obj)} {σ : L2.St} {H1 : Hp} {Q : XK} {s1 : Shared} {us : List Value} {vs : List V} (T : XC X.K C) (N : XIn X.K C fI fs)
    (F1 : FnOk X.prog X.w X.K X.mg X.base CX k fI fd ps (spI X.K C fs)) (hr : Room (k + 1) X.A) (hb : Binds X.K fd ps []) (hx : Passes CX X (fun _ _ _ => False)) (I1 : Inv X pins σ H1 s1) (r1 : Vals vs us)
    (hq : vs.length = fs.length ∧ fs.length ≤ 900 ∧ ((fs = [] ∧ Q (.ref C) none H1) ∨ (fs ≠ [] ∧ ∀ d, H1 d = none → Q (.ref C) (some d) (upd H1 d (.xd (fs.reverse.zip vs.reverse)))))) :
    wpAny (model X.prog X.w) X.A (call (.ref C) us) (L2N.MkP X pins σ Q) X.xe s1 := by
  obtain ⟨nm, q, N', bs, bm, sn, sub, ab, col, dd, k0, k1, k2, k3, k5, hC, hbm⟩ := T.oex.cls
  obtain ⟨hp, g, dr, tk, os⟩ := s1
  obtain ⟨hl, hl9, hq⟩ := hq
  have hsz : hp.objs.size ≤ hp.objs.size + 1 := Nat.le_succ _
  have hn : H1 (hp.objs.size + 1) = none := I1.hok.fresh hsz
  have kk : ∀ b o, hp.get? b = some o → ((hp.push (PySem.W.kdv_tup us)).push (PySem.HandSPX.excO C hp.objs.size)).get? b = some o := fun b o e => Heap.get?_push_of_some _ (Heap.get?_push_of_some _ e)
  have hget : ((hp.push (PySem.W.kdv_tup us)).push (PySem.HandSPX.excO C hp.objs.size)).get? (hp.objs.size + 1) = some (PySem.HandSPX.excO C hp.objs.size) := by heap_get
  have I2 : Inv X pins σ (upd H1 (hp.objs.size + 1) (exo (hp.objs.size + 1) C none)) ⟨(hp.push (PySem.W.kdv_tup us)).push (PySem.HandSPX.excO C hp.objs.size), g, dr, tk, os⟩ :=
    I1.laid (t' := tk) (a := hp.objs.size + 1) (o := exo (hp.objs.size + 1) C none) (h' := (hp.push (PySem.W.kdv_tup us)).push (PySem.HandSPX.excO C hp.objs.size)) kk hsz (exo_ok hget)
  have r2 : Vals (V.ref (hp.objs.size + 1) :: vs) (Value.ref (hp.objs.size + 1) :: us) := .cons rfl r1
  have hus : us.length ≤ sizeLine := by
    rw [← Paired.length r1, sizeLine_eq]
    omega
  have hsp : spI X.K C fs (V.ref (hp.objs.size + 1) :: vs) (upd H1 (hp.objs.size + 1) (exo (hp.objs.size + 1) C none)) (fun v H2 => v = .non ∧
      ((fs = [] ∧ H2 (hp.objs.size + 1) = some (exo (hp.objs.size + 1) C none) ∧ Q (.ref C) none (L2.del H2 (hp.objs.size + 1))) ∨
      ∃ (d : Addr) (gs : List (Str × V)), H2 (hp.objs.size + 1) = some (exo (hp.objs.size + 1) C (some d)) ∧ H2 d = some (exd d gs) ∧ H1 d = none ∧ Q (.ref C) (some d) (upd (L2.del H2 (hp.objs.size + 1)) d (.xd gs)))) (fun _ _ _ => False) := by
    refine ⟨_, vs, rfl, hl, upd_same, ?_⟩
    rcases hq with ⟨h0, q⟩ | ⟨h0, q⟩
    · refine .inl ⟨h0, rfl, .inl ⟨h0, upd_same, ?_⟩⟩
      have e : L2.del (upd H1 (hp.objs.size + 1) (exo (hp.objs.size + 1) C none)) (hp.objs.size + 1) = H1 := by
        funext b
        by_cases z : b = hp.objs.size + 1
        · rw [z, del_same, hn]
        · rw [del_ne z, upd_ne z]
      rw [e]
      exact q
    · refine .inr ⟨h0, fun d H2 hd ne hk ha hdd => ⟨rfl, .inr ⟨d, _, ha, hdd, ?_, ?_⟩⟩⟩
      · rwa [upd_ne ne] at hd
      · have e : upd (L2.del H2 (hp.objs.size + 1)) d (.xd (fs.reverse.zip vs.reverse)) = upd H1 d (.xd (fs.reverse.zip vs.reverse)) := by
          funext b
          by_cases z : b = d
          · rw [z, upd_same, upd_same]
          · rw [upd_ne z, upd_ne z]
            by_cases y : b = hp.objs.size + 1
            · rw [y, del_same, hn]
            · rw [del_ne y, hk b y z, upd_ne y]
        rw [e]
        refine q d ?_
        rwa [upd_ne ne] at hd
  have hl2 : (Value.ref (hp.objs.size + 1) :: us ++ []).length = ps.length := by
    have e := r2.length
    rw [F1.len _ _ _ _ hsp] at e
    rw [List.append_nil]
    exact e.symm
  have b2 := hb _ (Value.ref (hp.objs.size + 1) :: us) I2.kIn hl2
  rw [List.append_nil] at b2
  refine wpAny_call (PySem.HandSPX.call_own F.excBase_ValueError (fun Y => PySem.HandSPX.refsVE_contains Y bm hbm) (I1.kIn _ _ hC) (PySem.W.looks_findIn I1.kIn N.iC) (fun self => PySem.W.bind_fn I1.kIn self N.tI) hus
    (codeAny_mono (F1.run _ X.stack _ _ ⟨Value.ref (hp.objs.size + 1) :: us, []⟩ (Value.ref (hp.objs.size + 1) :: us) _ _ (fun _ _ _ => False) (hr.make C us []) (I2.env0.make C us []) b2 r2 hsp) fun r s' hq' => ?_))
  cases r with
  | error er => exact hx pins σ _ _ er s' I2 hq'
  | ok fl =>
    cases fl with
    | ret u =>
      obtain ⟨v, H2, os2, bare2, un2, hok2, rv, ev, hh⟩ := hq'
      subst ev
      obtain ⟨h2, g2, d2, t2, os'⟩ := s'
      rcases hh with ⟨h0, ea, q2⟩ | ⟨d, gs, ea, ed, hd1, q2⟩
      · obtain ⟨t0, G, J, kG, ge, hoe, na⟩ := mk_endN (d2 := d2) (t2 := t2) I1 hsz kk un2 hok2 os2 bare2 ea
        exact ⟨rv, ⟨hp.objs.size + 1, _, _, ⟨G, g2, d2, t2, os'⟩, _, .ref C, none, rfl, J, kG, ge, hoe, ⟨rfl, rfl, fun vs hv => by cases hv; rfl⟩, rfl, rfl, na, rfl, bare2, raises_own T.oex.exC T.oex.tyC, q2⟩⟩
      · obtain ⟨t0, G, J, kG, ge, hoe, na⟩ := mk_end0 (d2 := d2) (t2 := t2) I1 hsz kk un2 hok2 os2 bare2 ea ed hd1
        exact ⟨rv, ⟨hp.objs.size + 1, _, _, ⟨G, g2, d2, t2, os'⟩, _, .ref C, some d, rfl, J, kG, ge, hoe, ⟨rfl, rfl, fun vs hv => by cases hv; rfl⟩, rfl, rfl, na, rfl, bare2, raises_own T.oex.exC T.oex.tyC, q2⟩⟩
    | next => exact False.elim hq'
    | brk => exact False.elim hq'
    | cont => exact False.elim hq'
theorem pmk_x (T : XC X.K C) (N : XIn X.K C fI fs) (F1 : FnOk X.prog X.w X.K X.mg X.base CX k fI fd ps (spI X.K C fs)) (hr : Room (k + 1) X.A) (hb : Binds X.K fd ps []) (hx : Passes CX X (fun _ _ _ => False)) (hg : Gl X x) (hm : X.mg x = some (.ref C)) (ha : PA X (e :: es) ta)
    (hdb : (x == ("__debug__" : Str)) = false := by decide) (he : starEach (e :: es) X.env = (false, eval e X.env) :: starEach es X.env := by rfl) (hpl : (backTo pos (starEach es X.env)).any (·.1) = false := by rfl) :
    L2N.PMk X (.Call (.Name x p) (e :: es) [] pos) (tMkX C fs ta) := by
  intro pins s σ H Q I h
  refine wpAny_Call_Name_kw (ld_glob I hg hm ?_ hdb)
  refine PySem.W.callWith_K (h₀ := X.base) I.ok.mod.kin T.oex.kC (thn (ha.run pos pins s σ H _ I h) fun us s1 ⟨vs, H1, I1, r1, q1⟩ => ⟨I1.kIn, ?_⟩) he hpl
  exact run_mkX T N F1 hr hb hx I1 r1 q1
theorem pmk_x0 (T : XC X.K C) (N : XIn X.K C fI []) (F1 : FnOk X.prog X.w X.K X.mg X.base CX k fI fd ps (spI X.K C [])) (hr : Room (k + 1) X.A) (hb : Binds X.K fd ps []) (hx : Passes CX X (fun _ _ _ => False)) (hg : Gl X x) (hm : X.mg x = some (.ref C))
    (hdb : (x == ("__debug__" : Str)) = false := by decide) :
    L2N.PMk X (.Call (.Name x p) [] [] pos) (tMkX C [] tNil) := by
  intro pins s σ H Q I h
  refine wpAny_Call_Name_kw (ld_glob I hg hm ?_ hdb)
  refine PySem.W.callWith_K0 I.kIn T.oex.kC ?_
  exact run_mkX T N F1 hr hb hx I .nil h
end
/-- a class of the module, its __init__ -/
structure XOk (P : Program) (w : World) (K : PySem.W.Frag) (mg : Str → Option Value) (base : Heap) (c : Str) (fs : List Str) : Prop where
  xc : XC K (He.ga K c)
  gm : mg c = some (.ref (He.ga K c))
  ini : ∃ (f : Addr) (fd : FuncData) (ps : List Str), XIn K (He.ga K c) f fs ∧ FnOk P w K mg base (L2N.CX P w) 1 f fd ps (spI K (He.ga K c) fs) ∧ Binds K fd ps []
theorem Reps.rev {G : Gd} {H : Hp} {S : Sto} : ∀ {ts : List T} {vs : List V}, Reps G H S ts vs → Reps G H S ts.reverse vs.reverse
  | [], _, h => by cases h; exact .nil
  | t :: ts, _, h => by
    cases h with
    | cons h1 h2 =>
      rw [List.reverse_cons, List.reverse_cons]
      exact (Reps.rev h2).append (.cons h1 .nil)
theorem passX {X : Cx} : Passes (L2N.CX X.prog X.w) X fun _ _ _ => False := fun _ _ _ _ _ _ _ h => by
  obtain ⟨_, _, _, _, _, _, _, _, _, _, _, _, z⟩ := h
  exact z.elim
section
variable {X : Cx} {c : Str} {fs : List Str} {e : Expr} {es : List Expr} {ta : TTA} {p pos pos' : Pos} {j : Nat}
end
section
variable {κ β : Type} {W : κ → Sto} {p : TEnv} {l : Cs} {u : TTS} {post : β → Dest}
end
end TL
namespace TL
open PySem PySem.Spec PyProof.Rows L2
section
variable {α σ : Type}
/-- a loop that may end by a return, but doesn't -/
theorem HT.forRA {d : Nat} {f : α → σ → PM Cell (Fl σ)} (I : List α → σ → Prop) : ∀ (xs : List α) (s : σ), I xs s → (∀ x xs s, I (x :: xs) s → HT d (f x s) fun r => ∃ s', r = .nx s' ∧ I xs s') → HT (xs.length * d) (TL.forRA f xs s) fun r => ∃ s', r = .inl s' ∧ I [] s'
  | [], s, hi, _ => by
    rw [List.length_nil, Nat.zero_mul]
    exact HT.pu ⟨s, rfl, hi⟩
  | x :: xs, s, hi, h => by
    rw [List.length_cons, Nat.succ_mul]
    refine HT.bd (h x xs s hi) fun r hr => ?_
    obtain ⟨s', rfl, hs'⟩ := hr
    exact HT.forRA I xs s' hs' h
end
end TL
namespace TL
open PySem PySem.Spec PyProof.Rows L2 HotX
section
variable {prog : Program} {w : World} {A : Around} {E : Value → Shared → Prop} {s : Shared} {x1 it l : Addr} {i : Nat} {items : Array Value}
end
/-- it stands frozen from the entry on, its context is None -/
def HotX (X : Cx) : Prop := ∃ a o vs u, X.A.handled = some (.ref a) ∧ X.H_0 a = some (.frz o u) ∧ o.data = .fields vs ∧ vs[2]? = some .none
section
variable {X : Cx} {pins : List (Addr × Obj)} {σ : L2.St} {H : Hp} {s : Shared}
theorem frz_get {P : Program} {w : World} {h : Heap} {a : Addr} {o : Obj} {u : HO} (x : ObjOk P w H h a (.frz o u)) : h.get? a = some o := by
  obtain ⟨e, _⟩ := x
  exact e
theorem HotX.at (c : HotX X) (I : Inv X pins σ H s) : ∃ a o vs u, X.A.handled = some (.ref a) ∧ H a = some (.frz o u) ∧ s.heap.get? a = some o ∧ o.data = .fields vs ∧ vs[2]? = some .none := by
  obtain ⟨a, o, vs, u, h1, h2, h3, h4⟩ := c
  have q := I.base.frzs a o u h2
  exact ⟨a, o, vs, u, h1, q, frz_get (I.hok a _ q), h3, h4⟩
theorem HotX.blk (c : HotX X) (I : Inv X pins σ H s) {scope : Scope} {env : Env} {fp : List Addr} : HotX (X.blk s H scope env fp) := by
  obtain ⟨a, o, vs, u, h1, q, _, h3, h4⟩ := c.at I
  exact ⟨a, o, vs, u, h1, q, h3, h4⟩
end
end TL
namespace TL
open PySem PySem.Spec PyProof.Rows L2 HotX
/-- an iterator's turns in such a context -/
structure TurnX (P : Program) (w : World) (K : PySem.W.Frag) (tg : Expr) (J : It) (fp : List Addr) (it : Addr) (tn : Nat → Heap → Prop) : Prop where
  mem : it ∈ fp
  obj : ∀ i h, tn i h → ∀ b ∈ fp, ∃ o, h.get? b = some o ∧ ∀ v, o.data ≠ .cell v
  keep : ∀ i h h', tn i h → (∀ b ∈ fp, ∀ o, h.get? b = some o → h'.get? b = some o) → tn i h'
  self : ∀ (A : Around) (i : Nat) (s : Shared) (Q : Value → Shared → Prop) (E : Value → Shared → Prop), tn i s.heap → Q (.ref it) s → wpAny (model P w) A (pyIter (.ref it)) Q E s
  item : ∀ (X : Cx) (i : Nat) (pins : List (Addr × Obj)) (s : Shared) (σ : L2.St) (H : Hp) (E : Value → Shared → Prop), X.prog = P → X.w = w → X.K = K → HotX X → Inv X pins σ H s → (∀ b ∈ fp, FpOk X pins H b) → tn i s.heap → J.go i H →
    wpAny (model P w) X.A (pyNext (.ref it)) (fun r s1 => ∃ u, r = some u ∧ wpAny (model P w) X.A (letOwnedTupleGo tg (.ref it) u) (fun _ s2 => ∃ x H', Inv X pins σ H' s2 ∧ RelV x u ∧ J.yld i H x H' ∧ tn (i + 1) s2.heap ∧ ∀ b ∈ fp, H' b = none) E s1) E s
  done : ∀ (X : Cx) (i : Nat) (pins : List (Addr × Obj)) (s : Shared) (σ : L2.St) (H : Hp) (E : Value → Shared → Prop), X.prog = P → X.w = w → X.K = K → HotX X → Inv X pins σ H s → (∀ b ∈ fp, FpOk X pins H b) → tn i s.heap → J.stop i H →
    wpAny (model P w) X.A (pyNext (.ref it)) (fun r s1 => r = none ∧ Inv X pins σ H s1) E s
structure PIX (X : Cx) (tg iter : Expr) (wi : L2.TI) : Prop where
  run : ∀ (pins : List (Addr × Obj)) (s : Shared) (σ : L2.St) (H : Hp) (R : It → Hp → Prop), Inv X pins σ H s → wi σ H R →
    wpAny (model X.prog X.w) X.A (eval iter X.env) (fun v s1 => wpAny (model X.prog X.w) X.A (pyIter v) (fun itv s2 =>
      ∃ it fp tn J H', itv = .ref it ∧ Inv X pins σ H' s2 ∧ TurnX X.prog X.w X.K tg J fp it tn ∧ tn 0 s2.heap ∧ (∀ b ∈ fp, FpOk X pins H' b) ∧ R J H') X.xe s1) X.xe s
theorem PIX.weak {X : Cx} {tg e : Expr} {t u : L2.TI} (h : PIX X tg e t) (k : ∀ σ H R, u σ H R → t σ H R) : PIX X tg e u := ⟨fun pins s σ H R I q => h.run pins s σ H R I (k _ _ _ q)⟩
section
variable {X : Cx} {elt tg iter : Expr} {ifs : List Expr} {scope : Scope} {own : List (Str × Nat)} {wi : L2.TI} {g : L2.TG} {tt : L2.TT} {te : L2.TE}
/-- the block's parts, wherever it begins -/
structure BlkX (X : Cx) (scope : Scope) (tg : Expr) (ifs : List Expr) (elt : Expr) (g : L2.TG) (tt : L2.TT) (te : L2.TE) : Prop where
  g : ∀ (s : Shared) (H : Hp) (C : Addr) (cl : List (Str × Addr)) (fp : List Addr), HotX (X.blk s H scope (compEnvC scope cl C X.env) fp) → PG (X.blk s H scope (compEnvC scope cl C X.env) fp) tg g
  t : ∀ (s : Shared) (H : Hp) (C : Addr) (cl : List (Str × Addr)) (fp : List Addr), PTs (X.blk s H scope (compEnvC scope cl C X.env) fp) ifs tt
  e : ∀ (s : Shared) (H : Hp) (C : Addr) (cl : List (Str × Addr)) (fp : List Addr), PE (X.blk s H scope (compEnvC scope cl C X.env) fp) elt te
end
end TL
namespace TL
open PySem PySem.Spec PyProof.Rows L2 HotX
section
variable {P : Program} {w : World} {X : Cx} {pins : List (Addr × Obj)} {σ : L2.St} {H : Hp} {s : Shared} {a C : Addr} {d : Option Addr}
theorem exv_get {h : Heap} (x : Rd H a (exv a C d)) (k : HOk P w H h) : ∃ o vs, h.get? a = some o ∧ L2N.Zn (.ref C) d o ∧ o.data = .fields vs := by
  have z : ObjOk P w H h a (exv a C d) := x.elim (fun e => k a _ e) fun ⟨o, e⟩ => (show ObjOk P w H h a (.frz o (exv a C d)) from k a _ e).2
  exact (show ∃ o vs, h.get? a = some o ∧ L2N.Zn (.ref C) d o ∧ o.data = .fields vs from z.1)
theorem xd_get {h : Heap} {dd : Addr} {fs : List (Str × V)} (x : Rd H dd (.xd fs)) (k : HOk P w H h) : ∃ mA, h.Ns1 dd mA ∧ ∀ f, RelO (fs.lookup f) (mA f) := by
  have z : ObjOk P w H h dd (.xd fs) := x.elim (fun e => k dd _ e) fun ⟨o, e⟩ => (show ObjOk P w H h dd (.frz o (.xd fs)) from k dd _ e).2
  exact z
/-- its dict, if it has one -/
def DicOk (H : Hp) : Option Addr → Prop
  | none => True
  | some dd => ∃ fs, Rd H dd (.xd fs)
theorem exv_inst (I : Inv X pins σ H s) (x : Rd H a (exv a C d)) (hd : DicOk H d) : ∃ o od, PySem.W.InstAt s.heap a o C od := by
  obtain ⟨o, vs, g, ⟨z1, z2, _⟩, dt⟩ := exv_get x I.hok
  cases d with
  | none =>
    refine ⟨o, none, g, z1, by unfold PySem.W.notCls; rw [dt], ?_⟩
    rw [z2]; trivial
  | some dd =>
    obtain ⟨fs, q⟩ := hd
    obtain ⟨mA, ⟨od, _, _, g2, _⟩, _⟩ := xd_get q I.hok
    exact ⟨o, some od, g, z1, by unfold PySem.W.notCls; rw [dt], by rw [z2]; exact g2⟩
end
def rIsx (K : PySem.W.Frag) : List V → Hp → VK → Prop := fun xs H Q => ∃ a C d c cv b, xs = [.ref a, c] ∧ Rd H a (exv a C d) ∧ DicOk H d ∧ XC K C ∧ (∀ u, RelV c u → u = cv) ∧ PySem.W.kitOne K (.ref C) cv = some b ∧ (∀ tp, cv = .ref tp → True) ∧ Q (.bl b) H
theorem call_isx {X : Cx} : CallR X (.builtin "isinstance") (rIsx X.K) := by
  intro pins s σ H xs us Q I r h
  obtain ⟨a, C, d, c, cv, b, rfl, hx, hd, T, hcv, e, _, q⟩ := h
  cases r with
  | cons rx rr =>
    cases rr with
    | cons rt rr =>
      cases rr
      cases rx
      obtain rfl := hcv _ rt
      obtain ⟨o, od, J⟩ := exv_inst I hx hd
      have hcl : (PySem.W.clsIn X.K C).isSome = true := by
        have z := T.hd
        unfold PySem.W.hasDictIn at z
        cases y : PySem.W.clsIn X.K C with
        | none => rw [y] at z; exact absurd z (by decide)
        | some _ => rfl
      exact PySem.W.kia_one (PySem.W.kitx_exc (od := od) hcl T.ga T.gg T.oex.exC T.ca T.cn T.ct T.mo) I.kIn J e (fun z => nomatch z) fun tk => ⟨.bl b, H, I.kept (t' := tk) fun _ _ z => z, rfl, q⟩
def isxT (tbl : Str → Option Bool) (_ : Sto) : T → Option T
  | .exc c _ _ => (tbl c).map .bl
  | _ => none
/-- e.f: the classes that have it -/
def xatT (f : Str) (ok : Str → Bool) (_ : Sto) : T → Option T
  | .exc c ns ts => if ok c = true then (ns.zip ts).lookup f else none
  | _ => none
section
variable {G : Gd} {H : Hp} {S : Sto} {a : Addr} {c : Str} {ns : List Str} {ts : List T}
theorem exc_rd {v : V} (r : Rep G H S (.exc c ns ts) v) : ∃ a d, v = .ref a ∧ Rd H a (exv a (He.ga G.K c) d) ∧ DicOk H d ∧ (ts ≠ [] → ∃ dd xs, d = some dd ∧ Rd H dd (.xd (ns.zip xs)) ∧ Reps G H S ts xs ∧ ns.length = xs.length) := by
  cases r with
  | exc0 h => exact ⟨_, none, rfl, h.1, trivial, fun z => absurd rfl z⟩
  | exc1 h1 h2 h3 h4 => exact ⟨_, some _, rfl, h1.1, ⟨_, h2.1⟩, fun _ => ⟨_, _, rfl, h2.1, h4, h3⟩⟩
theorem lookup_reps {f : Str} {t : T} : ∀ {ns : List Str} {ts : List T} {xs : List V}, Reps G H S ts xs → (ns.zip ts).lookup f = some t → ∃ v, (ns.zip xs).lookup f = some v ∧ Rep G H S t v
  | [], _, _, _, e => by cases e
  | n :: ns, [], _, _, e => by cases e
  | n :: ns, t' :: ts, _, r, e => by
    cases r with
    | @cons _ _ v vs r1 r2 =>
      rw [List.zip_cons_cons, List.lookup_cons] at e
      rw [List.zip_cons_cons]
      by_cases q : f = n
      · subst q
        simp only [beq_self_eq_true] at e
        cases e
        exact ⟨v, by simp [List.lookup], r1⟩
      · have q' : (f == n) = false := by simpa using q
        rw [q'] at e
        obtain ⟨w, h1, h2⟩ := lookup_reps r2 e
        exact ⟨w, by rw [List.lookup_cons, q']; exact h1, h2⟩
end
section
variable {X : Cx} {a e : Expr} {ta : TTE} {p p2 pos : Pos} {D f : Str} {tbl : Str → Option Bool} {ok : Str → Bool}
/-- isinstance(e, D), D a class of the module -/
theorem te_isx (ht : ∀ c b, tbl c = some b → XC X.K (He.ga X.K c) ∧ PySem.W.kitOne X.K (.ref (He.ga X.K c)) (.ref (He.ga X.K D)) = some b) (ha : TE X a ta) (hg : Gl X "isinstance") (hm : X.mg "isinstance" = none) (hg2 : Gl X D) (hm2 : X.mg D = some (.ref (He.ga X.K D)))
    (hdb : (D == ("__debug__" : Str)) = false := by decide) (he : starEach [a, .Name D p2] X.env = (false, eval a X.env) :: starEach [.Name D p2] X.env := by rfl) (he2 : starEach [.Name D p2] X.env = (false, eval (.Name D p2) X.env) :: starEach [] X.env := by rfl) (hpl : (backTo pos (starEach [.Name D p2] X.env)).any (·.1) = false := by rfl) :
    TE X (.Call (.Name "isinstance" p) [a, .Name D p2] [] pos) (cUn (isxT tbl) ta) := fun M S0 H0 E tk =>
  (pe_callB call_isx hg hm boot_isinstance (pa_cons (ha M S0 H0 E tk) (pa_cons (pe_glob hg2 hm2 (show RelV (.ref (He.ga X.K D)) (.ref (He.ga X.K D)) from rfl) hdb) pa_nil he2) he) (by decide) (by decide) he hpl).weak fun σ H Q ⟨τ, S, Qt, rel, h, fin⟩ =>
    ⟨τ, S, _, rel, h, fun z S1 v H1 ⟨w, e, hq⟩ o1 x1 r1 => by
      cases z with
      | exc c ns ts =>
        obtain ⟨b, hb, rfl⟩ := Option.map_eq_some_iff.mp (show (tbl c).map T.bl = some w from e)
        obtain ⟨a, d, rfl, h1, h2, _⟩ := exc_rd r1
        obtain ⟨q1, q2⟩ := ht c b hb
        exact ⟨a, _, d, .ref (He.ga X.K D), .ref (He.ga X.K D), b, rfl, h1, h2, q1, fun u r => r, q2, fun _ _ => trivial, fin _ S1 (.bl b) H1 hq o1 x1 (.bl b)⟩
      | _ => cases e⟩
/-- isinstance(e, ValueError) -/
theorem te_isv (ht : ∀ c b, tbl c = some b → XC X.K (He.ga X.K c) ∧ PySem.W.kitOne X.K (.ref (He.ga X.K c)) (.type "ValueError") = some b) (ha : TE X a ta) (hg : Gl X "isinstance") (hm : X.mg "isinstance" = none) (hg2 : Gl X "ValueError") (hm2 : X.mg "ValueError" = none)
    (he : starEach [a, .Name "ValueError" p2] X.env = (false, eval a X.env) :: starEach [.Name "ValueError" p2] X.env := by rfl) (he2 : starEach [.Name "ValueError" p2] X.env = (false, eval (.Name "ValueError" p2) X.env) :: starEach [] X.env := by rfl) (hpl : (backTo pos (starEach [.Name "ValueError" p2] X.env)).any (·.1) = false := by rfl) :
    TE X (.Call (.Name "isinstance" p) [a, .Name "ValueError" p2] [] pos) (cUn (isxT tbl) ta) := fun M S0 H0 E tk =>
  (pe_callB call_isx hg hm boot_isinstance (pa_cons (ha M S0 H0 E tk) (pa_cons (pe_bltn hg2 hm2 PyProof.Rows.Boot.«ValueError» (show RelV (.ty "ValueError") (.type "ValueError") from rfl) (by decide) (by decide)) pa_nil he2) he) (by decide) (by decide) he hpl).weak fun σ H Q ⟨τ, S, Qt, rel, h, fin⟩ =>
    ⟨τ, S, _, rel, h, fun z S1 v H1 ⟨w, e, hq⟩ o1 x1 r1 => by
      cases z with
      | exc c ns ts =>
        obtain ⟨b, hb, rfl⟩ := Option.map_eq_some_iff.mp (show (tbl c).map T.bl = some w from e)
        obtain ⟨a, d, rfl, h1, h2, _⟩ := exc_rd r1
        obtain ⟨q1, q2⟩ := ht c b hb
        exact ⟨a, _, d, .ty "ValueError", .type "ValueError", b, rfl, h1, h2, q1, fun u r => r, q2, fun _ _ => trivial, fin _ S1 (.bl b) H1 hq o1 x1 (.bl b)⟩
      | _ => cases e⟩
/-- e.f -/
def tXat (K : PySem.W.Frag) (f : Str) (te : L2.TE) : L2.TE := fun σ H Q => te σ H fun x H1 => ∃ a C dd fs v, x = .ref a ∧ Rd H1 a (exv a C (some dd)) ∧ Rd H1 dd (.xd fs) ∧ XC K C ∧ PySem.W.findIn K (.ref C) f = some none ∧ fs.lookup f = some v ∧ Q v H1
theorem pe_xat {te : L2.TE} (he : PE X e te) (hb : attributeBase e f X.env (eval e X.env) = eval e X.env := by rfl) : PE X (.Attribute e f pos) (tXat X.K f te) := by
  refine ⟨fun pins s σ H Q I h => attr_of hb (thn (he.run pins s σ H _ I h) fun u s1 ⟨x, H1, I1, rx, a, C, dd, fs, v, ex, hx, hd, T, no, l, q⟩ => ?_)⟩
  subst ex
  obtain rfl : u = Value.ref a := rx
  obtain ⟨o, vs, g, ⟨z1, z2, _⟩, dt⟩ := exv_get hx I1.hok
  obtain ⟨mA, ns1, rel⟩ := xd_get hd I1.hok
  obtain ⟨od, ho, hl⟩ := lookIn_ns ns1
  obtain ⟨u, hu, ru⟩ := RelO.some_of (v := v) (o := mA f) (by rw [← l]; exact rel f)
  have J : PySem.W.InstAt s1.heap a o C (some od) := ⟨g, z1, by unfold PySem.W.notCls; rw [dt], by rw [z2]; exact ho⟩
  exact HandSPX.exc_get I1.kIn J T.ga T.gg T.oex.exC (PySem.W.findObj_own T.hd no rfl (by rw [hl, hu])) (handed_of ru) ⟨v, H1, I1.tok _, ru, q⟩
theorem te_xat (hk : ∀ c, ok c = true → XC X.K (He.ga X.K c) ∧ PySem.W.findIn X.K (.ref (He.ga X.K c)) f = some none) (ha : TE X e ta) (hb : attributeBase e f X.env (eval e X.env) = eval e X.env := by rfl) : TE X (.Attribute e f pos) (cUn (xatT f ok) ta) := fun M S0 H0 E tk =>
  (pe_xat (ha M S0 H0 E tk) hb).weak fun σ H Q ⟨τ, S, Qt, rel, h, fin⟩ => ⟨τ, S, _, rel, h, fun z S1 v H1 ⟨w, e, hq⟩ o1 x1 r1 => by
    cases z with
    | exc c ns ts =>
      have e : (if ok c = true then (ns.zip ts).lookup f else none) = some w := e
      by_cases hc : ok c = true
      · rw [if_pos hc] at e
        obtain ⟨a, d, rfl, h1, h2, h3⟩ := exc_rd r1
        have nz : ts ≠ [] := fun z => by subst z; rw [List.zip_nil_right] at e; cases e
        obtain ⟨dd, xs, rfl, q1, q2, _⟩ := h3 nz
        obtain ⟨v, l, rv⟩ := lookup_reps q2 e
        obtain ⟨k1, k2⟩ := hk c hc
        exact ⟨a, _, dd, _, v, rfl, h1, q1, k1, k2, l, fin _ S1 v H1 hq o1 x1 rv⟩
      · rw [if_neg hc] at e; cases e
    | _ => cases e⟩
end
end TL
namespace TL
open PySem PySem.Spec PyProof.Rows L2 HotX
structure Hd where
  c : Value
  i : Option Nat
  ts : Addr → L2.TS
def hdSet : Option Nat → Option V → L2.St → L2.St
  | none, _, σ => σ
  | some i, v, σ => σ.set i v
/-- the context of a suite -/
abbrev sui (X : Cx) (a : Addr) (pins : List (Addr × Obj)) : Cx := X.suite a (X.pn ++ pins)
inductive HdsX (X : Cx) : List ExceptHandler → List Hd → Prop
  | nil : HdsX X [] []
  | plain {x : Str} {c : Value} {ts : Addr → L2.TS} {b₀ : Stmt} {suite : List Stmt} {np pos' : Pos} {hds : List ExceptHandler} {l : List Hd} (hc : Names X x c) (hsu : ∀ a pins, PSs (sui X a pins) (b₀ :: suite) (ts a)) (r : HdsX X hds l) :
      HdsX X (.ExceptHandler (some (.Name x np)) none (b₀ :: suite) pos' :: hds) (⟨c, none, ts⟩ :: l)
  | named {x n : Str} {c : Value} {i : Nat} {ts : Addr → L2.TS} {b₀ : Stmt} {suite : List Stmt} {np pos' : Pos} {hds : List ExceptHandler} {l : List Hd} (hc : Names X x c) (hN : X.N.Nodup) (hi : X.N[i]? = some n) (hln : X.env.kindOf n = some .local) (hsu : ∀ a pins, PSs (sui X a pins) (b₀ :: suite) (ts a)) (r : HdsX X hds l) :
      HdsX X (.ExceptHandler (some (.Name x np)) (some n) (b₀ :: suite) pos' :: hds) (⟨c, some i, ts⟩ :: l)
section
variable {X : Cx} {pins : List (Addr × Obj)} {σ : L2.St} {H : Hp} {s sI : Shared} {a C : Addr} {d : Option Addr}
end
section
variable {X : Cx} {body : List Stmt} {h₀ : ExceptHandler} {hds : List ExceptHandler} {l : List Hd} {pos : Pos} {tb : WX → L2.TS} {Wout : WX}
end
end TL
namespace TL
open PySem PySem.Spec PyProof.Rows L2 HotX
abbrev RoomH := L2H.RoomH
def HotA (A : Around) (H : Hp) : Prop := ∃ a o vs u, A.handled = some (.ref a) ∧ H a = some (.frz o u) ∧ o.data = .fields vs ∧ vs[2]? = some .none
abbrev CX0 : CXT := fun _ _ _ _ _ _ => False
structure FnX (P : Program) (w : World) (K : PySem.W.Frag) (mg : Str → Option Value) (base : Heap) (k : Nat) (f : Addr) (fd : FuncData) (ps : List Str) (sp : Sp) : Prop where
  len : ∀ vs H Q E, sp vs H Q E → vs.length = ps.length
  run : ∀ (A : Around) (outer : List Env) (s : Shared) (H : Hp) (args : Args) (us : List Value) (vs : List V) (Q : VK) (E : XK), RoomH k A → HotA A H → Env0 P w K mg base A outer s H → BindsTo s fd args (ps.zip us) → Vals vs us → sp vs H Q E →
    codeAny (model P w) A (.call (.ref f) args) (CR CX0 outer P w H s Q E) s
section
variable {P : Program} {w : World} {K : PySem.W.Frag} {mg : Str → Option Value} {base : Heap} {x qual : Str} {params : Arguments} {body : List Stmt} {scope : Scope} {f : Addr} {fd : FuncData} {N ps : List Str} {k : Nat} {c : TTS}
end
def HotS (A : Around) (S : Sto) (H : Hp) : Prop := ∃ a o vs u, A.handled = some (.ref a) ∧ H a = some (.frz o u) ∧ S a = none ∧ o.data = .fields vs ∧ vs[2]? = some .none
theorem HotS.ext {A : Around} {S S' : Sto} {H H' : Hp} (h : HotS A S H) (x : Ext S H S' H') : HotS A S' H' := by
  obtain ⟨a, o, vs, u, h1, h2, h3, h4, h5⟩ := h
  obtain ⟨q1, q2⟩ := (x a (.frz o u) h3).1 h2 rfl
  exact ⟨a, o, vs, u, h1, q1, q2, h4, h5⟩
theorem HotS.a {A : Around} {S : Sto} {H : Hp} (h : HotS A S H) : HotA A H := by
  obtain ⟨a, o, vs, u, h1, h2, h3, h4, h5⟩ := h
  exact ⟨a, o, vs, u, h1, h2, h4, h5⟩
def TEH (X : Cx) (e : Expr) (t : TTE) : Prop := ∀ M S0 H0 E, HotS X.A S0 H0 → Takes X (wOf X M S0 H0 E) → PE X e (LE X M S0 H0 t E)
def TSH (X : Cx) (s : Stmt) (t : TTS) : Prop := ∀ M S0 H0 E, HotS X.A S0 H0 → Takes X (wOf X M S0 H0 E) → PS X s (LS X M S0 H0 t E)
def TSsH (X : Cx) (s : List Stmt) (t : TTS) : Prop := ∀ M S0 H0 E, HotS X.A S0 H0 → Takes X (wOf X M S0 H0 E) → PSs X s (LS X M S0 H0 t E)
section
variable {X : Cx} {k j : Nat} {f : Addr} {fd : FuncData} {ps : List Str} {x : Str} {p pos : Pos} {e : Expr} {es : List Expr}
theorem TE.h {t : TTE} (h : TE X e t) : TEH X e t := fun M S0 H0 E _ tk => h M S0 H0 E tk
theorem TS.h {st : Stmt} {t : TTS} (h : TS X st t) : TSH X st t := fun M S0 H0 E _ tk => h M S0 H0 E tk
end
section
variable {X : Cx} {tg e a b elt iter : Expr} {ifs : List Expr} {ta tb te : TTE} {p pos tpos spos py : Pos} {elts : List Expr} {kk : Nat} {ti : TTI} {g : TTG} {tc : TTB} {scope : Scope} {ow : List (Str × Nat)}
end
end TL
namespace TL
open PySem PySem.Spec PyProof.Rows L2 HotX
/-- a clause: its class, the slot of its name, its suite -/
structure Hc where
  c : Str
  i : Option Nat
  ts : TTS
def hSet : Option Nat → Option T → TEnv → TEnv
  | none, _, τ => τ
  | some i, v, τ => τ.set i v
inductive HcX (X : Cx) : List ExceptHandler → List Hc → Prop
  | nil : HcX X [] []
  | plain {x : Str} {ts : TTS} {b₀ : Stmt} {suite : List Stmt} {np pos' : Pos} {hds : List ExceptHandler} {l : List Hc} (hc : Names X x (.ref (He.ga X.K x))) (hsu : ∀ a pins, TSsH (sui X a pins) (b₀ :: suite) ts) (r : HcX X hds l) :
      HcX X (.ExceptHandler (some (.Name x np)) none (b₀ :: suite) pos' :: hds) (⟨x, none, ts⟩ :: l)
  | named {x n : Str} {i : Nat} {ts : TTS} {b₀ : Stmt} {suite : List Stmt} {np pos' : Pos} {hds : List ExceptHandler} {l : List Hc} (hc : Names X x (.ref (He.ga X.K x))) (hN : X.N.Nodup) (hi : X.N[i]? = some n) (hln : X.env.kindOf n = some .local) (hsu : ∀ a pins, TSsH (sui X a pins) (b₀ :: suite) ts) (r : HcX X hds l) :
      HcX X (.ExceptHandler (some (.Name x np)) (some n) (b₀ :: suite) pos' :: hds) (⟨x, some i, ts⟩ :: l)
section
variable {X : Cx}
theorem EnvR.off {G : Gd} {H : Hp} {S : Sto} {σ : L2.St} {τ : TEnv} (h : EnvR G H S σ τ) (i : Option Nat) : EnvR G H S (hdSet i none σ) (hSet i none τ) := by
  cases i with
  | none => exact h
  | some i => exact h.wipe [i]
theorem Rel.off {G : Gd} {S0 S : Sto} {H0 H : Hp} {σ : L2.St} {τ : TEnv} (r : Rel G S0 H0 σ H τ S) (i : Option Nat) : Rel G S0 H0 (hdSet i none σ) H (hSet i none τ) S := ⟨r.env.off i, r.sto, r.ext⟩
end
section
variable {κ α β σ : Type} {W : κ → Sto} {p : TEnv} {post : β → Dest}
/-- the slot of the clause's name is not told -/
def OffP (i : Option Nat) : Dest → Prop
  | .nx p _ => ∀ j, i = some j → p[j]? = some none
  | .bk p _ => ∀ j, i = some j → p[j]? = some none
  | .ct p _ => ∀ j, i = some j → p[j]? = some none
  | .rt _ => True
  | .fin => True
theorem En.off {p τ : TEnv} {i : Option Nat} (h : En p τ) (hi : ∀ j, i = some j → p[j]? = some none) : En p (hSet i none τ) := by
  cases i with
  | none => exact h
  | some j =>
    have e : p.set j none = p := by
      apply List.ext_getElem?
      intro n
      by_cases hn : j = n
      · subst hn
        rw [List.getElem?_set_self', hi j rfl]
        rfl
      · rw [List.getElem?_set_ne hn]
    have z := h.set (i := j) (x := none)
    rw [e] at z
    exact z
inductive XHs (W : κ → Sto) (p : TEnv) (post : β → Dest) : List Hc → List (Str × (T → PM κ β)) → Prop
  | nil : XHs W p post [] []
  | cons {c : Str} {i : Option Nat} {ts : TTS} {g : T → PM κ β} {l : List Hc} {lm : List (Str × (T → PM κ β))} (h : ∀ x, XS W (hSet i (some x) p) [] ts (g x) post) (o : ∀ b, OffP i (post b)) (r : XHs W p post l lm) : XHs W p post (⟨c, i, ts⟩ :: l) ((c, g) :: lm)
theorem unv_isxT {tbl : Str → Option Bool} : UnV (isxT tbl) := fun S z v r h e => by
  rcases h with rfl | ⟨a, xs, rfl, h, rfl⟩ | ⟨a, n, ks, vs, rfl, h, rfl⟩
  · cases z <;> first | exact e | cases e
  · cases e
  · cases e
theorem unv_xatT {f : Str} {ok : Str → Bool} : UnV (xatT f ok) := fun S z v r h e => by
  rcases h with rfl | ⟨a, xs, rfl, h, rfl⟩ | ⟨a, n, ks, vs, rfl, h, rfl⟩
  · cases z <;> first | exact e | cases e
  · cases e
  · cases e
end
section
variable {X : Cx} {j i : Nat} {x : Str} {p pos : Pos} {e : Expr} {es : List Expr} {ta : TTA}
end
section
variable {κ : Type} {W : κ → Sto} {p : TEnv} {l : Cs}
def fnOf (t : Str → Option (List T → PM Unit T)) : T → Option (List T → PM Unit T)
  | .fn x => t x
  | _ => none
end
inductive Alls {α : Type} (P : α → Prop) : List α → Prop
  | nil : Alls P []
  | cons {a : α} {l : List α} (h : P a) (r : Alls P l) : Alls P (a :: l)
theorem Alls.mem {α : Type} {P : α → Prop} {l : List α} (h : Alls P l) : ∀ {a : α}, a ∈ l → P a := by
  induction h with
  | nil => intro a m; cases m
  | cons h r ih =>
    intro a m
    rcases List.mem_cons.mp m with e | m
    · exact e ▸ h
    · exact ih m
theorem lookup_mem2 {α β : Type} [BEq α] [LawfulBEq α] {l : List (α × β)} {a : α} {b : β} (h : l.lookup a = some b) : (a, b) ∈ l := by
  induction l with
  | nil => cases h
  | cons e l ih =>
    obtain ⟨x, y⟩ := e
    rw [List.lookup_cons] at h
    cases q : a == x with
    | true =>
      rw [q] at h
      cases h
      rw [eq_of_beq q]
      exact .head _
    | false =>
      rw [q] at h
      exact .tail _ (ih h)
def tabB (l : List (Str × Bool)) : Str → Option Bool := fun c => l.lookup c
def okL (l : List Str) : Str → Bool := fun c => l.contains c
theorem isx_ok {K : PySem.W.Frag} {v : Value} {l : List (Str × Bool)} (h : Alls (fun e => XC K (He.ga K e.1) ∧ PySem.W.kitOne K (.ref (He.ga K e.1)) v = some e.2) l) :
    ∀ c b, tabB l c = some b → XC K (He.ga K c) ∧ PySem.W.kitOne K (.ref (He.ga K c)) v = some b := fun c b q => h.mem (lookup_mem2 q)
theorem xat_ok {K : PySem.W.Frag} {f : Str} {l : List Str} (h : Alls (fun c => XC K (He.ga K c) ∧ PySem.W.findIn K (.ref (He.ga K c)) f = some none) l) :
    ∀ c, okL l c = true → XC K (He.ga K c) ∧ PySem.W.findIn K (.ref (He.ga K c)) f = some none := fun c q => h.mem (List.contains_iff_mem.mp q)
end TL
namespace TL
open PySem PySem.Spec PyProof.Rows L2 HotX
def cAddM (a b : TTE) : TTE := fun τ S Q E => a τ S (fun x S1 => b τ S1 (fun y S2 => ∃ ts us, res S2 x = .lst ts ∧ res S2 y = .lst us ∧ ts.length + us.length ≤ sizeLine ∧ ∀ p, S2 p = none → Q (.ref p) (ups S2 p (.lst (ts ++ us)))) E) E
theorem te_addM {X : Cx} {a b : Expr} {ta tb : TTE} {pos : Pos} (ha : TE X a ta) (hb : TE X b tb) : TE X (.BinOp a .Add b pos) (cAddM ta tb) := fun M S0 H0 E tk =>
  (pe_op op_cat (ha M S0 H0 E tk) (hb M S0 H0 E tk)).weak fun σ H Q ⟨τ, S, Qt, rel, h, k⟩ =>
    ⟨τ, S, _, rel, h, fun zx S1 x H1 hb o1 x1 r1 => ⟨τ, S1, _, rel.step o1 x1, hb, fun zy S2 y H2 hz o2 x2 r2 => by
      obtain ⟨ts, us, e1, e2, hl, hq⟩ := hz
      obtain ⟨p1, xs, rfl, q1, s1⟩ := res_lst o2 (Rep.ext x2 _ _ r1) e1
      obtain ⟨p2, ys, rfl, q2, s2⟩ := res_lst o2 r2 e2
      refine ⟨p1, p2, xs, ys, rfl, rfl, q1, q2, by rw [← s1.length, ← s2.length]; exact hl, fun q n => ?_⟩
      have x3 : Ext S2 H2 (ups S2 q (.lst (ts ++ us))) (upd H2 q (.lst (xs ++ ys))) := Ext.cell (.inl n)
      exact k (.ref q) _ (.ref q) _ (hq q (o2.free n)) (o2.cell (.inl n) ⟨_, upd_same, Reps.ext x3 _ _ (s1.append s2)⟩) ((x1.trans x2).trans x3) (.ref q)⟩⟩
section
variable {κ : Type} {W : κ → Sto} {p : TEnv} {l : Cs} {a b : TTE} {ma mb : PM κ T}
def catM (x y : T) : PM κ (List T) := match x, y with
  | .lst ts, .lst us => bd (gd (ts.length + us.length ≤ sizeLine)) fun _ => pu (ts ++ us)
  | _, _ => stuck
theorem res_seen {S : Sto} {z : T} {ts : List T} (h : VwS S z (.lst ts)) : res S z = .lst ts := by
  rcases h.res with ⟨e1, _⟩ | ⟨b, e1⟩ | ⟨n, ks, vs, e1⟩
  · exact e1
  · cases e1
  · cases e1
theorem xn_addM (ha : XV W p l a ma) (hb : XV W p l b mb) : XN W p l (cAddM a b) (bd ma fun x => bd mb fun y => catM x y) (fun _ a => .ref a) (fun xs a => [(a, .lst xs)]) := fun Q E k τ S hE i s => by
  refine ha _ _ k τ S hE i ((Sat.bd.mp s).mono (fun v k1 s1 z S1 i1 w1 => ?_) fun _ _ q => q)
  refine hb _ _ k1 τ S1 hE i1 ((Sat.bd.mp s1).mono (fun v2 k2 s2 z2 S2 i2 w2 => ?_) fun _ _ q => q)
  cases v with
  | lst ts =>
    cases v2 with
    | lst us =>
      obtain ⟨hl, s3⟩ := sat_gd (Sat.bd.mp s2)
      exact ⟨ts, us, res_seen (w1.at i2), res_seen (w2.at i2), hl, fun a n => s3 _ a (i2.new n)⟩
    | _ => exact s2.elim
  | _ => exact s2.elim
end
end TL
namespace TL
open PySem PySem.Spec PyProof.Rows L2 HotX
section
variable {K : PySem.W.Frag} {mg : Str → Option Value} {x : Str}
end
end TL
namespace TL
open PySem PySem.Spec PyProof.Rows L2
structure SaysY (fa : List He.Fa) (fn : List He.DefD) (ex : PySem.W.Frag → Bool) (w : World) (K : PySem.W.Frag) : Prop where
  t : He.SaysT fa fn [] w K
  more : ex K = true
end TL
namespace TL
open PySem PySem.Spec PyProof.Rows L2
def isbT (_ : Sto) (x y : T) : Option T := match x, y with
  | .bl a, .bl b => some (.bl (a == b))
  | _, _ => none
def isnbT (_ : Sto) (x y : T) : Option T := match x, y with
  | .bl a, .bl b => some (.bl (!(a == b)))
  | _, _ => none
section
variable {X : Cx}
end
theorem isbT_bl {a b : Bool} : isbT emp (.bl a) (.bl b) = some (.bl (a == b)) := rfl
theorem isnbT_bl {a b : Bool} : isnbT emp (.bl a) (.bl b) = some (.bl (!(a == b))) := rfl
end TL
namespace TL
open PySem PySem.Spec PyProof.Rows L2
section
variable {prog : Program} {w : World} {A : Around} {E : Value → Shared → Prop} {s : Shared}
end
section
variable {X : Cx} {e ks : Expr} {te tk : L2.TE} {p3 pos : Pos}
end
end TL
namespace TL
open PySem PySem.Spec PyProof.Rows L2
/-- a written dict of the module: from texts to ints -/
structure TabOk (K : PySem.W.Frag) (w : World) (mg : Str → Option Value) (x : Str) (l : List (Str × Int)) : Prop where
  gm : mg x = some (.ref (He.ga K x))
  kd : ∃ es n, KDict K w (He.ga K x) es n
  vs : ∀ p ∈ l, ∃ u, PySem.W.nsIn K (He.ga K x) p.1 = some (some u) ∧ RelV (.int p.2) u
end TL
namespace TL
open PySem PySem.Spec PyProof.Rows L2
end TL
namespace TL
open PySem PySem.Spec PyProof.Rows L2
section
variable {X : Cx}
end
end TL
namespace TL
open PySem PySem.Spec PyProof.Rows L2
mutual
theorem Dt.plain : ∀ {n : Nat} (t : T), Dt n t → TL.plain t = true
  | _, _, .str _ _ => rfl
  | _, _, .int _ _ => rfl
  | _, _, .bl _ _ => rfl
  | _, .tup xs, .tup h _ => Dt.plains xs h
  | _, .lst xs, .lst h _ => Dt.plains xs h
theorem Dt.plains : ∀ {n : Nat} (ts : List T), (∀ x ∈ ts, Dt n x) → TL.plains ts = true
  | _, [], _ => rfl
  | _, t :: ts, h => by
    show (TL.plain t && TL.plains ts) = true
    rw [Dt.plain t (h t (.head _)), Dt.plains ts fun x hx => h x (.tail _ hx)]
    rfl
end
mutual
theorem Dt.dep : ∀ {n : Nat} (t : T), Dt n t → TL.dep t ≤ n
  | _, _, .str _ _ => Nat.zero_le _
  | _, _, .int _ _ => Nat.zero_le _
  | _, _, .bl _ _ => Nat.zero_le _
  | _, .tup xs, .tup h _ => Nat.succ_le_succ (Dt.deps xs h)
  | _, .lst xs, .lst h _ => Nat.succ_le_succ (Dt.deps xs h)
theorem Dt.deps : ∀ {n : Nat} (ts : List T), (∀ x ∈ ts, Dt n x) → TL.deps ts ≤ n
  | _, [], _ => Nat.zero_le _
  | _, t :: ts, h => Nat.max_le.mpr ⟨Dt.dep t (h t (.head _)), Dt.deps ts fun x hx => h x (.tail _ hx)⟩
end
theorem Dt.okd {n : Nat} {t : T} (h : Dt n t) (hn : n ≤ 64) : TL.okd t = true := by
  unfold TL.okd
  rw [Dt.plain t h, decide_eq_true (Nat.le_trans (Dt.dep t h) hn)]
  rfl
theorem nl_res {t : T} (h : plain t = true) : res emp t = t := by
  cases t <;> first | rfl | cases h
theorem Dt.eqT {n m : Nat} {x y : T} (h : Dt n x) (hn : n ≤ 64) (k : Dt m y) (hm : m ≤ 64) : TL.eqT emp x y = some (.bl (eqt x y)) := by
  unfold TL.eqT
  rw [nl_res (Dt.plain x h), nl_res (Dt.plain y k), h.okd hn, k.okd hm]
  rfl
theorem Dt.neT {n m : Nat} {x y : T} (h : Dt n x) (hn : n ≤ 64) (k : Dt m y) (hm : m ≤ 64) : TL.neT emp x y = some (.bl (!eqt x y)) := by
  unfold TL.neT
  rw [nl_res (Dt.plain x h), nl_res (Dt.plain y k), h.okd hn, k.okd hm]
  rfl
end TL
namespace TL
open PySem PySem.Spec PyProof.Rows L2
section
variable {X : Cx}
end
/-- what a def promises where nothing guards -/
structure FnG (P : Program) (w : World) (K : PySem.W.Frag) (mg : Str → Option Value) (base : Heap) (k : Nat) (f : Addr) (fd : FuncData) (ps : List Str) (sp : Sp) : Prop where
  run : ∀ (A : Around) (outer : List Env) (s : Shared) (H : Hp) (args : Args) (us : List Value) (vs : List V) (Q : VK) (E : XK), A.guards = some [] → Room k A → Env0 P w K mg base A outer s H → BindsTo s fd args (ps.zip us) → Vals vs us → sp vs H Q E →
    codeAny (model P w) A (.call (.ref f) args) (CR (L2N.CX P w) outer P w H s Q E) s
section
variable {P : Program} {w : World} {K : PySem.W.Frag} {mg : Str → Option Value} {base : Heap} {x qual : Str} {params : Arguments} {body : List Stmt} {scope : Scope} {f : Addr} {fd : FuncData} {N ps : List Str} {k : Nat} {c : TTS} {sp : SpT}
end
end TL
namespace TL
open PySem PySem.Spec PyProof.Rows L2
end TL
namespace TL
open PySem PySem.Spec PyProof.Rows L2
local macro_rules | `(tactic| simp_arith [$ts,*] $[$loc]?) => `(tactic| simp (implicitDefEqProofs := false) only [pu_bd, bd_bd, bd_pu, ofO_some, ofO_none, ofO_ite, stuck_bd, thr_bd, lft_pu, lft_bd, lft_gdc, lft_ite, lft_stuck, tb_bl, intO_int, itemsM_tup, itemsM_lst, itemsM_str, gd_c, gdc_T, compG_map, compA_pu, compA_gd, compA_if, compA_gdif, forM_map, forR_map, un2_tup, un3_tup, un4_tup, sum_inl, sum_inr, isStr_str, isTup_tup, joinF_l, joinF_t, strsOf_nil, strsOf_cons, strsOf_map, Option.bind_some, Option.bind_none, addT_int, addT_str, addT_lst, addT_tup, subT_int, mulT2_int, mulT2_str, fdivT_int, modT_int, powT_int, negT_int, eqT_int, neT_int, eqT_str, neT_str, eqT_bl, neT_bl, ltT_int, gtT_int, leT_int, geT_int, ixT_lst, ixT_tup, atI_0, atI_1, atI_2, atI_3, lenF_lst, lenF_tup, lenF_str, absF_int, intF_int, intF_bl, max2F_int, min2F_int, strF_int, isi_str, isi_int, isi_tup, isi_lst, slT_lst, slT_tup, slT_str, tupleF_lst, tupleF_tup, listF_lst, listF_tup, inT_strs, ninT_strs, inT_strsT, ninT_strsT, ite_pu, decide_eq_true_eq, Bool.not_eq_true', if_true, if_false, Bool.false_eq_true, Bool.true_eq_false, Option.map_some, Option.map_none, isbT_bl, isnbT_bl, $ts,*] $[$loc]?)
local macro_rules | `(tactic| simp_arith! [$ts,*] $[$loc]?) => `(tactic| simp (implicitDefEqProofs := false) only [pu_bd, bd_bd, bd_pu, ofO_some, ofO_none, ofO_ite, stuck_bd, thr_bd, lft_pu, lft_bd, lft_gdc, lft_ite, lft_stuck, tb_bl, intO_int, itemsM_tup, itemsM_lst, itemsM_str, gd_c, gdc_T, compG_map, compA_pu, compA_gd, compA_if, compA_gdif, forM_map, forR_map, un2_tup, un3_tup, un4_tup, sum_inl, sum_inr, isStr_str, isTup_tup, joinF_l, joinF_t, strsOf_nil, strsOf_cons, strsOf_map, Option.bind_some, Option.bind_none, addT_int, addT_str, addT_lst, addT_tup, subT_int, mulT2_int, mulT2_str, fdivT_int, modT_int, powT_int, negT_int, eqT_int, neT_int, eqT_str, neT_str, eqT_bl, neT_bl, ltT_int, gtT_int, leT_int, geT_int, ixT_lst, ixT_tup, atI_0, atI_1, atI_2, atI_3, lenF_lst, lenF_tup, lenF_str, absF_int, intF_int, intF_bl, max2F_int, min2F_int, strF_int, isi_str, isi_int, isi_tup, isi_lst, slT_lst, slT_tup, slT_str, tupleF_lst, tupleF_tup, listF_lst, listF_tup, inT_strs, ninT_strs, inT_strsT, ninT_strsT, ite_pu, decide_eq_true_eq, Bool.not_eq_true', if_true, if_false, Bool.false_eq_true, Bool.true_eq_false, Option.map_some, Option.map_none, isbT_bl, isnbT_bl, kis_non_non, kis_non_bool, kis_non_int, kis_non_str, kis_non_tup, kis_non_lst, kis_non_dct, kis_bool_non, kis_bool_bool, kis_bool_int, kis_bool_str, kis_bool_tup, kis_bool_lst, kis_bool_dct, kis_int_non, kis_int_bool, kis_int_int, kis_int_str, kis_int_tup, kis_int_lst, kis_int_dct, kis_str_non, kis_str_bool, kis_str_int, kis_str_str, kis_str_tup, kis_str_lst, kis_str_dct, kis_tup_non, kis_tup_bool, kis_tup_int, kis_tup_str, kis_tup_tup, kis_tup_lst, kis_tup_dct, kis_lst_non, kis_lst_bool, kis_lst_int, kis_lst_str, kis_lst_tup, kis_lst_lst, kis_lst_dct, kis_dct_non, kis_dct_bool, kis_dct_int, kis_dct_str, kis_dct_tup, kis_dct_lst, kis_dct_dct, isi_bl, isi_non, List.any_cons, List.any_nil, Bool.or_false, Bool.or_true, Bool.false_or, Bool.true_or, Bool.not_true, Bool.not_false, beq_self_eq_true, bne_self_eq_false, $ts,*] $[$loc]?)
local macro_rules | `(tactic| simp_all_arith [$ts,*]) => `(tactic| simp (implicitDefEqProofs := false) only [pu_bd, bd_bd, bd_pu, ofO_some, ofO_none, ofO_ite, stuck_bd, thr_bd, lft_pu, lft_bd, lft_gdc, lft_ite, lft_stuck, tb_bl, intO_int, itemsM_tup, itemsM_lst, itemsM_str, gd_c, gdc_T, compG_map, compA_pu, compA_gd, compA_if, compA_gdif, forM_map, forR_map, un2_tup, un3_tup, un4_tup, sum_inl, sum_inr, isStr_str, isTup_tup, joinF_l, joinF_t, strsOf_nil, strsOf_cons, strsOf_map, Option.bind_some, Option.bind_none, addT_int, addT_str, addT_lst, addT_tup, subT_int, mulT2_int, mulT2_str, fdivT_int, modT_int, powT_int, negT_int, eqT_int, neT_int, eqT_str, neT_str, eqT_bl, neT_bl, ltT_int, gtT_int, leT_int, geT_int, ixT_lst, ixT_tup, atI_0, atI_1, atI_2, atI_3, lenF_lst, lenF_tup, lenF_str, absF_int, intF_int, intF_bl, max2F_int, min2F_int, strF_int, isi_str, isi_int, isi_tup, isi_lst, slT_lst, slT_tup, slT_str, tupleF_lst, tupleF_tup, listF_lst, listF_tup, inT_strs, ninT_strs, inT_strsT, ninT_strsT, ite_pu, decide_eq_true_eq, Bool.not_eq_true', if_true, if_false, Bool.false_eq_true, Bool.true_eq_false, Option.map_some, Option.map_none, isbT_bl, isnbT_bl, extM_l, appM_c, compA_ifo, fkT, kinT, famT, List.cons_append, List.nil_append, $ts,*])
/-- a family's names, in either order -/
structure LFam (f : List Nm) : Prop where
  lo : 1 ≤ f.length
  hi : f.length ≤ 2
  nd : f.Nodup
  ok : ∀ x ∈ f, NameOk x
theorem LFam.rise {f : List Nm} (h : LFam f) : Rise ((srt T.str f).map T.str) := se_str.rise (fun _ _ => trivial) h.nd
theorem LFam.rev {f : List Nm} (h : LFam f) : LFam f.reverse := ⟨by rw [List.length_reverse]; exact h.lo, by rw [List.length_reverse]; exact h.hi, (List.reverse_perm f).nodup_iff.mpr h.nd, fun x hx => h.ok x (List.mem_reverse.mp hx)⟩
def addF (B : Bk) (p : Nm × Nm) : Bk := ⟨srt fkT (B.folk ++ [p]), B.unions, B.births, B.adopts⟩
def xcT (c : Str) : T := .exc c [] []
def putF (B : Bk) (p : Nm × Nm) : PM Unit T := if p.1 ∈ B.names then thr (xcT "Known") else if B.folk.length = 16 then thr (xcT "TooMuch") else pu (bkT (addF B p))
end TL
namespace TL
open PySem PySem.Spec PyProof.Rows L2
end TL
namespace TL
open PySem PySem.Spec PyProof.Rows L2
end TL
namespace TL
open PySem PySem.Spec PyProof.Rows L2
section
variable {X : Cx} {pins : List (Addr × Obj)} {s : Shared} {σ : L2.St} {H : Hp} {S : Sto} {M : Addr → Prop} {Q : VK}
end
section
variable {X : Cx} {e : Expr} {p apos cpos pos : Pos}
end
end TL
namespace TL
open PySem PySem.Spec PyProof.Rows L2
section
variable {X : Cx} {k v : Expr} {pos : Pos} {a b : List Sg}
end
section
variable {κ : Type} {W : κ → Sto} {p : TEnv} {l : Cs} {a b : List Sg}
end
theorem HT.drawG {many : Int} {β : Type} {d : Nat} {f : T → PM Cell β} {Q : β → Prop} (h1 : 0 < many) (h2 : many < 1000000000000000000000000000001) (h : ∀ i : Int, 0 ≤ i → i < many → HT d (f (.int i)) Q) : HT (d + 1) (TL.bd (m_draw (.int many)) f) Q :=
  HT.bd (P := fun v => ∃ i : Int, 0 ≤ i ∧ i < many ∧ v = .int i) (fun r c ⟨n, k1, k2⟩ => by
    obtain ⟨d, c', e, d0, d1, k⟩ := draw_ok k2 (by omega) h1 h2
    exact ⟨_, c', e, ⟨n + 1, by omega, k⟩, d, d0, d1, rfl⟩) fun v ⟨i, a, b, e⟩ => e ▸ h i a b
end TL
namespace TL
open PySem PySem.Spec PyProof.Rows L2
section
variable {X : Cx}
end
end TL
namespace TL
open PySem PySem.Spec PyProof.Rows
open L2 hiding putF
end TL
namespace TL
open PySem PySem.Spec PyProof.Rows L2
section
variable {X : Cx} {pins : List (Addr × Obj)} {s : Shared} {σ : L2.St} {H : Hp} {M : Addr → Prop} {S : Sto}
end
section
variable {X : Cx}
end
end TL
namespace TL
open PySem PySem.Spec PyProof.Rows L2
end TL
namespace TL
open PySem PySem.Spec PyProof.Rows L2
section
variable {X : Cx} {k1 v1 k2 v2 k3 v3 : Expr} {pos : Pos} {a1 b1 a2 b2 a3 b3 : List Sg}
end
section
variable {κ : Type} {W : κ → Sto} {p : TEnv} {l : Cs} {a1 b1 a2 b2 a3 b3 : List Sg}
end
end TL
namespace TL
open PySem PySem.Spec PyProof.Rows L2
section
variable {κ : Type} {W : κ → Sto} {p : TEnv} {l : Cs} {a : TTE} {lo hi : TTO} {ma : PM κ T} {ml mh : PM κ (Option Int)}
end
end TL
namespace TL
open PySem PySem.Spec PyProof.Rows L2
section
variable {κ : Type} {W : κ → Sto} {p : TEnv} {β : Type}
end
end TL
namespace TL
open PySem PySem.Spec PyProof.Rows L2
section
variable {X : Cx} {o e : Expr} {to te : TTE} {apos cpos : Pos}
end
section
variable {κ : Type} {W : κ → Sto} {p : TEnv} {l : Cs} {β : Type} {u : TTS} {post : β → Dest}
end
end TL
namespace TL
open PySem PySem.Spec PyProof.Rows L2
section
variable {P : Program} {K : PySem.W.Frag} {w : World} {M M2 : Addr → Prop} {H H2 : Hp} {S S2 : Sto}
/-- what is not looked at while a list is to be new -/
def old (M : Addr → Prop) (H : Hp) (S : Sto) : Addr → Prop := fun a => M a ∨ S a ≠ none ∨ ∃ xs, H a = some (.lst xs)
end
section
variable {X : Cx} {k j : Nat} {ps : List Str} {sp : SpT} {x : Str} {p pos : Pos} {e : Expr} {es : List Expr} {ta : TTA}
end
end TL
namespace TL
open PySem PySem.Spec PyProof.Rows L2
/-- the lists of a store -/
def lsS (S : Sto) : Sto := fun a => match S a with
  | some (.lst ts) => some (.lst ts)
  | _ => none
theorem lsS_at {S : Sto} {a : Addr} {c : Cell} : lsS S a = some c ↔ S a = some c ∧ ∃ ts, c = .lst ts := by
  unfold lsS
  constructor
  · intro h
    split at h
    · rename_i ts e
      cases h
      exact ⟨e, ts, rfl⟩
    · cases h
  · rintro ⟨h, ts, rfl⟩
    rw [h]
def allL (l : Cs) : Bool := l.all fun e => match e.2 with
  | .lst _ => true
  | _ => false
theorem allL_at {l : Cs} (h : allL l = true) {e : Addr × Cell} (m : e ∈ l) : ∃ ts, e.2 = .lst ts := by
  have := List.all_eq_true.mp h e m
  cases q : e.2 with
  | lst ts => exact ⟨ts, rfl⟩
  | dct b ks vs => rw [q] at this; cases this
  | ins c ns ts => rw [q] at this; cases this
section
variable {p : TEnv} {l : Cs} {β : Type} {pa : Addr} {k : Cell} {S : Sto}
theorem SI.ls (hl : allL l = true) (hk : ∃ ts, k = Cell.lst ts) (i : SI (penW emp pa) l k S) : SI (penW emp pa) l k (lsS S) :=
  ⟨fun e m => lsS_at.mpr ⟨i.at_ e m, allL_at hl m⟩, i.own, i.nd, fun a c h => by
    refine lsS_at.mpr ⟨i.base a c h, ?_⟩
    by_cases e : a = pa
    · subst e
      have h : ups emp a k a = some c := h
      rw [ups_same] at h
      cases h
      exact hk
    · have h : ups emp pa k a = some c := h
      rw [ups_ne e] at h
      cases h⟩
variable {u : TTS} {post : β → Dest}
end
end TL
namespace TL
open PySem PySem.Spec PyProof.Rows L2
section
variable {X : Cx} {elt tg : Expr} {ifs : List Expr} {scope : Scope} {g : TTG} {tc : TTB} {te : TTE} {pos p spos py : Pos} {x y : Str} {i j : Nat} {ow : List (Str × Nat)}
end
end TL
namespace TL
open PySem PySem.Spec PyProof.Rows L2
section
variable {S0 : Sto} {pa : Addr} {p : TEnv} {l : Cs} {β : Type} {u : TTS} {post : β → Dest}
end
section
variable {κ : Type} {W : κ → Sto} {p : TEnv} {l1 l2 : Cs}
end
end TL
namespace TL
open PySem PySem.Spec PyProof.Rows L2
section
variable {prog : Program} {w : World} {A : Around} {E : Value → Shared → Prop} {s : Shared} {z TI TO i1 i2 T : Addr} {f : Bool} {oT : Obj} {fp1 fp2 : List Addr} {n1 n2 i : Nat} {P1 P2 : Nat → Value → Prop} {St1 St2 : Nat → Heap → Prop}
end
theorem SeB.at {b : Bool} {h h' : Heap} {l : Addr} {xs : Array Value} (x : SeB b h l xs) (k : ∀ o, h.get? l = some o → h'.get? l = some o) : SeB b h' l xs := by
  cases b
  · exact Heap.IsTuple.at x k
  · exact Heap.IsList.at x k
theorem SeB.there {b : Bool} {h : Heap} {l : Addr} {xs : Array Value} (x : SeB b h l xs) : ∃ o, h.get? l = some o := by
  cases b
  · obtain ⟨o, ho, _⟩ := x
    exact ⟨o, ho⟩
  · obtain ⟨o, ho, _⟩ := x
    exact ⟨o, ho⟩
section
variable {prog : Program} {w : World}
end
section
variable {X : Cx} {e e2 : Expr} {p p2 pos pos2 : Pos}
end
end TL
namespace TL
open PySem PySem.Spec PyProof.Rows L2
section
variable {prog : Program} {w : World} {A : Around} {E : Value → Shared → Prop} {s : Shared}
end
section
variable {X : Cx} {e : Expr} {p apos cpos pos : Pos}
end
end TL
namespace TL
open PySem PySem.Spec PyProof.Rows L2
section
variable {κ : Type} {W : κ → Sto} {p : TEnv} {l : Cs} {β : Type} {u : TTS} {post : β → Dest}
end
end TL
namespace TL
open PySem PySem.Spec PyProof.Rows L2 HotX
section
variable {κ : Type} {W : κ → Sto} {p : TEnv} {l : Cs} {β : Type} {u : TTS} {post : β → Dest}
end
section
variable {X : Cx} {body : List Stmt} {h₀ : ExceptHandler} {hds : List ExceptHandler} {pos : Pos}
end
section
variable {κ : Type} {W : κ → Sto} {p : TEnv} {l : Cs} {β : Type} {u : TTS} {post : β → Dest}
end
end TL
namespace TL
open PySem PySem.Spec PyProof.Rows L2
section
variable {X : Cx} {pins : List (Addr × Obj)} {s : Shared} {σ : L2.St} {H : Hp} {S : Sto} {M : Addr → Prop}
end
abbrev Es := List (NestedKey × Addr × V)
def dnk : List T → Bool
  | [] => false
  | _ :: _ => true
section
variable {G : Gd} {H : Hp} {S : Sto}
end
section
variable {X : Cx} {pins : List (Addr × Obj)} {s : Shared} {σ : L2.St} {H : Hp} {S : Sto} {M : Addr → Prop}
variable {a b o i e : Expr} {ta tb to ti te : TTE} {pos pos' apos cpos p : Pos}
end
section
variable {X : Cx} {pins : List (Addr × Obj)} {s : Shared} {σ : L2.St} {H : Hp} {S : Sto} {M : Addr → Prop}
end
end TL
namespace TL
open PySem PySem.Spec PyProof.Rows
open L2 hiding putF
section
variable {G : Gd} {H : Hp} {S : Sto}
end
section
variable {X : Cx} {e o : Expr} {te to : TTE} {f : Str} {ok : Str → Bool} {p pos pos' apos : Pos} {es : List Expr} {ta : TTA} {j k : Nat} {c m x : Str} {ps : List Str} {sp : SpT}
end
end TL
namespace L2
open PySem PySem.Spec PyProof.Rows
section
variable {X : Cx} {CX : CXT} {k : Nat} {f C : Addr} {fd : FuncData} {ps : List Str} {sp : Sp} {x m : Str} {p apos pos : Pos} {o e : Expr} {es : List Expr} {ta : TE} {t : TA}
end
end L2
namespace TL
open PySem PySem.Spec PyProof.Rows
open L2 hiding putF
section
variable {X : Cx} {e o : Expr} {te to : TTE} {f : Str} {ok : Str → Bool} {p pos pos' apos : Pos} {es : List Expr} {ta : TTA} {j k : Nat} {c m x : Str} {ps : List Str} {sp : SpT} {M : Addr → Prop} {S0 : Sto} {H0 : Hp} {E : T → TEnv → Sto → Prop}
end
end TL
namespace TL
open PySem PySem.Spec PyProof.Rows
open L2 hiding putF
/-- a dict's cell, its kind told by its keys -/
abbrev cN (r : List T × List T) : Cell := .dct (dnk r.1) r.1 r.2
section
variable {κ : Type} {W : κ → Sto} {p : TEnv} {l : Cs} {β : Type} {u : TTS} {post : β → Dest} {e ei : TTE} {m mi : PM κ T} {i : Nat} {fs : List Str} {c f : Str} {ok : Str → Bool}
structure Lns (W : κ → Sto) (a : Addr) (get : κ → List T × List T) (set : κ → List T × List T → κ) : Prop where
  at_ : ∀ k, W k a = some (cN (get k))
  put : ∀ {l k r S}, SI W l k S → SI W l (set k r) (ups S a (cN r))
variable {a : Addr} {get : κ → List T × List T} {set : κ → List T × List T → κ} {x : T}
end
abbrev DD := List T × List T
section
variable {S S' : Sto} {m g : Addr} {l : Cs} {k : DD × DD} {r : DD}
end
end TL
namespace TL
open PySem PySem.Spec PyProof.Rows
open L2 hiding putF
section
variable {κ : Type} {W : κ → Sto} {p : TEnv} {l : Cs} {β : Type} {u : TTS} {post : β → Dest}
end
section
variable {S0 : Sto} {m g : Addr} {p : TEnv} {l : Cs} {D F : T}
end
section
variable {κ : Type} {W : κ → Sto} {p : TEnv} {l : Cs} {u : TTS}
theorem SI.more {S S2 : Sto} {k : κ} (i : SI W l k S) (h : ∀ a c, S a = some c → S2 a = some c) : SI W l k S2 := ⟨fun e he => h _ _ (i.at_ e he), i.own, i.nd, fun a c e => h _ _ (i.base a c e)⟩
end
section
variable {D F : T} {m g : Addr}
end
end TL
namespace TL
open PySem PySem.Spec PyProof.Rows L2
end TL
namespace TL
open PySem PySem.Spec PyProof.Rows L2
section
variable {κ : Type} {W : κ → Sto} {p : TEnv} {l : Cs}
end
end TL
namespace TL
open PySem PySem.Spec PyProof.Rows L2
/-- keys and values of a display -/
inductive TPs (X : Cx) : List (Option Expr) → List Expr → List (List Sg × TTE) → Prop
  | nil : TPs X [] [] []
  | cons {k v : Expr} {ks : List (Option Expr)} {vs : List Expr} {a : List Sg} {t : TTE} {prs : List (List Sg × TTE)} : TE X k (cC (.str a)) → TE X v t → TPs X ks vs prs → TPs X (some k :: ks) (v :: vs) ((a, t) :: prs)
section
variable {κ : Type} {W : κ → Sto} {p : TEnv} {l : Cs}
end
end TL
namespace TL
open PySem PySem.Spec PyProof.Rows L2
section
variable {X : Cx} {o e : Expr} {to : TTE} {apos cpos : Pos} {b : Bool}
end
section
variable {X : Cx} {tg a b d : Expr} {ta tb td : TTE} {p pos : Pos}
end
section
variable {κ : Type} {W : κ → Sto} {p : TEnv} {l : Cs} {a b d : TTE} {ma mb md : PM κ T}
end
end TL
namespace TL
open PySem PySem.Spec PyProof.Rows
open L2 hiding putF
def TET (X : Cx) (e : Expr) (t : TTE) : Prop := ∀ M S0 H0 E, Takes X (wOf X M S0 H0 E) → PET X e (LE X M S0 H0 t E)
def TST (X : Cx) (s : Stmt) (t : TTS) : Prop := ∀ M S0 H0 E, Takes X (wOf X M S0 H0 E) → PST X s (LS X M S0 H0 t E)
def TSsT (X : Cx) (s : List Stmt) (t : TTS) : Prop := ∀ M S0 H0 E, Takes X (wOf X M S0 H0 E) → PSsT X s (LS X M S0 H0 t E)
section
variable {X : Cx} {e a b o : Expr} {es : List Expr} {ta tb te to : TTE} {tA tB : TTB} {tr : TTA} {st : Stmt} {rest body : List Stmt} {t u : TTS} {pos apos c0 c1 p : Pos} {j k : Nat}
theorem TET.of (h : TE X e te) : TET X e te := fun M S0 H0 E tk => CwR.PET.of (h M S0 H0 E tk)
theorem TSsT.of (h : TSs X rest t) : TSsT X rest t := fun M S0 H0 E tk => PSsT.of (h M S0 H0 E tk)
theorem TST.of (h : TS X st t) : TST X st t := fun M S0 H0 E tk => PST.of (h M S0 H0 E tk)
end
structure FnT (P : Program) (w : World) (K : PySem.W.Frag) (mg : Str → Option Value) (base : Heap) (CX : CXT) (k : Nat) (f : Addr) (fd : FuncData) (ps : List Str) (sp : Sp) : Prop where
  len : ∀ vs H Q E, sp vs H Q E → vs.length = ps.length
  run : ∀ (A : Around) (outer : List Env) (s : Shared) (H : Hp) (args : Args) (us : List Value) (vs : List V) (Q : VK) (E : XK), 1 ≤ s.toks → Room k A → Env0 P w K mg base A outer s H → BindsTo s fd args (ps.zip us) → Vals vs us → sp vs H Q E →
    codeAny (model P w) A (.call (.ref f) args) (CR CX outer P w H s Q E) s
section
variable {P : Program} {w : World} {K : PySem.W.Frag} {mg : Str → Option Value} {base : Heap} {x qual : Str} {params : Arguments} {body : List Stmt} {scope : Scope} {f : Addr} {fd : FuncData} {N ps : List Str} {k : Nat} {sp : SpT} {c : TTS}
end
section
variable {X : Cx} {k j : Nat} {f : Addr} {fd : FuncData} {ps : List Str} {sp : SpT} {x : Str} {p pos : Pos} {e : Expr} {es : List Expr} {ta : TTA}
end
end TL
namespace TL
open PySem PySem.Spec PyProof.Rows
open L2 hiding putF
abbrev Dsk := T × List T
def nsD : List Str := ["kept", "elder"]
def dIns (e : Addr) (k : Dsk) : Cell := .ins "Desk" nsD [k.1, .ref e]
def WD (d e : Addr) (S : Sto) (k : Dsk) : Sto := ups (ups S d (dIns e k)) e (.lst k.2)
structure DAt (d e : Addr) (S : Sto) (k : Dsk) : Prop where
  ne : d ≠ e
  d : S d = some (dIns e k)
  e : S e = some (.lst k.2)
section
variable {S S' : Sto} {d e a : Addr} {k k' : Dsk} {l : Cs} {c : Cell}
theorem WD_e : WD d e S k e = some (.lst k.2) := ups_same
theorem WD_d (h : d ≠ e) : WD d e S k d = some (dIns e k) := (ups_ne h).trans ups_same
theorem WD_o (h1 : a ≠ d) (h2 : a ≠ e) : WD d e S k a = S a := (ups_ne h2).trans (ups_ne h1)
theorem DAt.self (h : DAt d e S k) : WD d e S k = S := by
  unfold WD
  rw [ups_self h.d, ups_self h.e]
theorem WD_no (h : d ≠ e) (n : WD d e S k a = none) : a ≠ d ∧ a ≠ e ∧ S a = none := by
  have n2 : a ≠ e := fun z => by rw [z, WD_e] at n; cases n
  have n1 : a ≠ d := fun z => by rw [z, WD_d h] at n; cases n
  exact ⟨n1, n2, (WD_o n1 n2).symm.trans n⟩
theorem WD_put (h : d ≠ e) (i : SI (WD d e S) l k S') : SI (WD d e S) l k' (WD d e S' k') := ⟨fun x hx => by
    obtain ⟨n1, n2, _⟩ := WD_no h (i.own x hx)
    rw [WD_o n1 n2]
    exact i.at_ x hx, fun x hx => by
    obtain ⟨n1, n2, n3⟩ := WD_no h (i.own x hx)
    exact (WD_o n1 n2).trans n3, i.nd, fun x c hx => by
    by_cases z1 : x = e
    · subst z1; rw [WD_e] at hx ⊢; exact hx
    by_cases z2 : x = d
    · subst z2; rw [WD_d h] at hx ⊢; exact hx
    rw [WD_o z2 z1] at hx ⊢
    exact i.base x c (by rw [WD_o z2 z1]; exact hx)⟩
theorem WD_dat (h : d ≠ e) (i : SI (WD d e S) l k S') : DAt d e S' k := ⟨h, i.base d _ (WD_d h), i.base e _ WD_e⟩
end
section
variable {κ α β ι : Type}
/-- by the state without the last desk; by the last desk -/
def up (m : PM κ α) : PM (κ × Dsk) α := fun k => match m k.1 with
  | .ok v k' => .ok v (k', k.2)
  | .exc x k' => .exc x (k', k.2)
  | .bad => .bad
def dk (m : PM Dsk α) : PM (κ × Dsk) α := fun k => match m k.2 with
  | .ok v k' => .ok v (k.1, k')
  | .exc x k' => .exc x (k.1, k')
  | .bad => .bad
def WX (W : κ → Sto) (d e : Addr) (k : κ × Dsk) : Sto := WD d e (W k.1) k.2
/-- one place alone comes and goes never -/
def DomC (W : κ → Sto) : Prop := ∀ k k' a, W k a = none → W k' a = none
theorem DomC.up {W : κ → Sto} {d e : Addr} (h : DomC W) (ne : d ≠ e) : DomC (WX W d e) := fun k k' a n => by
  obtain ⟨n1, n2, n3⟩ := WD_no ne n
  exact (WD_o n1 n2).trans (h _ _ _ n3)
/-- the desk at (d, e), by lift -/
structure LD (W : κ → Sto) (d e : Addr) (lift : PM Dsk T → PM κ T) : Prop where
  ne : d ≠ e
  dom : ∀ k, W k d ≠ none ∧ W k e ≠ none
  at_ : ∀ (k : κ) (S : Sto) (l : Cs), SI W l k S → ∃ st, DAt d e S st
  run : ∀ (m : PM Dsk T) (P : T → κ → Prop) (X : T → κ → Prop) (k : κ) (S : Sto) (l : Cs), SI W l k S → Sat (lift m k) P X →
    ∃ st, DAt d e S st ∧ Sat (m st) (fun v st' => ∃ k', P v k' ∧ SI W l k' (WD d e S st')) (fun x st' => ∃ k', X x k' ∧ SI W l k' (WD d e S st'))
/-- the pen's cell, by lift -/
def LP (W : κ → Sto) (pa : Addr) (lift : PM Cell T → PM κ T) : Prop := (∀ k, W k pa ≠ none) ∧ ∀ (m : PM Cell T) (P : T → κ → Prop) (X : T → κ → Prop) (k : κ) (S : Sto) (l : Cs), SI W l k S → Sat (lift m k) P X →
  ∃ c, S pa = some c ∧ Sat (m c) (fun v c' => ∃ k', P v k' ∧ SI W l k' (ups S pa c')) (fun x c' => ∃ k', X x k' ∧ SI W l k' (ups S pa c'))
theorem sat_up {m : PM κ α} {k : κ × Dsk} {P : α → κ × Dsk → Prop} {X : T → κ × Dsk → Prop} (h : Sat (up m k) P X) : Sat (m k.1) (fun v k' => P v (k', k.2)) fun x k' => X x (k', k.2) := by
  unfold TL.up at h
  cases q : m k.1 <;> rw [q] at h <;> exact h
theorem sat_dk {m : PM Dsk α} {k : κ × Dsk} {P : α → κ × Dsk → Prop} {X : T → κ × Dsk → Prop} (h : Sat (dk m k) P X) : Sat (m k.2) (fun v k' => P v (k.1, k')) fun x k' => X x (k.1, k') := by
  unfold TL.dk at h
  cases q : m k.2 <;> rw [q] at h <;> exact h
theorem LD.one {S0 : Sto} {d e : Addr} (ne : d ≠ e) : LD (WD d e S0) d e id := ⟨ne, fun k => ⟨by rw [WD_d ne]; exact Option.some_ne_none _, by rw [WD_e]; exact Option.some_ne_none _⟩, fun k S l i => ⟨k, WD_dat ne i⟩, fun m P X k S l i h =>
  ⟨k, WD_dat ne i, Sat.mono h (fun v k' q => ⟨k', q, WD_put ne i⟩) fun x k' q => ⟨k', q, WD_put ne i⟩⟩⟩
section
variable {W : κ → Sto} {d e d' e' pa : Addr} {l : Cs} {k : κ × Dsk} {S : Sto}
/-- the state without the last desk -/
theorem SI.low (ne : d ≠ e) (n : ∀ k, W k d = none ∧ W k e = none) (i : SI (WX W d e) l k S) : SI W l k.1 S := ⟨i.at_, fun x hx => (WD_no ne (i.own x hx)).2.2, i.nd, fun a c h => by
  have n1 : a ≠ d := fun z => by rw [z, (n k.1).1] at h; cases h
  have n2 : a ≠ e := fun z => by rw [z, (n k.1).2] at h; cases h
  exact i.base a c ((WD_o n1 n2).trans h)⟩
/-- back again, the last desk as it was -/
theorem SI.high {k' : κ} {S' : Sto} (ne : d ≠ e) (i : SI (WX W d e) l k S) (j : SI W l k' S') (h1 : S' d = S d) (h2 : S' e = S e) : SI (WX W d e) l (k', k.2) S' := ⟨j.at_, fun x hx => by
  obtain ⟨n1, n2, _⟩ := WD_no ne (i.own x hx)
  exact (WD_o n1 n2).trans (j.own x hx), j.nd, fun a c h => by
  by_cases z1 : a = e
  · subst z1
    have h : WD d a (W k') k.2 a = some c := h
    rw [WD_e] at h
    rw [h2]
    exact i.base a c (show WD d a (W k.1) k.2 a = some c by rw [WD_e]; exact h)
  by_cases z2 : a = d
  · subst z2
    have h : WD a e (W k') k.2 a = some c := h
    rw [WD_d ne] at h
    rw [h1]
    exact i.base a c (show WD a e (W k.1) k.2 a = some c by rw [WD_d ne]; exact h)
  have h : WD d e (W k') k.2 a = some c := h
  rw [WD_o z2 z1] at h
  exact j.base a c h⟩
theorem LD.up {lift : PM Dsk T → PM κ T} (L : LD W d' e' lift) (ne : d ≠ e) (n : ∀ k, W k d = none ∧ W k e = none) : LD (WX W d e) d' e' fun m => TL.up (lift m) := by
  have hne : ∀ k : κ, (d ≠ d' ∧ d ≠ e') ∧ (e ≠ d' ∧ e ≠ e') := fun k => ⟨⟨fun z => (L.dom k).1 (z ▸ (n k).1), fun z => (L.dom k).2 (z ▸ (n k).1)⟩, fun z => (L.dom k).1 (z ▸ (n k).2), fun z => (L.dom k).2 (z ▸ (n k).2)⟩
  refine ⟨L.ne, fun k => ?_, fun k S l i => L.at_ k.1 S l (i.low ne n), fun m P X k S l i h => ?_⟩
  · obtain ⟨⟨a1, a2⟩, a3, a4⟩ := hne k.1
    exact ⟨by rw [show WX W d e k d' = W k.1 d' from WD_o a1.symm a3.symm]; exact (L.dom k.1).1, by rw [show WX W d e k e' = W k.1 e' from WD_o a2.symm a4.symm]; exact (L.dom k.1).2⟩
  · obtain ⟨⟨a1, a2⟩, a3, a4⟩ := hne k.1
    obtain ⟨st, h1, h2⟩ := L.run m _ _ k.1 S l (i.low ne n) (sat_up h)
    exact ⟨st, h1, h2.mono (fun v st' ⟨k', q, j⟩ => ⟨(k', k.2), q, i.high ne j (WD_o a1 a2) (WD_o a3 a4)⟩) fun v st' ⟨k', q, j⟩ => ⟨(k', k.2), q, i.high ne j (WD_o a1 a2) (WD_o a3 a4)⟩⟩
theorem LD.last (ne : d ≠ e) : LD (WX W d e) d e dk := ⟨ne, fun k => ⟨by rw [show WX W d e k d = _ from WD_d ne]; exact Option.some_ne_none _, by rw [show WX W d e k e = _ from WD_e]; exact Option.some_ne_none _⟩, fun k S l i => ⟨k.2, ne, i.base d _ (show WX W d e k d = _ from WD_d ne), i.base e _ (show WX W d e k e = _ from WD_e)⟩, fun m P X k S l i h => by
  refine ⟨k.2, ⟨ne, i.base d _ (show WX W d e k d = _ from WD_d ne), i.base e _ (show WX W d e k e = _ from WD_e)⟩, ?_⟩
  have j : ∀ st', SI (WX W d e) l (k.1, st') (WD d e S st') := fun st' => by
    have : SI (WD d e (W k.1)) l k.2 S := ⟨i.at_, i.own, i.nd, i.base⟩
    have := WD_put (k' := st') ne this
    exact ⟨this.at_, this.own, this.nd, this.base⟩
  exact (sat_dk h).mono (fun v st' q => ⟨_, q, j st'⟩) fun v st' q => ⟨_, q, j st'⟩⟩
theorem LP.one {S0 : Sto} : LP (penW S0 pa) pa id := ⟨fun k => by rw [show penW S0 pa k pa = some k from ups_same]; exact Option.some_ne_none _, fun m P X k S l i h => ⟨k, i.base pa k ups_same, Sat.mono h (fun v k' q => ⟨k', q, i.pen⟩) fun v k' q => ⟨k', q, i.pen⟩⟩⟩
theorem LP.up {lift : PM Cell T → PM κ T} (L : LP W pa lift) (ne : d ≠ e) (n : ∀ k, W k d = none ∧ W k e = none) : LP (WX W d e) pa fun m => TL.up (lift m) := by
  have hne : ∀ k : κ, d ≠ pa ∧ e ≠ pa := fun k => ⟨fun z => L.1 k (z ▸ (n k).1), fun z => L.1 k (z ▸ (n k).2)⟩
  refine ⟨fun k => ?_, fun m P X k S l i h => ?_⟩
  · obtain ⟨a1, a2⟩ := hne k.1
    rw [show WX W d e k pa = W k.1 pa from WD_o a1.symm a2.symm]
    exact L.1 k.1
  · obtain ⟨a1, a2⟩ := hne k.1
    obtain ⟨c, h1, h2⟩ := L.2 m _ _ k.1 S l (i.low ne n) (sat_up h)
    exact ⟨c, h1, h2.mono (fun v st' ⟨k', q, j⟩ => ⟨(k', k.2), q, i.high ne j (ups_ne a1) (ups_ne a2)⟩) fun v st' ⟨k', q, j⟩ => ⟨(k', k.2), q, i.high ne j (ups_ne a1) (ups_ne a2)⟩⟩
end
variable {W : κ → Sto} {p : TEnv} {l : Cs} {i : Nat}
/-- desks by which -/
def LF (W : κ → Sto) (ad el : ι → Addr) (lift : ι → PM Dsk T → PM κ T) : Prop := ∀ i, LD W (ad i) (el i) (lift i)
theorem LF.one {d e : Addr} {lift : PM Dsk T → PM κ T} (L : LD W d e lift) : LF (ι := Unit) W (fun _ => d) (fun _ => e) fun _ => lift := fun _ => L
theorem LF.two {d0 e0 d1 e1 : Addr} {l0 l1 : PM Dsk T → PM κ T} (L0 : LD W d0 e0 l0) (L1 : LD W d1 e1 l1) : LF (ι := Bool) W (fun b => if b = true then d1 else d0) (fun b => if b = true then e1 else e0) fun b => if b = true then l1 else l0 := fun b => by
  cases b with
  | true => exact L1
  | false => exact L0
variable {ad el : ι → Addr} {lift : ι → PM Dsk T → PM κ T} {eo : TTE} {mo : PM κ ι} {r : TTA} {n : Nat}
end
section
variable {κ α β ι : Type} {W : κ → Sto} {p : TEnv} {l : Cs} {i : Nat} {u : TTS} {post : β → Dest} {k0 : T}
end
section
variable {β : Type} {S0 : Sto} {d e : Addr} {p : TEnv} {l : Cs} {i : Nat} {u : TTS} {post : β → Dest} {ok : Str → Bool} {ee : TTE} {m : PM Dsk T} {g : PM Dsk β}
end
end TL
namespace TL
open PySem PySem.Spec PyProof.Rows
open L2 hiding putF
section
variable {P : Program} {w : World} {K : PySem.W.Frag} {tg : Expr} {d : Addr} {o : Obj} {en : Array DictEntry} {ep : Nat} {es : Es}
end
/-- e is read as it stands: p tells its tree -/
structure Rpth (X : Cx) (e : Expr) (p : TEnv → Sto → T → Prop) (rd : L2.St → Hp → V → Prop) : Prop where
  pe : PE X e (fun σ H Q => ∃ v, rd σ H v ∧ Q v H)
  rep : ∀ {M S0 H0 σ H τ S t}, Rel (gdOf X M) S0 H0 σ H τ S → p τ S t → ∃ v, rd σ H v ∧ Rep (gdOf X M) H S t v
  lock : ∀ {σ H v d o u}, H d = some u → isD u = true → rd σ H v → rd σ (upd H d (.frz o u)) v
section
variable {X : Cx} {e : Expr} {p : TEnv → Sto → T → Prop} {rd : L2.St → Hp → V → Prop} {i : Nat} {x f : Str} {q p' : Pos} {ok : Str → Bool}
end
section
variable {X : Cx} {e tg : Expr} {p : TEnv → Sto → T → Prop} {rd : L2.St → Hp → V → Prop} {apos cpos : Pos}
end
section
variable {X : Cx} {e tg : Expr} {body : List Stmt} {g : TTG} {t : TTS} {vs : List Nat} {pos : Pos} {q : Bool} {p : TEnv → Sto → T → Prop} {rd : L2.St → Hp → V → Prop}
end
section
variable {X : Cx} {e elt tg : Expr} {ifs : List Expr} {scope : Scope} {g : TTG} {tc : TTB} {te : TTE} {pos : Pos} {ow : List (Str × Nat)} {q : Bool} {p : TEnv → Sto → T → Prop} {rd : L2.St → Hp → V → Prop}
end
end TL
namespace TL
open PySem PySem.Spec PyProof.Rows
open L2 hiding putF
section
variable {κ : Type} {W : κ → Sto} {p : TEnv} {l : Cs} {β : Type} {pp : TEnv → Sto → T → Prop} {mo : Option T} {i : Nat} {x : T} {f c m : Str} {ok : Str → Bool} {q : Bool}
variable {o : TTE} {mx : PM κ T}
end
end TL
namespace TL
open PySem PySem.Spec PyProof.Rows
open L2 hiding putF
def hlt (p q : Int × Int) : Bool := decide (p.1 < q.1) || (decide (p.1 = q.1) && decide (p.2 < q.2))
section
variable {X : Cx} {pins : List (Addr × Obj)} {s : Shared} {σ : L2.St} {H : Hp} {S : Sto} {M : Addr → Prop}
end
section
variable {X : Cx}
end
end TL
namespace TL
open PySem PySem.Spec PyProof.Rows
open L2 hiding putF
inductive Tg where
  | self | folk | cd | pd
  | fam (f : List Nm)
  | ch (n : Nm)
  | pa (n : Nm)
  deriving DecidableEq
structure KS (S0 S : Sto) (D : Tg → Prop) (A : Tg → Addr) (C : Tg → Cell) : Prop where
  at_ : ∀ t, D t → S (A t) = some (C t)
  own : ∀ t, D t → S0 (A t) = none
  inj : ∀ t u, D t → D u → A t = A u → t = u
  base : ∀ b c, S0 b = some c → S b = some c
def updT {α : Type} (f : Tg → α) (t : Tg) (x : α) : Tg → α := fun u => if u = t then x else f u
theorem updT_same {α : Type} {f : Tg → α} {t : Tg} {x : α} : updT f t x t = x := if_pos rfl
theorem updT_ne {α : Type} {f : Tg → α} {t u : Tg} {x : α} (h : u ≠ t) : updT f t x u = f u := if_neg h
section
variable {S0 S : Sto} {D D' : Tg → Prop} {A A' : Tg → Addr} {C C' : Tg → Cell}
theorem KS.congr (k : KS S0 S D A C) (hD : ∀ t, D' t → D t) (hA : ∀ t, D' t → A' t = A t) (hC : ∀ t, D' t → C' t = C t) : KS S0 S D' A' C' :=
  ⟨fun t h => by rw [hA t h, hC t h]; exact k.at_ t (hD t h), fun t h => by rw [hA t h]; exact k.own t (hD t h), fun t u h1 h2 e => k.inj t u (hD t h1) (hD u h2) (by rw [← hA t h1, ← hA u h2]; exact e), k.base⟩
theorem KS.put {t : Tg} {c : Cell} (k : KS S0 S D A C) (h : D t) : KS S0 (ups S (A t) c) D A (updT C t c) := ⟨fun u hu => by
  by_cases e : u = t
  · rw [e, ups_same, updT_same]
  · rw [updT_ne e, ups_ne fun z => e (k.inj u t hu h z)]
    exact k.at_ u hu, k.own, k.inj, fun b d hb => by
  have : b ≠ A t := fun z => by rw [z, k.own t h] at hb; cases hb
  rw [ups_ne this]
  exact k.base b d hb⟩
theorem KS.new {t : Tg} {c : Cell} {p : Addr} (k : KS S0 S D A C) (n : S p = none) (h : ¬ D t) : KS S0 (ups S p c) (fun u => D u ∨ u = t) (updT A t p) (updT C t c) := by
  have ne : ∀ u, D u → A u ≠ p := fun u hu z => by
    have := k.at_ u hu
    rw [z, n] at this
    cases this
  have nt : ∀ u, D u → u ≠ t := fun u hu z => h (z ▸ hu)
  refine ⟨fun u hu => ?_, fun u hu => ?_, fun u v hu hv e => ?_, fun b d hb => ?_⟩
  · rcases hu with hu | rfl
    · rw [updT_ne (nt u hu), updT_ne (nt u hu), ups_ne (ne u hu)]
      exact k.at_ u hu
    · rw [updT_same, updT_same, ups_same]
  · rcases hu with hu | rfl
    · rw [updT_ne (nt u hu)]
      exact k.own u hu
    · rw [updT_same]
      cases q : S0 p with
      | none => rfl
      | some d =>
        have := k.base p d q
        rw [n] at this
        cases this
  · rcases hu with hu | rfl
    · rcases hv with hv | rfl
      · rw [updT_ne (nt u hu), updT_ne (nt v hv)] at e
        exact k.inj u v hu hv e
      · rw [updT_ne (nt u hu), updT_same] at e
        exact absurd e (ne u hu)
    · rcases hv with hv | rfl
      · rw [updT_ne (nt v hv), updT_same] at e
        exact absurd e.symm (ne v hv)
      · rfl
  · have : b ≠ p := fun z => by
      have := k.base b d hb
      rw [z, n] at this
      cases this
    rw [ups_ne this]
    exact k.base b d hb
theorem KS.sub (k : KS S0 S D A C) : Sub S0 S := k.base
end
/-- how far it came -/
structure Kst where
  ns : List Str
  vs : List T
  fo : Bool
  us : List (List Nm)
  cn : List Nm
  cd : Bool
  pn : List Nm
  pd : Bool
  LF : List Nm → List T
  LC : Nm → List T
  LP : Nm → List T
def Kst.D (k : Kst) : Tg → Prop
  | .self => True
  | .folk => k.fo = true
  | .cd => k.cd = true
  | .pd => k.pd = true
  | .fam f => f ∈ k.us
  | .ch n => n ∈ k.cn
  | .pa n => n ∈ k.pn
def Kst.C (nm : List Nm) (A : Tg → Addr) (k : Kst) : Tg → Cell
  | .self => .ins "Kin" k.ns k.vs
  | .folk => .dct (dnk (k.us.map famT)) (k.us.map famT) (k.us.map fun f => .ref (A (.fam f)))
  | .cd => .dct false (nm.map T.str) (nm.map fun n => .ref (A (.ch n)))
  | .pd => .dct false (nm.map T.str) (nm.map fun n => .ref (A (.pa n)))
  | .fam f => .lst (k.LF f)
  | .ch n => .lst (k.LC n)
  | .pa n => .lst (k.LP n)
abbrev KJ (S0 : Sto) (nm : List Nm) (A : Tg → Addr) (k : Kst) (S : Sto) : Prop := KS S0 S k.D A (k.C nm A)
section
variable {S0 S : Sto} {nm : List Nm} {A : Tg → Addr} {k : Kst}
theorem KJ.self (h : KJ S0 nm A k S) (ns : List Str) (vs : List T) : KJ S0 nm A { k with ns := ns, vs := vs } (ups S (A .self) (.ins "Kin" ns vs)) :=
  (KS.put (t := .self) h trivial).congr (fun t h => by cases t <;> exact h) (fun _ _ => rfl) fun t _ => by
    cases t <;> first | exact updT_same.symm | exact (updT_ne (by simp)).symm
theorem KJ.fam (h : KJ S0 nm A k S) {f : List Nm} (hf : f ∈ k.us) (x : List T) : KJ S0 nm A { k with LF := fun g => if g = f then x else k.LF g } (ups S (A (.fam f)) (.lst x)) :=
  (KS.put (t := .fam f) h hf).congr (fun t h => by cases t <;> exact h) (fun _ _ => rfl) fun t _ => by
    cases t with
    | fam g =>
      by_cases e : g = f
      · subst e
        rw [updT_same]
        show Cell.lst (if g = g then x else _) = _
        rw [if_pos rfl]
      · rw [updT_ne (fun z => e (by injection z))]
        show Cell.lst (if g = f then x else _) = _
        rw [if_neg e]
        rfl
    | _ => exact (updT_ne (by simp)).symm
theorem KJ.ch (h : KJ S0 nm A k S) {n : Nm} (hn : n ∈ k.cn) (x : List T) : KJ S0 nm A { k with LC := fun m => if m = n then x else k.LC m } (ups S (A (.ch n)) (.lst x)) :=
  (KS.put (t := .ch n) h hn).congr (fun t h => by cases t <;> exact h) (fun _ _ => rfl) fun t _ => by
    cases t with
    | ch m =>
      by_cases e : m = n
      · subst e
        rw [updT_same]
        show Cell.lst (if m = m then x else _) = _
        rw [if_pos rfl]
      · rw [updT_ne (fun z => e (by injection z))]
        show Cell.lst (if m = n then x else _) = _
        rw [if_neg e]
        rfl
    | _ => exact (updT_ne (by simp)).symm
theorem KJ.pa (h : KJ S0 nm A k S) {n : Nm} (hn : n ∈ k.pn) (x : List T) : KJ S0 nm A { k with LP := fun m => if m = n then x else k.LP m } (ups S (A (.pa n)) (.lst x)) :=
  (KS.put (t := .pa n) h hn).congr (fun t h => by cases t <;> exact h) (fun _ _ => rfl) fun t _ => by
    cases t with
    | pa m =>
      by_cases e : m = n
      · subst e
        rw [updT_same]
        show Cell.lst (if m = m then x else _) = _
        rw [if_pos rfl]
      · rw [updT_ne (fun z => e (by injection z))]
        show Cell.lst (if m = n then x else _) = _
        rw [if_neg e]
        rfl
    | _ => exact (updT_ne (by simp)).symm
end
end TL
namespace TL
open PySem PySem.Spec PyProof.Rows
open L2 hiding putF
open Classical in
def TV (p : Addr) (b : T) (τ : TEnv) : Prop := τ.length = 5 ∧ τ[0]? = some (some (.ref p)) ∧ τ[1]? = some (some b)
theorem TV.set {p : Addr} {b : T} {τ : TEnv} {i : Nat} {x : Option T} (h : TV p b τ) (hi : 2 ≤ i) : TV p b (τ.set i x) :=
  ⟨by rw [List.length_set]; exact h.1, by rw [List.getElem?_set_ne (by omega)]; exact h.2.1, by rw [List.getElem?_set_ne (by omega)]; exact h.2.2⟩
theorem TV.at_ {p : Addr} {b : T} {τ : TEnv} {i : Nat} {x : Option T} (h : TV p b τ) (hi : i < 5) : (τ.set i x)[i]? = some x := List.getElem?_set_self (by rw [h.1]; exact hi)
section
variable {S0 : Sto} {p : Addr} {B : Bk} {ok : Str → Bool} {D : TD} {E : T → TEnv → Sto → Prop} {A : Tg → Addr} {k : Kst} {S : Sto} {τ : TEnv} {nm : List Nm}
end
def k0 : Kst := ⟨[], [], false, [], [], false, [], false, fun f => f.map T.str, fun _ => [], fun _ => []⟩
end TL
namespace L2
open PySem PySem.Spec PyProof.Rows
section
variable {X : Cx} {o e : Expr} {es : List Expr} {to : TE} {t : TA} {name : Str} {apos cpos : Pos} {id : String} {r : V → List V → Hp → VK → Prop}
end
end L2
namespace TL
open PySem PySem.Spec PyProof.Rows
open L2 hiding putF
section
variable {X : Cx} {o e : Expr} {to te : TTE} {apos cpos : Pos}
end
section
variable {X : Cx} {e elt tg : Expr} {ifs : List Expr} {scope : Scope} {g : TTG} {tc : TTB} {te : TTE} {pos apos cpos : Pos} {ow : List (Str × Nat)} {p : TEnv → Sto → T → Prop} {rd : L2.St → Hp → V → Prop} {body : List Stmt} {t : TTS} {vs : List Nat}
end
section
variable {X : Cx}
end
end TL
namespace TL
open PySem PySem.Spec PyProof.Rows L2
section
variable {X : Cx} {e ls ks : Expr} {te tl tk : L2.TE} {p3 pos : Pos}
end
section
variable {κ : Type} {W : κ → Sto} {p : TEnv} {l : Cs} {a b c : TTE} {ma mb mc : PM κ T}
end
end TL
namespace TL
open PySem PySem.Spec PyProof.Rows L2
section
variable {X : Cx} {c : Str} {C : Addr} {fs : List Str} {e : Expr} {es : List Expr} {p pos : Pos} {j : Nat}
def tMkV (C : Addr) (fs : List Str) (ta : L2.TA) : L2.TE := fun σ H Q => tMkX C fs ta σ H fun cls d H' => ∃ C, cls = .ref C ∧ ∀ a oe, H' a = none → Q (.ref a) (upd H' a (.frz oe (exv a C d)))
theorem pe_mkV {ta : L2.TA} (h : L2N.PMk X e (tMkX C fs ta)) : PE X e (tMkV C fs ta) := by
  refine ⟨fun pins s σ H Q I q => wpAny_mono (h pins s σ H _ I q) (fun u s1 hu => ?_) fun _ _ x => x⟩
  obtain ⟨a, oe, vs, sI, H', cls, d, rfl, J, kG, ge, hoe, z, dt, _, na, os, ag, _, C, rfl, k⟩ := hu
  have new : ObjOk X.prog X.w (upd H' a (.frz oe (exv a C d))) s1.heap a (.frz oe (exv a C d)) := ⟨hoe, ⟨oe, vs, hoe, z, dt⟩, ⟨oe, hoe⟩, fun h1 h2 ⟨o, v, q, r⟩ k => ⟨o, v, k o q, r⟩⟩
  have J2 := J.laidN (h' := s1.heap) (t' := s1.toks) kG ge na new
  have J3 : Inv X pins σ (upd H' a (.frz oe (exv a C d))) s1 := ⟨J2.ok, os.trans J.os, ag, J2.base, J2.loc, J2.cell, J2.free, J2.freeC, J2.pin, J2.hok, J2.len⟩
  exact ⟨.ref a, _, J3, rfl, k a oe na⟩
def cMkX (c : Str) (fs : List Str) (ta : TTA) : TTE := fun τ S Q E => ta τ S (fun zs S1 => zs.length = fs.length ∧ fs.length ≤ 900 ∧ Q (.exc c fs.reverse zs.reverse) S1) E
variable {ta : TTA}
theorem mk_read {M : Addr → Prop} {S0 : Sto} {H0 : Hp} {E : T → TEnv → Sto → Prop} {σ : L2.St} {H : Hp} {τ : TEnv} {S : Sto} {Q : V → Hp → Prop} {Qt : T → Sto → Prop} (rel : Rel (gdOf X M) S0 H0 σ H τ S) (h : cMkX c fs ta τ S Qt (fun x S' => E x τ S'))
    (fin : ∀ i S' v H', Qt i S' → StoOk (gdOf X M) H' S' → Ext S H S' H' → Rep (gdOf X M) H' S' i v → Q v H') : tMkV (He.ga X.K c) fs (LA X M S0 H0 ta E) σ H Q := by
  refine ⟨τ, S, _, rel, h, fun zs S1 vs H1 ⟨hl, h9, hq⟩ o1 x1 r1 => ?_⟩
  have hl2 : vs.length = fs.length := by rw [← r1.length]; exact hl
  refine ⟨hl2, h9, ?_⟩
  by_cases h0 : fs = []
  · subst h0
    obtain rfl : zs = [] := List.length_eq_zero_iff.mp hl
    exact .inl ⟨rfl, _, rfl, fun a oe na => fin _ S1 (.ref a) _ hq (o1.new na) (x1.trans (Ext.new na)) (.exc0 ⟨.inr ⟨oe, upd_same⟩, o1.free na, o1.nom na⟩)⟩
  · refine .inr ⟨h0, fun d hd => ⟨_, rfl, fun a oe na => ?_⟩⟩
    have xn : Ext S1 H1 S1 (upd H1 d (.xd (fs.reverse.zip vs.reverse))) := Ext.new hd
    have o2 := o1.new (o := .xd (fs.reverse.zip vs.reverse)) hd
    have xm : Ext S1 (upd H1 d (.xd (fs.reverse.zip vs.reverse))) S1 (upd (upd H1 d (.xd (fs.reverse.zip vs.reverse))) a (.frz oe (exv a (He.ga X.K c) (some d)))) := Ext.new na
    have ad : At (gdOf X M).M (upd H1 d (.xd (fs.reverse.zip vs.reverse))) S1 d (.xd (fs.reverse.zip vs.reverse)) := ⟨.inl upd_same, o1.free hd, o1.nom hd⟩
    exact fin _ S1 (.ref a) _ hq (o2.new na) ((x1.trans xn).trans xm) (.exc1 ⟨.inr ⟨oe, upd_same⟩, o2.free na, o2.nom na⟩ (ad.ext xm) (by rw [List.length_reverse, List.length_reverse, hl2]) (Reps.ext (xn.trans xm) _ _ (Reps.rev r1)))
theorem te_mkX (O : XOk X.prog X.w X.K X.mg X.base c fs) (hr : Room j X.A) (hj : 2 ≤ j) (hg : Gl X c) (ha : TA X (e :: es) ta) (hdb : (c == ("__debug__" : Str)) = false := by decide)
    (he : starEach (e :: es) X.env = (false, eval e X.env) :: starEach es X.env := by rfl) (hpl : (backTo pos (starEach es X.env)).any (·.1) = false := by rfl) :
    TE X (.Call (.Name c p) (e :: es) [] pos) (cMkX c fs ta) := fun M S0 H0 E tk => by
  obtain ⟨T, hm, f, fd, ps, N, F1, hb⟩ := O
  exact (pe_mkV (pmk_x T N F1 (hr.mono hj) hb passX hg hm (ha M S0 H0 E tk) hdb he hpl)).weak fun σ H Q ⟨τ, S, Qt, rel, h, fin⟩ => mk_read rel h fin
theorem te_mkX0 (O : XOk X.prog X.w X.K X.mg X.base c []) (hr : Room j X.A) (hj : 2 ≤ j) (hg : Gl X c) (hdb : (c == ("__debug__" : Str)) = false := by decide) :
    TE X (.Call (.Name c p) [] [] pos) (cMkX c [] cNil) := fun M S0 H0 E tk => by
  obtain ⟨T, hm, f, fd, ps, N, F1, hb⟩ := O
  exact (pe_mkV (pmk_x0 T N F1 (hr.mono hj) hb passX hg hm hdb)).weak fun σ H Q ⟨τ, S, Qt, rel, h, fin⟩ => by
    obtain ⟨τ', S', Qt', rel', q, k⟩ := mk_read (ta := cNil) rel h fin
    exact k [] S' [] H q rel'.sto Ext.refl .nil
end
section
variable {κ : Type} {W : κ → Sto} {p : TEnv} {l : Cs}
theorem xe_mkX {n : Nat} {c : Str} {fs : List Str} {r : TTA} {mr : (List T → PM κ T) → PM κ T} (h : XA W p l n r mr) (hn : n = fs.length := by rfl) (h9 : fs.length ≤ 900 := by decide) : XE W p l (cMkX c fs r) (mr fun xs => pu (.exc c fs.reverse xs.reverse)) := fun Q E k τ S hE i s =>
  h _ _ _ _ E k τ S hE i s (fun zs k' S' e i' s' => ⟨e.trans hn, h9, s' S' i'⟩) fun x k' S' i' q => q S' i'
/-- k, (a, b) -/
def un12 : T → Option (T × T × T)
  | .tup [a, .tup [b, c]] => some (a, b, c)
  | _ => none
theorem un12_is {z : T} {b : T × T × T} (h : un12 z = some b) : z = .tup [b.1, .tup [b.2.1, b.2.2]] := by
  unfold un12 at h
  split at h
  · cases h; rfl
  · cases h
theorem xg_12 {i j k : Nat} : XGt (gT (gC (gN i) (gC (gT (gC (gN j) (gC (gN k) gZ))) gZ))) p un12 (fun b => ((p.set i (some b.1)).set j (some b.2.1)).set k (some b.2.2)) := fun z b τ S Q e h q => by
  rw [un12_is e]
  exact ⟨_, rfl, _, _, rfl, _, _, rfl, _, rfl, _, _, rfl, _, _, rfl, rfl, rfl, q _ h.set.set.set⟩
theorem takes_d {i j : Nat} {r : TTGs} {n : Nat} (h : ∀ zs τ S Q, r zs τ S Q → zs.length = n) : takes (gC (gT (gC (gN i) (gC (gN j) gZ))) r) (n + 1) := fun zs τ S Q ⟨z, ys, e, zs', _, _, _, _, _, _, _, _, q⟩ => by rw [e, List.length_cons, h _ _ _ _ q]
end
end TL
namespace K75
open PySem PySem.Spec PyProof.Rows TL
open L2 hiding putF
def is_Known : List (Str × Bool) := [("NoBook", false), ("NoRow", false), ("NoName", false), ("Known", true), ("Unknown", false), ("InUse", false), ("TooMuch", false), ("NoText", false), ("TooMany", false), ("NoReading", false), ("NoRows", false), ("NoDrawing", false), ("NoPicture", false), ("NoPairs", false), ("Twice", false), ("Marks", false), ("NotPlain", false)]
def is_NoName : List (Str × Bool) := [("NoBook", false), ("NoRow", false), ("NoName", true), ("Known", false), ("Unknown", false), ("InUse", false), ("TooMuch", false), ("NoText", false), ("TooMany", false), ("NoReading", false), ("NoRows", false), ("NoDrawing", false), ("NoPicture", false), ("NoPairs", false), ("Twice", false), ("Marks", false), ("NotPlain", false)]
def is_NoRow : List (Str × Bool) := [("NoBook", false), ("NoRow", true), ("NoName", false), ("Known", false), ("Unknown", false), ("InUse", false), ("TooMuch", false), ("NoText", false), ("TooMany", false), ("NoReading", false), ("NoRows", false), ("NoDrawing", false), ("NoPicture", false), ("NoPairs", false), ("Twice", false), ("Marks", false), ("NotPlain", false)]
def is_NoBook : List (Str × Bool) := [("NoBook", true), ("NoRow", false), ("NoName", false), ("Known", false), ("Unknown", false), ("InUse", false), ("TooMuch", false), ("NoText", false), ("TooMany", false), ("NoReading", false), ("NoRows", false), ("NoDrawing", false), ("NoPicture", false), ("NoPairs", false), ("Twice", false), ("Marks", false), ("NotPlain", false)]
def is_NoText : List (Str × Bool) := [("NoBook", false), ("NoRow", false), ("NoName", false), ("Known", false), ("Unknown", false), ("InUse", false), ("TooMuch", false), ("NoText", true), ("TooMany", false), ("NoReading", false), ("NoRows", false), ("NoDrawing", false), ("NoPicture", false), ("NoPairs", false), ("Twice", false), ("Marks", false), ("NotPlain", false)]
def is_TooMuch : List (Str × Bool) := [("NoBook", false), ("NoRow", false), ("NoName", false), ("Known", false), ("Unknown", false), ("InUse", false), ("TooMuch", true), ("NoText", false), ("TooMany", false), ("NoReading", false), ("NoRows", false), ("NoDrawing", false), ("NoPicture", false), ("NoPairs", false), ("Twice", false), ("Marks", false), ("NotPlain", false)]
def is_InUse : List (Str × Bool) := [("NoBook", false), ("NoRow", false), ("NoName", false), ("Known", false), ("Unknown", false), ("InUse", true), ("TooMuch", false), ("NoText", false), ("TooMany", false), ("NoReading", false), ("NoRows", false), ("NoDrawing", false), ("NoPicture", false), ("NoPairs", false), ("Twice", false), ("Marks", false), ("NotPlain", false)]
def is_Unknown : List (Str × Bool) := [("NoBook", false), ("NoRow", false), ("NoName", false), ("Known", false), ("Unknown", true), ("InUse", false), ("TooMuch", false), ("NoText", false), ("TooMany", false), ("NoReading", false), ("NoRows", false), ("NoDrawing", false), ("NoPicture", false), ("NoPairs", false), ("Twice", false), ("Marks", false), ("NotPlain", false)]
def is_NoDrawing : List (Str × Bool) := [("NoBook", false), ("NoRow", false), ("NoName", false), ("Known", false), ("Unknown", false), ("InUse", false), ("TooMuch", false), ("NoText", false), ("TooMany", false), ("NoReading", false), ("NoRows", false), ("NoDrawing", true), ("NoPicture", false), ("NoPairs", false), ("Twice", false), ("Marks", false), ("NotPlain", false)]
def is_NoRows : List (Str × Bool) := [("NoBook", false), ("NoRow", false), ("NoName", false), ("Known", false), ("Unknown", false), ("InUse", false), ("TooMuch", false), ("NoText", false), ("TooMany", false), ("NoReading", false), ("NoRows", true), ("NoDrawing", false), ("NoPicture", false), ("NoPairs", false), ("Twice", false), ("Marks", false), ("NotPlain", false)]
def is_NoReading : List (Str × Bool) := [("NoBook", false), ("NoRow", false), ("NoName", false), ("Known", false), ("Unknown", false), ("InUse", false), ("TooMuch", false), ("NoText", false), ("TooMany", false), ("NoReading", true), ("NoRows", false), ("NoDrawing", false), ("NoPicture", false), ("NoPairs", false), ("Twice", false), ("Marks", false), ("NotPlain", false)]
def is_TooMany : List (Str × Bool) := [("NoBook", false), ("NoRow", false), ("NoName", false), ("Known", false), ("Unknown", false), ("InUse", false), ("TooMuch", false), ("NoText", false), ("TooMany", true), ("NoReading", false), ("NoRows", false), ("NoDrawing", false), ("NoPicture", false), ("NoPairs", false), ("Twice", false), ("Marks", false), ("NotPlain", false)]
def is_Marks : List (Str × Bool) := [("NoBook", false), ("NoRow", false), ("NoName", false), ("Known", false), ("Unknown", false), ("InUse", false), ("TooMuch", false), ("NoText", false), ("TooMany", false), ("NoReading", false), ("NoRows", false), ("NoDrawing", false), ("NoPicture", false), ("NoPairs", false), ("Twice", false), ("Marks", true), ("NotPlain", false)]
def is_Twice : List (Str × Bool) := [("NoBook", false), ("NoRow", false), ("NoName", false), ("Known", false), ("Unknown", false), ("InUse", false), ("TooMuch", false), ("NoText", false), ("TooMany", false), ("NoReading", false), ("NoRows", false), ("NoDrawing", false), ("NoPicture", false), ("NoPairs", false), ("Twice", true), ("Marks", false), ("NotPlain", false)]
def is_NoPairs : List (Str × Bool) := [("NoBook", false), ("NoRow", false), ("NoName", false), ("Known", false), ("Unknown", false), ("InUse", false), ("TooMuch", false), ("NoText", false), ("TooMany", false), ("NoReading", false), ("NoRows", false), ("NoDrawing", false), ("NoPicture", false), ("NoPairs", true), ("Twice", false), ("Marks", false), ("NotPlain", false)]
def is_NoPicture : List (Str × Bool) := [("NoBook", false), ("NoRow", false), ("NoName", false), ("Known", false), ("Unknown", false), ("InUse", false), ("TooMuch", false), ("NoText", false), ("TooMany", false), ("NoReading", false), ("NoRows", false), ("NoDrawing", false), ("NoPicture", true), ("NoPairs", false), ("Twice", false), ("Marks", false), ("NotPlain", false)]
def is_NotPlain : List (Str × Bool) := [("NoBook", false), ("NoRow", false), ("NoName", false), ("Known", false), ("Unknown", false), ("InUse", false), ("TooMuch", false), ("NoText", false), ("TooMany", false), ("NoReading", false), ("NoRows", false), ("NoDrawing", false), ("NoPicture", false), ("NoPairs", false), ("Twice", false), ("Marks", false), ("NotPlain", true)]
def is_ValueError : List (Str × Bool) := [("NoBook", true), ("NoRow", true), ("NoName", true), ("Known", true), ("Unknown", true), ("InUse", true), ("TooMuch", true), ("NoText", true), ("TooMany", true), ("NoReading", true), ("NoRows", true), ("NoDrawing", true), ("NoPicture", true), ("NoPairs", true), ("Twice", true), ("Marks", true), ("NotPlain", true)]
def is_KinError : List (Str × Bool) := [("NoBook", true), ("NoRow", true), ("NoName", true), ("Known", true), ("Unknown", true), ("InUse", true), ("TooMuch", true), ("NoText", true), ("TooMany", true), ("NoReading", true), ("NoRows", true), ("NoDrawing", true), ("NoPicture", true), ("NoPairs", true), ("Twice", true), ("Marks", true), ("NotPlain", true)]
def fo_word : List Str := ["NoBook"]
def fo_number : List Str := ["NoBook"]
def fo_name : List Str := ["NoName", "Twice", "Marks"]
def fo_line : List Str := ["NoText"]
def fo_ring : List Str := ["NoRows"]
def N_law_pen_of : List Str := ["_law_script", "_law_cell"]
def c_law_pen_of : TTS :=
  (cSeq (cRet (cLstM (cCons (cComp (iSeq (cSl (cVar 0) oNo (oSome (cC (.int 63))))) (gN 1) bYes (cVar 1) [1]) (cCons (cC (.int 0)) (cCons (cC (.int 0)) cNil)))))
    cSkip)
abbrev sp_law_pen_of : SpT := sp_pen_of
theorem len_law_pen_of : ∀ ts S Q E, sp_law_pen_of ts S Q E → ts.length = 1 := fun ts S Q E h => by obtain ⟨_, rfl, _⟩ := h; rfl
theorem vc_law_pen_of : VC N_law_pen_of sp_law_pen_of c_law_pen_of := by
  rintro ts S Q E ⟨a, rfl, ns, rfl, hq⟩
  simp only [c_law_pen_of, N_law_pen_of, cSeq, cSkip, cRet, cRetN, cSet, cAsg, cDo, cIfS, cPar2, cPar3, cBrk, cCont, cVar, cC, cOp, cUn, cIf, cNil, cCons, cTup, cLst, cLstM, bVal, bAnd, bOr, bNot, bYes, cAnd, cOr, cNot, cCall, cFn, cM, cSl, oNo, oSome, cChain, gN, gT, gL, gZ, gC, gIx, cApp, cExt, cPop, cClr, TL.startT, List.map_cons, List.map_nil, List.cons_append, List.nil_append, List.length_cons, List.length_nil, List.replicate_succ, List.replicate_zero, List.set_cons_zero, List.set_cons_succ, List.getElem?_cons_zero, List.getElem?_cons_succ, Option.some.injEq, Option.map_some, exists_eq_left', exists_eq_left, T.bl.injEq, T.int.injEq, T.str.injEq, T.tup.injEq, T.lst.injEq, T.ref.injEq, List.cons.injEq, and_true, true_and, res, wipeT, sp1_at, sp2_at, sp3_at, sp4_at, sp5_at, Nat.reduceAdd, Nat.reduceSub, if_true, if_false, Bool.false_eq_true, Bool.true_eq_false, cComp, iSeq, slT_scr, items]
  have hl : (cutT ns none (some 63)).length ≤ 63 := by
    have h1 := cut_le ns none 63 (by omega)
    omega
  have hs := sizeLine_eq
  refine compT_map id trivial (by rw [List.length_map]; omega) ?_ ?_
  · rw [List.map_id]
    refine ⟨by omega, fun p hp => Fin.of (hq p _ hp ⟨_, 0, 0, rfl, by omega, by omega, by omega, hl⟩)⟩
  · intro x hx R N h
    simpa only [cSeq, cSkip, cRet, cRetN, cSet, cAsg, cDo, cIfS, cPar2, cPar3, cBrk, cCont, cVar, cC, cOp, cUn, cIf, cNil, cCons, cTup, cLst, cLstM, bVal, bAnd, bOr, bNot, bYes, cAnd, cOr, cNot, cCall, cFn, cM, cSl, oNo, oSome, cChain, gN, gT, gL, gZ, gC, gIx, cApp, cExt, cPop, cClr, TL.startT, List.map_cons, List.map_nil, List.cons_append, List.nil_append, List.length_cons, List.length_nil, List.replicate_succ, List.replicate_zero, List.set_cons_zero, List.set_cons_succ, List.getElem?_cons_zero, List.getElem?_cons_succ, Option.some.injEq, Option.map_some, exists_eq_left', exists_eq_left, T.bl.injEq, T.int.injEq, T.str.injEq, T.tup.injEq, T.lst.injEq, T.ref.injEq, List.cons.injEq, and_true, true_and, res, wipeT, sp1_at, sp2_at, sp3_at, sp4_at, sp5_at, Nat.reduceAdd, Nat.reduceSub, if_true, if_false, Bool.false_eq_true, Bool.true_eq_false, wipeT, id] using h
def N_law_draw : List Str := ["_law_pen", "_law_many", "_law_digit", "_law_at", "_law_cell", "_law_number"]
def c_law_draw : TTS :=
  (cSeq (cIfS (bVal (cOp gtT (cOp ixT (cVar 0) (cC (.int 2))) (cC (.int 0)))) (cSeq (cSet 2 (cOp modT (cOp ixT (cVar 0) (cC (.int 2))) (cVar 1)))
    (cSeq (cAsg (cOp fdivT (cOp ixT (cVar 0) (cC (.int 2))) (cVar 1)) (gIx (cVar 0) (cC (.int 2))))
    (cSeq (cRet (cVar 2))
    cSkip))) cSkip)
    (cSeq (cSet 3 (cOp ixT (cVar 0) (cC (.int 1))))
    (cSeq (cAsg (cOp addT (cVar 3) (cC (.int 1))) (gIx (cVar 0) (cC (.int 1))))
    (cSeq (cSet 4 (cC (.int 11)))
    (cSeq (cIfS (bVal (cOp gtT (cFn lenF (cCons (cOp ixT (cVar 0) (cC (.int 0))) cNil)) (cC (.int 0)))) (cSeq (cSet 4 (cOp ixT (cOp ixT (cVar 0) (cC (.int 0))) (cOp modT (cVar 3) (cFn lenF (cCons (cOp ixT (cVar 0) (cC (.int 0))) cNil)))))
    cSkip) cSkip)
    (cSeq (cIfS (bAnd (bVal (cOp ltT (cVar 3) (cFn lenF (cCons (cOp ixT (cVar 0) (cC (.int 0))) cNil)))) (bVal (cOp geT (cFn absF (cCons (cVar 4) cNil)) (cOp powT (cC (.int 10)) (cC (.int 18)))))) (cSeq (cAsg (cOp fdivT (cFn absF (cCons (cVar 4) cNil)) (cVar 1)) (gIx (cVar 0) (cC (.int 2))))
    (cSeq (cRet (cOp modT (cFn absF (cCons (cVar 4) cNil)) (cVar 1)))
    cSkip)) cSkip)
    (cSeq (cSet 5 (cOp modT (cOp mulT2 (cOp addT (cOp addT (cOp modT (cVar 4) (cC (.int 2147483647))) (cOp mulT2 (cC (.int 69621)) (cVar 3))) (cC (.int 13))) (cC (.int 48271))) (cC (.int 2147483629))))
    (cSeq (cSet 5 (cOp modT (cOp mulT2 (cOp modT (cOp mulT2 (cVar 5) (cVar 5)) (cC (.int 2147483587))) (cOp addT (cOp addT (cOp modT (cVar 5) (cC (.int 65521))) (cOp mulT2 (cC (.int 7)) (cVar 3))) (cC (.int 1)))) (cC (.int 2147483563))))
    (cSeq (cRet (cOp modT (cOp fdivT (cVar 5) (cC (.int 32))) (cVar 1)))
    cSkip)))))))))
abbrev m_law_draw (t : T) : PM Cell T := m_draw t
def sp_law_draw : SpT := spP (u1 m_draw)
theorem len_law_draw : ∀ ts S Q E, sp_law_draw ts S Q E → ts.length = 2 := spP_len ar1
theorem vc_law_draw : VC N_law_draw sp_law_draw c_law_draw := by
  rintro ts S Q E ⟨p, rs, c, rfl, h4, h⟩
  have hr : ∃ t, rs = [t] := by
    have := ar1 (f := m_draw) rs c (sat_nb h)
    match rs, this with
    | [t], _ => exact ⟨t, rfl⟩
  obtain ⟨t, rfl⟩ := hr
  obtain ⟨ns, at_, rest, many, rfl, rfl, ⟨h1, h2, a1, a2, a3, a4⟩, hq⟩ := sat_draw h
  clear h
  unfold penCell at h4
  simp only [c_law_draw, N_law_draw, cSeq, cSkip, cRet, cRetN, cSet, cAsg, cDo, cIfS, cPar2, cPar3, cBrk, cCont, cVar, cC, cOp, cUn, cIf, cNil, cCons, cTup, cLst, cLstM, bVal, bAnd, bOr, bNot, bYes, cAnd, cOr, cNot, cCall, cFn, cM, cSl, oNo, oSome, cChain, gN, gT, gL, gZ, gC, gIx, cApp, cExt, cPop, cClr, TL.startT, List.map_cons, List.map_nil, List.cons_append, List.nil_append, List.length_cons, List.length_nil, List.replicate_succ, List.replicate_zero, List.set_cons_zero, List.set_cons_succ, List.getElem?_cons_zero, List.getElem?_cons_succ, Option.some.injEq, Option.map_some, exists_eq_left', exists_eq_left, T.bl.injEq, T.int.injEq, T.str.injEq, T.tup.injEq, T.lst.injEq, T.ref.injEq, List.cons.injEq, and_true, true_and, res, wipeT, sp1_at, sp2_at, sp3_at, sp4_at, sp5_at, Nat.reduceAdd, Nat.reduceSub, if_true, if_false, Bool.false_eq_true, Bool.true_eq_false, ex_ite, addT_int, addT_str, addT_lst, addT_tup, subT_int, mulT2_int, mulT2_str, fdivT_int, modT_int, powT_int, negT_int, eqT_int, neT_int, eqT_str, neT_str, eqT_bl, neT_bl, ltT_int, gtT_int, leT_int, geT_int, ixT_lst, ixT_tup, ixT_str, atI_0, atI_1, atI_2, atI_3, ixT_ups, lenF_ups, ixN_30, ixN_31, ixN_32, lenF_lst, lenF_tup, lenF_str, absF_int, intF_int, intF_bl, max2F_int, min2F_int, strF_int, isi_str, isi_int, isi_tup, isi_lst, slT_lst, slT_tup, slT_str, slT_scr, ssetT_lst, ssetT_tup, slenT_lst, slenT_tup, sortedF_lst, sortedF_tup, tupleF_lst, tupleF_tup, listF_lst, listF_tup, inT_strs, ninT_strs, ups_ups, ups_same, decide_eq_true_eq, Cell.lst.injEq, Option.map_eq_some_iff, exists_and_left, exists_const, Bool.not_eq_true', ixT_ref h4, h4]
  have a2 : at_ ≤ 1000000000000000000000000000000 := a2
  unfold drawStep at hq
  by_cases r : 0 < rest
  · rw [if_pos r] at hq ⊢
    exact ⟨modI_b h1, divI_b h1 (by omega), Fin.of hq⟩
  rw [if_neg r] at hq ⊢
  have m1 : mulI 69621 at_ = true := mulI_b (by omega) (by omega)
  have m2 : mulI 7 at_ = true := mulI_b (by omega) (by omega)
  have m3 : ∀ z : Int, mulI (z.fmod 2147483647 + 69621 * at_ + 13) 48271 = true := fun z => by
    have := fmod_lo (i := z) (j := 2147483647) (by omega)
    have := fmod_hi (i := z) (j := 2147483647) (by omega)
    exact mulI_b (by omega) (by omega)
  have m4 : ∀ z : Int, mulI (z.fmod 2147483629) (z.fmod 2147483629) = true := fun z => by
    have := fmod_lo (i := z) (j := 2147483629) (by omega)
    have := fmod_hi (i := z) (j := 2147483629) (by omega)
    exact mulI_b (by omega) (by omega)
  have m5 : ∀ z y : Int, mulI (z.fmod 2147483587) (y.fmod 65521 + 7 * at_ + 1) = true := fun z y => by
    have := fmod_lo (i := z) (j := 2147483587) (by omega)
    have := fmod_hi (i := z) (j := 2147483587) (by omega)
    have := fmod_lo (i := y) (j := 65521) (by omega)
    have := fmod_hi (i := y) (j := 65521) (by omega)
    exact mulI_b (by omega) (by omega)
  have hp : powI 10 18 = true := by decide
  have e1 : ∀ z : Int, modI z 2147483647 = true := fun z => modI_b (by omega)
  have e2 : ∀ z : Int, modI z 2147483629 = true := fun z => modI_b (by omega)
  have e3 : ∀ z : Int, modI z 2147483587 = true := fun z => modI_b (by omega)
  have e4 : ∀ z : Int, modI z 65521 = true := fun z => modI_b (by omega)
  have e5 : ∀ z : Int, modI z 2147483563 = true := fun z => modI_b (by omega)
  have e6 : ∀ z : Int, modI z many = true := fun z => modI_b h1
  have e7 : ∀ z : Int, divI z many = true := fun z => divI_b h1 (by omega)
  have e8 : ∀ z : Int, divI z 32 = true := fun z => divI_b (by omega) (by omega)
  have ft : (false = true) = False := by simp
  have t18 : (10 : Int) ^ Int.toNat 18 = 10 ^ 18 := rfl
  by_cases l : 0 < ((ns.map T.int).length : Int)
  · rw [if_pos l]
    refine ⟨modI_b l, ?_⟩
    have ll : 0 < ns.length := by rw [List.length_map] at l; omega
    have ez : L2.atI (ns.map T.int) (at_.fmod ((ns.map T.int).length : Int)) = some (.int (cellAt ns at_)) := by
      have lo := fmod_lo (i := at_) l
      have hi := fmod_hi (i := at_) l
      rw [List.length_map] at lo hi ⊢
      unfold cellAt
      rw [if_pos ll, atI_map]
      obtain ⟨k, hk⟩ := Int.eq_ofNat_of_zero_le lo
      rw [hk, atI_natE, Int.toNat_natCast, List.getD_eq_getElem?_getD]
      have : k < ns.length := by omega
      rw [List.getElem?_eq_getElem this]
      rfl
    refine ⟨_, ez, ?_⟩
    simp only [cSeq, cSkip, cRet, cRetN, cSet, cAsg, cDo, cIfS, cPar2, cPar3, cBrk, cCont, cVar, cC, cOp, cUn, cIf, cNil, cCons, cTup, cLst, cLstM, bVal, bAnd, bOr, bNot, bYes, cAnd, cOr, cNot, cCall, cFn, cM, cSl, oNo, oSome, cChain, gN, gT, gL, gZ, gC, gIx, cApp, cExt, cPop, cClr, TL.startT, List.map_cons, List.map_nil, List.cons_append, List.nil_append, List.length_cons, List.length_nil, List.replicate_succ, List.replicate_zero, List.set_cons_zero, List.set_cons_succ, List.getElem?_cons_zero, List.getElem?_cons_succ, Option.some.injEq, Option.map_some, exists_eq_left', exists_eq_left, T.bl.injEq, T.int.injEq, T.str.injEq, T.tup.injEq, T.lst.injEq, T.ref.injEq, List.cons.injEq, and_true, true_and, res, wipeT, sp1_at, sp2_at, sp3_at, sp4_at, sp5_at, Nat.reduceAdd, Nat.reduceSub, if_true, if_false, Bool.false_eq_true, Bool.true_eq_false, ex_ite, addT_int, addT_str, addT_lst, addT_tup, subT_int, mulT2_int, mulT2_str, fdivT_int, modT_int, powT_int, negT_int, eqT_int, neT_int, eqT_str, neT_str, eqT_bl, neT_bl, ltT_int, gtT_int, leT_int, geT_int, ixT_lst, ixT_tup, ixT_str, atI_0, atI_1, atI_2, atI_3, ixT_ups, lenF_ups, ixN_30, ixN_31, ixN_32, lenF_lst, lenF_tup, lenF_str, absF_int, intF_int, intF_bl, max2F_int, min2F_int, strF_int, isi_str, isi_int, isi_tup, isi_lst, slT_lst, slT_tup, slT_str, slT_scr, ssetT_lst, ssetT_tup, slenT_lst, slenT_tup, sortedF_lst, sortedF_tup, tupleF_lst, tupleF_tup, listF_lst, listF_tup, inT_strs, ninT_strs, ups_ups, ups_same, decide_eq_true_eq, Cell.lst.injEq, Option.map_eq_some_iff, exists_and_left, exists_const, Bool.not_eq_true', m1, m2, m3, m4, m5, hp, e1, e2, e3, e4, e5, e6, e7, e8, ft, if_false, t18, List.length_map]
    by_cases b1 : at_ < (ns.length : Int)
    · rw [if_pos b1] at hq ⊢
      by_cases b2 : 10 ^ 18 ≤ absI (cellAt ns at_)
      · rw [if_pos b2] at hq
        have b3 : 10 ^ 18 ≤ (if cellAt ns at_ < 0 then -(cellAt ns at_) else cellAt ns at_) := b2
        rw [if_pos b3]
        exact Fin.of hq
      · rw [if_neg b2] at hq
        have b3 : ¬ 10 ^ 18 ≤ (if cellAt ns at_ < 0 then -(cellAt ns at_) else cellAt ns at_) := b2
        rw [if_neg b3]
        exact Fin.of hq
    · rw [if_neg b1] at hq ⊢
      exact Fin.of hq
  · rw [if_neg l]
    have ll : ¬ 0 < ns.length := by rw [List.length_map] at l; omega
    have b1 : ¬ at_ < (ns.length : Int) := by omega
    have ez : cellAt ns at_ = 11 := by unfold cellAt; rw [if_neg ll]
    rw [if_neg b1, ez] at hq
    simp only [cSeq, cSkip, cRet, cRetN, cSet, cAsg, cDo, cIfS, cPar2, cPar3, cBrk, cCont, cVar, cC, cOp, cUn, cIf, cNil, cCons, cTup, cLst, cLstM, bVal, bAnd, bOr, bNot, bYes, cAnd, cOr, cNot, cCall, cFn, cM, cSl, oNo, oSome, cChain, gN, gT, gL, gZ, gC, gIx, cApp, cExt, cPop, cClr, TL.startT, List.map_cons, List.map_nil, List.cons_append, List.nil_append, List.length_cons, List.length_nil, List.replicate_succ, List.replicate_zero, List.set_cons_zero, List.set_cons_succ, List.getElem?_cons_zero, List.getElem?_cons_succ, Option.some.injEq, Option.map_some, exists_eq_left', exists_eq_left, T.bl.injEq, T.int.injEq, T.str.injEq, T.tup.injEq, T.lst.injEq, T.ref.injEq, List.cons.injEq, and_true, true_and, res, wipeT, sp1_at, sp2_at, sp3_at, sp4_at, sp5_at, Nat.reduceAdd, Nat.reduceSub, if_true, if_false, Bool.false_eq_true, Bool.true_eq_false, ex_ite, addT_int, addT_str, addT_lst, addT_tup, subT_int, mulT2_int, mulT2_str, fdivT_int, modT_int, powT_int, negT_int, eqT_int, neT_int, eqT_str, neT_str, eqT_bl, neT_bl, ltT_int, gtT_int, leT_int, geT_int, ixT_lst, ixT_tup, ixT_str, atI_0, atI_1, atI_2, atI_3, ixT_ups, lenF_ups, ixN_30, ixN_31, ixN_32, lenF_lst, lenF_tup, lenF_str, absF_int, intF_int, intF_bl, max2F_int, min2F_int, strF_int, isi_str, isi_int, isi_tup, isi_lst, slT_lst, slT_tup, slT_str, slT_scr, ssetT_lst, ssetT_tup, slenT_lst, slenT_tup, sortedF_lst, sortedF_tup, tupleF_lst, tupleF_tup, listF_lst, listF_tup, inT_strs, ninT_strs, ups_ups, ups_same, decide_eq_true_eq, Cell.lst.injEq, Option.map_eq_some_iff, exists_and_left, exists_const, Bool.not_eq_true', m1, m2, m3, m4, m5, hp, e1, e2, e3, e4, e5, e6, e7, e8, ft, if_false, t18, List.length_map]
    rw [if_neg b1]
    exact Fin.of hq
def N_law_are_same : List Str := ["_law_found", "_law_due", "_law_one", "_law_other"]
def r_law_are_same : Nat → T → T → PM Unit T
  | 0, _, _ => stuck
  | n + 1, p_found, p_due => bd (bd (bd (pu p_due) fun v1 => ofO (isiT [.lst, .tup] emp v1)) tb) fun v2 => if v2 = true then bd (bd (bd (bd (bd (pu p_found) fun v7 => ofO (isiT [.lst, .tup] emp v7)) tb) fun v8 => pu !v8) fun v9 => if v9 = true then pu true else (bd (bd (bd (pu p_found) fun v3 => ofO (isiT [.lst] emp v3)) fun v5 => bd (bd (pu p_due) fun v4 => ofO (isiT [.lst] emp v4)) fun v6 => ofO (neT emp v5 v6)) tb)) fun v10 => if v10 = true then bd (pu (.bl false)) fun v11 => pu v11 else bd (bd (bd (bd (pu p_found) fun v12 => ofO (lenF emp [v12])) fun v14 => bd (bd (pu p_due) fun v13 => ofO (lenF emp [v13])) fun v15 => ofO (neT emp v14 v15)) tb) fun v16 => if v16 = true then bd (pu (.bl false)) fun v17 => pu v17 else bd (bd (bd (bd (pu p_found) fun v18 => bd (pu p_due) fun v19 => zipM v18 v19) fun xs25 => bd (compG (fun x20 => bd (ofO (un2 x20)) fun b21 => bd (bd (pu b21.1) fun v22 => bd (pu b21.2) fun v23 => lft (r_law_are_same n v22 v23)) fun v24 => pu (some v24)) xs25) fun ys26 => pu (.lst ys26)) fun v27 => ofO (allF emp [v27])) fun v28 => pu v28 else bd (bd (bd (bd (bd (pu p_found) fun v33 => ofO (isiT [.bool] emp v33)) fun v35 => bd (bd (pu p_due) fun v34 => ofO (isiT [.bool] emp v34)) fun v36 => ofO (neT emp v35 v36)) tb) fun v37 => if v37 = true then pu true else (bd (bd (bd (pu p_found) fun v29 => ofO (isiT [.str] emp v29)) fun v31 => bd (bd (pu p_due) fun v30 => ofO (isiT [.str] emp v30)) fun v32 => ofO (neT emp v31 v32)) tb)) fun v38 => if v38 = true then bd (pu (.bl false)) fun v39 => pu v39 else bd (bd (bd (bd (pu p_found) fun v42 => ofO (isiT [.int] emp v42)) fun v44 => bd (bd (pu p_due) fun v43 => ofO (isiT [.int] emp v43)) fun v45 => ofO (eqT emp v44 v45)) fun v46 => bd (tb v46) fun v47 => if v47 = true then (bd (pu p_found) fun v40 => bd (pu p_due) fun v41 => ofO (eqT emp v40 v41)) else pu (.bl false)) fun v48 => pu v48
def rp_law_are_same (n : Nat) : SpT := spU (u2 (r_law_are_same n))
def c_law_are_same (n : Nat) : TTS :=
  (cSeq (cIfS (bVal (cUn (isiT [.lst, .tup]) (cVar 1))) (cSeq (cIfS (bOr (bNot (bVal (cUn (isiT [.lst, .tup]) (cVar 0)))) (bVal (cOp neT (cUn (isiT [.lst]) (cVar 0)) (cUn (isiT [.lst]) (cVar 1))))) (cSeq (cRet (cC (.bl false)))
    cSkip) cSkip)
    (cSeq (cIfS (bVal (cOp neT (cFn lenF (cCons (cVar 0) cNil)) (cFn lenF (cCons (cVar 1) cNil)))) (cSeq (cRet (cC (.bl false)))
    cSkip) cSkip)
    (cSeq (cRet (cFn allF (cCons (cComp (iZip (cVar 0) (cVar 1)) (gT (gC (gN 2) (gC (gN 3) gZ))) bYes (cCall (rp_law_are_same n) (cCons (cVar 2) (cCons (cVar 3) cNil))) [2, 3]) cNil)))
    cSkip))) cSkip)
    (cSeq (cIfS (bOr (bVal (cOp neT (cUn (isiT [.bool]) (cVar 0)) (cUn (isiT [.bool]) (cVar 1)))) (bVal (cOp neT (cUn (isiT [.str]) (cVar 0)) (cUn (isiT [.str]) (cVar 1))))) (cSeq (cRet (cC (.bl false)))
    cSkip) cSkip)
    (cSeq (cRet (cAnd (cOp eqT (cUn (isiT [.int]) (cVar 0)) (cUn (isiT [.int]) (cVar 1))) (cOp eqT (cVar 0) (cVar 1))))
    cSkip)))
theorem x_law_are_same (S : Sto) (n : Nat) (p_found p_due : T) : XS (fun _ : Unit => S) [some p_found, some p_due, none, none] [] (c_law_are_same n) (r_law_are_same (n + 1) p_found p_due) .rt :=
  (xs_ifE (xb_val (xe_un unv_isiT (XE.v (xe_var rfl)))) (xs_assoc (xs_ifE (xb_or (xb_not (xb_val (xe_un unv_isiT (XE.v (xe_var rfl))))) (xb_val (xe_op opv_neT (XE.v (xe_un unv_isiT (XE.v (xe_var rfl)))) (XE.v (xe_un unv_isiT (XE.v (xe_var rfl))))))) (xs_assoc (xs_ret (g := fun v => v) (fun _ => rfl) (XE.v xe_c))) (xs_skipseq (xs_assoc (xs_ifE (xb_val (xe_op opv_neT (XE.v (xe_fn fnv_lenF (xav_cons (XE.v (xe_var rfl)) xav_nil))) (XE.v (xe_fn fnv_lenF (xav_cons (XE.v (xe_var rfl)) xav_nil))))) (xs_assoc (xs_ret (g := fun v => v) (fun _ => rfl) (XE.v xe_c))) (xs_skipseq (xs_assoc (xs_ret (g := fun v => v) (fun _ => rfl) (XE.v (xe_fn fnv_allF (xav_cons (XE.v (xe_comp (XIy.i (xiy_zip (xe_var rfl) (xe_var rfl))) (fun x20 => xc_unY xg_2 fun b21 => (xe_call (xa_cons (xe_var rfl) (xa_cons (xe_var rfl) xa_nil)))))) xav_nil))))))))))) (xs_skipseq (xs_ifE (xb_or (xb_val (xe_op opv_neT (XE.v (xe_un unv_isiT (XE.v (xe_var rfl)))) (XE.v (xe_un unv_isiT (XE.v (xe_var rfl)))))) (xb_val (xe_op opv_neT (XE.v (xe_un unv_isiT (XE.v (xe_var rfl)))) (XE.v (xe_un unv_isiT (XE.v (xe_var rfl))))))) (xs_assoc (xs_ret (g := fun v => v) (fun _ => rfl) (XE.v xe_c))) (xs_skipseq (xs_ret (g := fun v => v) (fun _ => rfl) (XE.v (xe_and (xe_op opv_eqT (XE.v (xe_un unv_isiT (XE.v (xe_var rfl)))) (XE.v (xe_un unv_isiT (XE.v (xe_var rfl))))) (xe_op opv_eqT (XE.v (xe_var rfl)) (XE.v (xe_var rfl))))))))))
theorem len_law_are_same (n : Nat) : ∀ ts S Q E, rp_law_are_same n ts S Q E → ts.length = 2 := spU_len ar2
theorem vc_law_are_same (n : Nat) : VC N_law_are_same (rp_law_are_same (n + 1)) (c_law_are_same n) := vc_u2 fun S p_found p_due => x_law_are_same S n p_found p_due
def m_law_are_same (p_found p_due : T) : PM Unit T := r_law_are_same 12 p_found p_due
def sp_law_are_same : SpT := spU (u2 m_law_are_same)
def N_law_fault_of : List Str := ["_law_e", "_law_found", "_law_words", "_law_word", "_law_one"]
def c_law_fault_of : TTS :=
  (cSeq (cSet 1 (cLst (cCons (cUn (isxT (tabB is_NoBook)) (cVar 0)) (cCons (cUn (isxT (tabB is_NoRow)) (cVar 0)) (cCons (cUn (isxT (tabB is_NoName)) (cVar 0)) (cCons (cUn (isxT (tabB is_Known)) (cVar 0)) cNil))))))
    (cSeq (cSet 1 (cOp addT (cVar 1) (cLst (cCons (cUn (isxT (tabB is_Unknown)) (cVar 0)) (cCons (cUn (isxT (tabB is_InUse)) (cVar 0)) (cCons (cUn (isxT (tabB is_TooMuch)) (cVar 0)) (cCons (cUn (isxT (tabB is_NoText)) (cVar 0)) cNil)))))))
    (cSeq (cSet 1 (cOp addT (cVar 1) (cLst (cCons (cUn (isxT (tabB is_TooMany)) (cVar 0)) (cCons (cUn (isxT (tabB is_NoReading)) (cVar 0)) (cCons (cUn (isxT (tabB is_NoRows)) (cVar 0)) (cCons (cUn (isxT (tabB is_NoDrawing)) (cVar 0)) cNil)))))))
    (cSeq (cSet 1 (cAddM (cVar 1) (cLst (cCons (cUn (isxT (tabB is_NoPicture)) (cVar 0)) (cCons (cUn (isxT (tabB is_NoPairs)) (cVar 0)) (cCons (cUn (isxT (tabB is_Twice)) (cVar 0)) (cCons (cUn (isxT (tabB is_Marks)) (cVar 0)) cNil)))))))
    (cSeq (cDo (cApp (cVar 1) (cUn (isxT (tabB is_NotPlain)) (cVar 0))))
    (cDrop (cSeq (cSet 2 (cLst (cCons (cC (.str (q "book"))) (cCons (cC (.str (q "row"))) (cCons (cC (.str (q "name"))) (cCons (cC (.str (q "known"))) (cCons (cC (.str (q "unknown"))) (cCons (cC (.str (q "use"))) (cCons (cC (.str (q "much"))) (cCons (cC (.str (q "text"))) (cCons (cC (.str (q "many"))) (cCons (cC (.str (q "reading"))) (cCons (cC (.str (q "rows"))) (cCons (cC (.str (q "drawing"))) cNil))))))))))))))
    (cSeq (cSet 2 (cComp (iZip (cOp addT (cVar 2) (cLst (cCons (cC (.str (q "picture"))) (cCons (cC (.str (q "pairs"))) (cCons (cC (.str (q "twice"))) (cCons (cC (.str (q "marks"))) (cCons (cC (.str (q "plain"))) cNil))))))) (cVar 1)) (gT (gC (gN 3) (gC (gN 4) gZ))) (bVal (cVar 4)) (cVar 3) [3, 4]))
    (cSeq (cIfS (bOr (bVal (cOp neT (cFn lenF (cCons (cVar 2) cNil)) (cC (.int 1)))) (bNot (bVal (cUn (isxT (tabB is_ValueError)) (cVar 0))))) (cSeq (cRet (cTup cNil))
    cSkip) cSkip)
    (cSeq (cRet (cTup (cCons (cOp ixT (cVar 2) (cC (.int 0))) cNil)))
    cSkip))))))))))
def m_law_fault_of (p_e : T) : PM Unit T :=
  bd (bd (bd (pu p_e) fun v1 => ofO (isxT (tabB is_NoBook) emp v1)) fun v5 => bd (bd (pu p_e) fun v2 => ofO (isxT (tabB is_NoRow) emp v2)) fun v6 => bd (bd (pu p_e) fun v3 => ofO (isxT (tabB is_NoName) emp v3)) fun v7 => bd (bd (pu p_e) fun v4 => ofO (isxT (tabB is_Known) emp v4)) fun v8 => pu (.lst [v5, v6, v7, v8])) fun v9 => bd (bd (pu v9) fun v19 => bd (bd (bd (pu p_e) fun v11 => ofO (isxT (tabB is_Unknown) emp v11)) fun v15 => bd (bd (pu p_e) fun v12 => ofO (isxT (tabB is_InUse) emp v12)) fun v16 => bd (bd (pu p_e) fun v13 => ofO (isxT (tabB is_TooMuch) emp v13)) fun v17 => bd (bd (pu p_e) fun v14 => ofO (isxT (tabB is_NoText) emp v14)) fun v18 => pu (.lst [v15, v16, v17, v18])) fun v20 => ofO (addT emp v19 v20)) fun v21 => bd (bd (pu v21) fun v31 => bd (bd (bd (pu p_e) fun v23 => ofO (isxT (tabB is_TooMany) emp v23)) fun v27 => bd (bd (pu p_e) fun v24 => ofO (isxT (tabB is_NoReading) emp v24)) fun v28 => bd (bd (pu p_e) fun v25 => ofO (isxT (tabB is_NoRows) emp v25)) fun v29 => bd (bd (pu p_e) fun v26 => ofO (isxT (tabB is_NoDrawing) emp v26)) fun v30 => pu (.lst [v27, v28, v29, v30])) fun v32 => ofO (addT emp v31 v32)) fun v33 => bd (bd (pu v33) fun v43 => bd (bd (bd (pu p_e) fun v35 => ofO (isxT (tabB is_NoPicture) emp v35)) fun v39 => bd (bd (pu p_e) fun v36 => ofO (isxT (tabB is_NoPairs) emp v36)) fun v40 => bd (bd (pu p_e) fun v37 => ofO (isxT (tabB is_Twice) emp v37)) fun v41 => bd (bd (pu p_e) fun v38 => ofO (isxT (tabB is_Marks) emp v38)) fun v42 => pu (.lst [v39, v40, v41, v42])) fun v44 => catM v43 v44) fun ys45 => bd (bd (pu p_e) fun v49 => ofO (isxT (tabB is_NotPlain) emp v49)) fun v48 => bd (appM ys45 v48) fun ys47 => bd (bd (pu (.str (q "book"))) fun v50 => bd (pu (.str (q "row"))) fun v51 => bd (pu (.str (q "name"))) fun v52 => bd (pu (.str (q "known"))) fun v53 => bd (pu (.str (q "unknown"))) fun v54 => bd (pu (.str (q "use"))) fun v55 => bd (pu (.str (q "much"))) fun v56 => bd (pu (.str (q "text"))) fun v57 => bd (pu (.str (q "many"))) fun v58 => bd (pu (.str (q "reading"))) fun v59 => bd (pu (.str (q "rows"))) fun v60 => bd (pu (.str (q "drawing"))) fun v61 => pu (.lst [v50, v51, v52, v53, v54, v55, v56, v57, v58, v59, v60, v61])) fun v62 => bd (bd (bd (bd (pu v62) fun v69 => bd (bd (pu (.str (q "picture"))) fun v64 => bd (pu (.str (q "pairs"))) fun v65 => bd (pu (.str (q "twice"))) fun v66 => bd (pu (.str (q "marks"))) fun v67 => bd (pu (.str (q "plain"))) fun v68 => pu (.lst [v64, v65, v66, v67, v68])) fun v70 => ofO (addT emp v69 v70)) fun v71 => bd (pu (.lst ys47)) fun v72 => zipM v71 v72) fun xs77 => bd (compG (fun x73 => bd (ofO (un2 x73)) fun b74 => bd (bd (pu b74.2) tb) fun v76 => if v76 = true then bd (pu b74.1) fun v75 => pu (some v75) else pu none) xs77) fun ys78 => pu (.lst ys78)) fun v79 => bd (bd (bd (bd (bd (pu v79) fun v83 => ofO (lenF emp [v83])) fun v84 => bd (pu (.int 1)) fun v85 => ofO (neT emp v84 v85)) tb) fun v86 => if v86 = true then pu true else (bd (bd (bd (pu p_e) fun v81 => ofO (isxT (tabB is_ValueError) emp v81)) tb) fun v82 => pu !v82)) fun v87 => if v87 = true then bd (pu (.tup [])) fun v88 => pu v88 else bd (bd (bd (pu v79) fun v89 => bd (pu (.int 0)) fun v90 => ofO (ixT emp v89 v90)) fun v91 => pu (.tup [v91])) fun v92 => pu v92
theorem x_law_fault_of (S : Sto) (p_e : T) : XS (fun _ : Unit => S) [some p_e, none, none, none, none] [] c_law_fault_of (m_law_fault_of p_e) .rt :=
  (xs_set (xe_lst (xa_cons (xe_un unv_isxT (XE.v (xe_var rfl))) (xa_cons (xe_un unv_isxT (XE.v (xe_var rfl))) (xa_cons (xe_un unv_isxT (XE.v (xe_var rfl))) (xa_cons (xe_un unv_isxT (XE.v (xe_var rfl))) xa_nil))))) fun v9 => (xs_set (xe_op opv_addT (XE.v (xe_var rfl)) (XE.v (xe_lst (xa_cons (xe_un unv_isxT (XE.v (xe_var rfl))) (xa_cons (xe_un unv_isxT (XE.v (xe_var rfl))) (xa_cons (xe_un unv_isxT (XE.v (xe_var rfl))) (xa_cons (xe_un unv_isxT (XE.v (xe_var rfl))) xa_nil))))))) fun v21 => (xs_set (xe_op opv_addT (XE.v (xe_var rfl)) (XE.v (xe_lst (xa_cons (xe_un unv_isxT (XE.v (xe_var rfl))) (xa_cons (xe_un unv_isxT (XE.v (xe_var rfl))) (xa_cons (xe_un unv_isxT (XE.v (xe_var rfl))) (xa_cons (xe_un unv_isxT (XE.v (xe_var rfl))) xa_nil))))))) fun v33 => (xs_new (xn_addM (XE.v (xe_var rfl)) (XE.v (xe_lst (xa_cons (xe_un unv_isxT (XE.v (xe_var rfl))) (xa_cons (xe_un unv_isxT (XE.v (xe_var rfl))) (xa_cons (xe_un unv_isxT (XE.v (xe_var rfl))) (xa_cons (xe_un unv_isxT (XE.v (xe_var rfl))) xa_nil))))))) fun ys45 a46 => (xs_app (l1 := []) (l2 := []) rfl (xe_un unv_isxT (XE.v (xe_var rfl))) fun ys47 => (xs_drop (i := 1) (l1 := []) (l2 := []) rfl (xs_set (xe_lst (xa_cons xe_c (xa_cons xe_c (xa_cons xe_c (xa_cons xe_c (xa_cons xe_c (xa_cons xe_c (xa_cons xe_c (xa_cons xe_c (xa_cons xe_c (xa_cons xe_c (xa_cons xe_c (xa_cons xe_c xa_nil))))))))))))) fun v62 => (xs_set (xe_comp (XIy.i (xiy_zip (xe_op opv_addT (XE.v (xe_var rfl)) (XE.v (xe_lst (xa_cons xe_c (xa_cons xe_c (xa_cons xe_c (xa_cons xe_c (xa_cons xe_c xa_nil)))))))) (xe_var rfl))) (fun x73 => xc_un xg_2 (fun b74 => (xb_val (xe_var rfl))) fun b74 => (xe_var rfl))) fun v79 => (xs_ifE (xb_or (xb_val (xe_op opv_neT (XE.v (xe_fn fnv_lenF (xav_cons (XE.v (xe_var rfl)) xav_nil))) (XE.v xe_c))) (xb_not (xb_val (xe_un unv_isxT (XE.v (xe_var rfl)))))) (xs_assoc (xs_ret (g := fun v => v) (fun _ => rfl) (XE.v (xe_tup xa_nil)))) (xs_skipseq (xs_ret (g := fun v => v) (fun _ => rfl) (XE.v (xe_tup (xa_cons (xe_op opv_ixT (XE.v (xe_var rfl)) (XE.v xe_c)) xa_nil))))))))))))))
def sp_law_fault_of : SpT := spU (u1 m_law_fault_of)
theorem len_law_fault_of : ∀ ts S Q E, sp_law_fault_of ts S Q E → ts.length = 1 := spU_len ar1
theorem vc_law_fault_of : VC N_law_fault_of sp_law_fault_of c_law_fault_of := vc_u1 x_law_fault_of
def N_law_made : List Str := ["_law_pen", "_law_word", "_law_number", "_law_ring", "_law_found", "_law_k"]
def c_law_made : TTS :=
  (cSeq (cSet 1 (cM isStr joinF (cC (.str (q ""))) (cCons (cComp (iRange1 (cOp addT (cC (.int 1)) (cCall sp_law_draw (cCons (cVar 0) (cCons (cC (.int 8)) cNil))))) (gN 5) bYes (cOp ixT (cC (.str (q "abcdefghijklmnopqrstuvwxyz"))) (cCall sp_law_draw (cCons (cVar 0) (cCons (cC (.int 26)) cNil)))) [5]) cNil)))
    (cSeq (cSet 2 (cCall sp_law_draw (cCons (cVar 0) (cCons (cOp ixT (cLst (cCons (cC (.int 10)) (cCons (cOp powT (cC (.int 10)) (cC (.int 30))) cNil))) (cCall sp_law_draw (cCons (cVar 0) (cCons (cC (.int 2)) cNil)))) cNil))))
    (cSeq (cSet 3 (cTup (cCons (cTup (cCons (cC (.str (q "child"))) (cCons (cVar 1) (cCons (cC (.str (q "b"))) cNil)))) (cCons (cTup (cCons (cC (.str (q "union"))) (cCons (cC (.str (q "b"))) (cCons (cVar 1) cNil)))) cNil))))
    (cSeq (cSet 4 (cLst (cCons (cTup (cCons (cMkX "NoBook" ["word", "number"] (cCons (cVar 1) (cCons (cVar 2) cNil))) (cCons (cLst (cCons (cTup (cCons (cC (.str (q "word"))) (cCons (cVar 1) cNil))) (cCons (cTup (cCons (cC (.str (q "number"))) (cCons (cVar 2) cNil))) cNil))) cNil))) (cCons (cTup (cCons (cMkX "NoRow" [] cNil) (cCons (cLst cNil) cNil))) cNil))))
    (cSeq (cSet 4 (cOp addT (cVar 4) (cLst (cCons (cTup (cCons (cMkX "NoName" ["name"] (cCons (cVar 1) cNil)) (cCons (cLst (cCons (cTup (cCons (cC (.str (q "name"))) (cCons (cVar 1) cNil))) cNil)) cNil))) (cCons (cTup (cCons (cMkX "Known" [] cNil) (cCons (cLst cNil) cNil))) (cCons (cTup (cCons (cMkX "Unknown" [] cNil) (cCons (cLst cNil) cNil))) (cCons (cTup (cCons (cMkX "InUse" [] cNil) (cCons (cLst cNil) cNil))) (cCons (cTup (cCons (cMkX "TooMuch" [] cNil) (cCons (cLst cNil) cNil))) cNil))))))))
    (cSeq (cSet 4 (cOp addT (cVar 4) (cLst (cCons (cTup (cCons (cMkX "NoText" ["line"] (cCons (cVar 2) cNil)) (cCons (cLst (cCons (cTup (cCons (cC (.str (q "line"))) (cCons (cVar 2) cNil))) cNil)) cNil))) (cCons (cTup (cCons (cMkX "TooMany" [] cNil) (cCons (cLst cNil) cNil))) (cCons (cTup (cCons (cMkX "NoReading" [] cNil) (cCons (cLst cNil) cNil))) cNil))))))
    (cSeq (cSet 4 (cOp addT (cVar 4) (cLst (cCons (cTup (cCons (cMkX "NoRows" ["ring"] (cCons (cVar 3) cNil)) (cCons (cLst (cCons (cTup (cCons (cC (.str (q "ring"))) (cCons (cVar 3) cNil))) cNil)) cNil))) (cCons (cTup (cCons (cMkX "NoDrawing" [] cNil) (cCons (cLst cNil) cNil))) (cCons (cTup (cCons (cMkX "NoPicture" [] cNil) (cCons (cLst cNil) cNil))) (cCons (cTup (cCons (cMkX "NoPairs" [] cNil) (cCons (cLst cNil) cNil))) cNil)))))))
    (cSeq (cRet (cOp addT (cVar 4) (cLst (cCons (cTup (cCons (cMkX "Twice" ["name"] (cCons (cVar 1) cNil)) (cCons (cLst (cCons (cTup (cCons (cC (.str (q "name"))) (cCons (cVar 1) cNil))) cNil)) cNil))) (cCons (cTup (cCons (cMkX "Marks" ["name"] (cCons (cVar 1) cNil)) (cCons (cLst (cCons (cTup (cCons (cC (.str (q "name"))) (cCons (cVar 1) cNil))) cNil)) cNil))) (cCons (cTup (cCons (cMkX "NotPlain" [] cNil) (cCons (cLst cNil) cNil))) cNil))))))
    cSkip))))))))
def m_law_made : PM Cell T :=
  bd (bd (pu (.str (q ""))) fun v1 => bd (gd (isStr v1 = true)) fun _ => (bd (bd (bd (bd (pu (.int 1)) fun v3 => bd (bd (pu (.int 8)) fun v2 => m_law_draw v2) fun v4 => ofO (addT emp v3 v4)) rng1) fun xs10 => bd (compG (fun x5 => bd (bd (pu (.str (q "abcdefghijklmnopqrstuvwxyz"))) fun v7 => bd (bd (pu (.int 26)) fun v6 => m_law_draw v6) fun v8 => ofO (ixT emp v7 v8)) fun v9 => pu (some v9)) xs10) fun ys11 => pu (.lst ys11)) fun v12 => ofO (joinF emp v1 [v12]))) fun v13 => bd (bd (bd (bd (pu (.int 10)) fun v17 => bd (bd (pu (.int 10)) fun v15 => bd (pu (.int 30)) fun v16 => ofO (powT emp v15 v16)) fun v18 => pu (.lst [v17, v18])) fun v20 => bd (bd (pu (.int 2)) fun v19 => m_law_draw v19) fun v21 => ofO (ixT emp v20 v21)) fun v22 => m_law_draw v22) fun v23 => bd (bd (bd (pu (.str (q "child"))) fun v25 => bd (pu v13) fun v26 => bd (pu (.str (q "b"))) fun v27 => pu (.tup [v25, v26, v27])) fun v31 => bd (bd (pu (.str (q "union"))) fun v28 => bd (pu (.str (q "b"))) fun v29 => bd (pu v13) fun v30 => pu (.tup [v28, v29, v30])) fun v32 => pu (.tup [v31, v32])) fun v33 => bd (bd (bd (bd (pu v13) fun v35 => bd (pu v23) fun v36 => pu (.exc "NoBook" ["number", "word"] [v36, v35])) fun v43 => bd (bd (bd (pu (.str (q "word"))) fun v37 => bd (pu v13) fun v38 => pu (.tup [v37, v38])) fun v41 => bd (bd (pu (.str (q "number"))) fun v39 => bd (pu v23) fun v40 => pu (.tup [v39, v40])) fun v42 => pu (.lst [v41, v42])) fun v44 => pu (.tup [v43, v44])) fun v47 => bd (bd (pu (.exc "NoRow" [] [])) fun v45 => bd ((pu (.lst []) : PM _ T)) fun v46 => pu (.tup [v45, v46])) fun v48 => pu (.lst [v47, v48])) fun v49 => bd (bd (pu v49) fun v70 => bd (bd (bd (bd (pu v13) fun v51 => pu (.exc "NoName" ["name"] [v51])) fun v55 => bd (bd (bd (pu (.str (q "name"))) fun v52 => bd (pu v13) fun v53 => pu (.tup [v52, v53])) fun v54 => pu (.lst [v54])) fun v56 => pu (.tup [v55, v56])) fun v65 => bd (bd (pu (.exc "Known" [] [])) fun v57 => bd ((pu (.lst []) : PM _ T)) fun v58 => pu (.tup [v57, v58])) fun v66 => bd (bd (pu (.exc "Unknown" [] [])) fun v59 => bd ((pu (.lst []) : PM _ T)) fun v60 => pu (.tup [v59, v60])) fun v67 => bd (bd (pu (.exc "InUse" [] [])) fun v61 => bd ((pu (.lst []) : PM _ T)) fun v62 => pu (.tup [v61, v62])) fun v68 => bd (bd (pu (.exc "TooMuch" [] [])) fun v63 => bd ((pu (.lst []) : PM _ T)) fun v64 => pu (.tup [v63, v64])) fun v69 => pu (.lst [v65, v66, v67, v68, v69])) fun v71 => ofO (addT emp v70 v71)) fun v72 => bd (bd (pu v72) fun v87 => bd (bd (bd (bd (pu v23) fun v74 => pu (.exc "NoText" ["line"] [v74])) fun v78 => bd (bd (bd (pu (.str (q "line"))) fun v75 => bd (pu v23) fun v76 => pu (.tup [v75, v76])) fun v77 => pu (.lst [v77])) fun v79 => pu (.tup [v78, v79])) fun v84 => bd (bd (pu (.exc "TooMany" [] [])) fun v80 => bd ((pu (.lst []) : PM _ T)) fun v81 => pu (.tup [v80, v81])) fun v85 => bd (bd (pu (.exc "NoReading" [] [])) fun v82 => bd ((pu (.lst []) : PM _ T)) fun v83 => pu (.tup [v82, v83])) fun v86 => pu (.lst [v84, v85, v86])) fun v88 => ofO (addT emp v87 v88)) fun v89 => bd (bd (pu v89) fun v107 => bd (bd (bd (bd (pu v33) fun v91 => pu (.exc "NoRows" ["ring"] [v91])) fun v95 => bd (bd (bd (pu (.str (q "ring"))) fun v92 => bd (pu v33) fun v93 => pu (.tup [v92, v93])) fun v94 => pu (.lst [v94])) fun v96 => pu (.tup [v95, v96])) fun v103 => bd (bd (pu (.exc "NoDrawing" [] [])) fun v97 => bd ((pu (.lst []) : PM _ T)) fun v98 => pu (.tup [v97, v98])) fun v104 => bd (bd (pu (.exc "NoPicture" [] [])) fun v99 => bd ((pu (.lst []) : PM _ T)) fun v100 => pu (.tup [v99, v100])) fun v105 => bd (bd (pu (.exc "NoPairs" [] [])) fun v101 => bd ((pu (.lst []) : PM _ T)) fun v102 => pu (.tup [v101, v102])) fun v106 => pu (.lst [v103, v104, v105, v106])) fun v108 => ofO (addT emp v107 v108)) fun v109 => bd (bd (pu v109) fun v128 => bd (bd (bd (bd (pu v13) fun v111 => pu (.exc "Twice" ["name"] [v111])) fun v115 => bd (bd (bd (pu (.str (q "name"))) fun v112 => bd (pu v13) fun v113 => pu (.tup [v112, v113])) fun v114 => pu (.lst [v114])) fun v116 => pu (.tup [v115, v116])) fun v125 => bd (bd (bd (pu v13) fun v117 => pu (.exc "Marks" ["name"] [v117])) fun v121 => bd (bd (bd (pu (.str (q "name"))) fun v118 => bd (pu v13) fun v119 => pu (.tup [v118, v119])) fun v120 => pu (.lst [v120])) fun v122 => pu (.tup [v121, v122])) fun v126 => bd (bd (pu (.exc "NotPlain" [] [])) fun v123 => bd ((pu (.lst []) : PM _ T)) fun v124 => pu (.tup [v123, v124])) fun v127 => pu (.lst [v125, v126, v127])) fun v129 => ofO (addT emp v128 v129)) fun v130 => pu v130
theorem x_law_made (S : Sto) (pa : Addr) : XS (penW S pa) [some (.ref pa), none, none, none, none, none] [] c_law_made (m_law_made) .rt :=
  (xs_set (xe_m mtv_joinF xe_c fun v1 => (xav_cons (XE.v (xe_comp (XIy.i (xiy_range1 (xe_op opv_addT (XE.v xe_c) (XE.v (xe_callP rfl (xa_cons xe_c xa_nil)))))) (fun x5 => xc_nameY (xe_op opv_ixT (XE.v xe_c) (XE.v (xe_callP rfl (xa_cons xe_c xa_nil))))))) xav_nil)) fun v13 => (xs_set (xe_callP rfl (xa_cons (xe_op opv_ixT (XE.v (xe_lst (xa_cons xe_c (xa_cons (xe_op opv_powT (XE.v xe_c) (XE.v xe_c)) xa_nil)))) (XE.v (xe_callP rfl (xa_cons xe_c xa_nil)))) xa_nil)) fun v23 => (xs_set (xe_tup (xa_cons (xe_tup (xa_cons xe_c (xa_cons (xe_var rfl) (xa_cons xe_c xa_nil)))) (xa_cons (xe_tup (xa_cons xe_c (xa_cons xe_c (xa_cons (xe_var rfl) xa_nil)))) xa_nil))) fun v33 => (xs_set (xe_lst (xa_cons (xe_tup (xa_cons (xe_mkX (xa_cons (xe_var rfl) (xa_cons (xe_var rfl) xa_nil))) (xa_cons (xe_lst (xa_cons (xe_tup (xa_cons xe_c (xa_cons (xe_var rfl) xa_nil))) (xa_cons (xe_tup (xa_cons xe_c (xa_cons (xe_var rfl) xa_nil))) xa_nil))) xa_nil))) (xa_cons (xe_tup (xa_cons (xe_mkX xa_nil) (xa_cons (xe_lst xa_nil) xa_nil))) xa_nil))) fun v49 => (xs_set (xe_op opv_addT (XE.v (xe_var rfl)) (XE.v (xe_lst (xa_cons (xe_tup (xa_cons (xe_mkX (xa_cons (xe_var rfl) xa_nil)) (xa_cons (xe_lst (xa_cons (xe_tup (xa_cons xe_c (xa_cons (xe_var rfl) xa_nil))) xa_nil)) xa_nil))) (xa_cons (xe_tup (xa_cons (xe_mkX xa_nil) (xa_cons (xe_lst xa_nil) xa_nil))) (xa_cons (xe_tup (xa_cons (xe_mkX xa_nil) (xa_cons (xe_lst xa_nil) xa_nil))) (xa_cons (xe_tup (xa_cons (xe_mkX xa_nil) (xa_cons (xe_lst xa_nil) xa_nil))) (xa_cons (xe_tup (xa_cons (xe_mkX xa_nil) (xa_cons (xe_lst xa_nil) xa_nil))) xa_nil)))))))) fun v72 => (xs_set (xe_op opv_addT (XE.v (xe_var rfl)) (XE.v (xe_lst (xa_cons (xe_tup (xa_cons (xe_mkX (xa_cons (xe_var rfl) xa_nil)) (xa_cons (xe_lst (xa_cons (xe_tup (xa_cons xe_c (xa_cons (xe_var rfl) xa_nil))) xa_nil)) xa_nil))) (xa_cons (xe_tup (xa_cons (xe_mkX xa_nil) (xa_cons (xe_lst xa_nil) xa_nil))) (xa_cons (xe_tup (xa_cons (xe_mkX xa_nil) (xa_cons (xe_lst xa_nil) xa_nil))) xa_nil)))))) fun v89 => (xs_set (xe_op opv_addT (XE.v (xe_var rfl)) (XE.v (xe_lst (xa_cons (xe_tup (xa_cons (xe_mkX (xa_cons (xe_var rfl) xa_nil)) (xa_cons (xe_lst (xa_cons (xe_tup (xa_cons xe_c (xa_cons (xe_var rfl) xa_nil))) xa_nil)) xa_nil))) (xa_cons (xe_tup (xa_cons (xe_mkX xa_nil) (xa_cons (xe_lst xa_nil) xa_nil))) (xa_cons (xe_tup (xa_cons (xe_mkX xa_nil) (xa_cons (xe_lst xa_nil) xa_nil))) (xa_cons (xe_tup (xa_cons (xe_mkX xa_nil) (xa_cons (xe_lst xa_nil) xa_nil))) xa_nil))))))) fun v109 => (xs_ret (g := fun v => v) (fun _ => rfl) (XE.v (xe_op opv_addT (XE.v (xe_var rfl)) (XE.v (xe_lst (xa_cons (xe_tup (xa_cons (xe_mkX (xa_cons (xe_var rfl) xa_nil)) (xa_cons (xe_lst (xa_cons (xe_tup (xa_cons xe_c (xa_cons (xe_var rfl) xa_nil))) xa_nil)) xa_nil))) (xa_cons (xe_tup (xa_cons (xe_mkX (xa_cons (xe_var rfl) xa_nil)) (xa_cons (xe_lst (xa_cons (xe_tup (xa_cons xe_c (xa_cons (xe_var rfl) xa_nil))) xa_nil)) xa_nil))) (xa_cons (xe_tup (xa_cons (xe_mkX xa_nil) (xa_cons (xe_lst xa_nil) xa_nil))) xa_nil)))))))))))))))
def sp_law_made : SpT := spP (u0 m_law_made)
theorem len_law_made : ∀ ts S Q E, sp_law_made ts S Q E → ts.length = 1 := spP_len ar0
theorem vc_law_made : VC N_law_made sp_law_made c_law_made := vc_p0 x_law_made
def N_law_field : List Str := ["_law_made_here", "_law_field_here"]
def c_law_field : TTS :=
  (cSeq (cIfS (bVal (cOp eqT (cVar 1) (cC (.str (q "word"))))) (cSeq (cRet (cUn (xatT "word" (okL fo_word)) (cVar 0)))
    cSkip) cSkip)
    (cSeq (cIfS (bVal (cOp eqT (cVar 1) (cC (.str (q "number"))))) (cSeq (cRet (cUn (xatT "number" (okL fo_number)) (cVar 0)))
    cSkip) cSkip)
    (cSeq (cIfS (bVal (cOp eqT (cVar 1) (cC (.str (q "name"))))) (cSeq (cRet (cUn (xatT "name" (okL fo_name)) (cVar 0)))
    cSkip) cSkip)
    (cSeq (cIfS (bVal (cOp eqT (cVar 1) (cC (.str (q "line"))))) (cSeq (cRet (cUn (xatT "line" (okL fo_line)) (cVar 0)))
    cSkip) cSkip)
    (cSeq (cRet (cUn (xatT "ring" (okL fo_ring)) (cVar 0)))
    cSkip)))))
def m_law_field (p_made_here p_field_here : T) : PM Unit T :=
  bd (bd (bd (pu p_field_here) fun v1 => bd (pu (.str (q "word"))) fun v2 => ofO (eqT emp v1 v2)) tb) fun v3 => if v3 = true then bd (bd (pu p_made_here) fun v4 => ofO (xatT "word" (okL fo_word) emp v4)) fun v5 => pu v5 else bd (bd (bd (pu p_field_here) fun v6 => bd (pu (.str (q "number"))) fun v7 => ofO (eqT emp v6 v7)) tb) fun v8 => if v8 = true then bd (bd (pu p_made_here) fun v9 => ofO (xatT "number" (okL fo_number) emp v9)) fun v10 => pu v10 else bd (bd (bd (pu p_field_here) fun v11 => bd (pu (.str (q "name"))) fun v12 => ofO (eqT emp v11 v12)) tb) fun v13 => if v13 = true then bd (bd (pu p_made_here) fun v14 => ofO (xatT "name" (okL fo_name) emp v14)) fun v15 => pu v15 else bd (bd (bd (pu p_field_here) fun v16 => bd (pu (.str (q "line"))) fun v17 => ofO (eqT emp v16 v17)) tb) fun v18 => if v18 = true then bd (bd (pu p_made_here) fun v19 => ofO (xatT "line" (okL fo_line) emp v19)) fun v20 => pu v20 else bd (bd (pu p_made_here) fun v21 => ofO (xatT "ring" (okL fo_ring) emp v21)) fun v22 => pu v22
theorem x_law_field (S : Sto) (p_made_here p_field_here : T) : XS (fun _ : Unit => S) [some p_made_here, some p_field_here] [] c_law_field (m_law_field p_made_here p_field_here) .rt :=
  (xs_ifE (xb_val (xe_op opv_eqT (XE.v (xe_var rfl)) (XE.v xe_c))) (xs_assoc (xs_ret (g := fun v => v) (fun _ => rfl) (XE.v (xe_un unv_xatT (XE.v (xe_var rfl)))))) (xs_skipseq (xs_ifE (xb_val (xe_op opv_eqT (XE.v (xe_var rfl)) (XE.v xe_c))) (xs_assoc (xs_ret (g := fun v => v) (fun _ => rfl) (XE.v (xe_un unv_xatT (XE.v (xe_var rfl)))))) (xs_skipseq (xs_ifE (xb_val (xe_op opv_eqT (XE.v (xe_var rfl)) (XE.v xe_c))) (xs_assoc (xs_ret (g := fun v => v) (fun _ => rfl) (XE.v (xe_un unv_xatT (XE.v (xe_var rfl)))))) (xs_skipseq (xs_ifE (xb_val (xe_op opv_eqT (XE.v (xe_var rfl)) (XE.v xe_c))) (xs_assoc (xs_ret (g := fun v => v) (fun _ => rfl) (XE.v (xe_un unv_xatT (XE.v (xe_var rfl)))))) (xs_skipseq (xs_ret (g := fun v => v) (fun _ => rfl) (XE.v (xe_un unv_xatT (XE.v (xe_var rfl)))))))))))))
def sp_law_field : SpT := spU (u2 m_law_field)
theorem len_law_field : ∀ ts S Q E, sp_law_field ts S Q E → ts.length = 2 := spU_len ar2
theorem vc_law_field : VC N_law_field sp_law_field c_law_field := vc_u2 x_law_field
def N_the_law : List Str := ["_law_script", "_law_pen", "_law_some", "_law_others", "_law_words", "_law_made_here", "_law_k", "_law_one", "_law_fields", "_law_field_here", "_law_due"]
def t_the_law : TTS :=
  (cSeq (cPar2 2 3 (cCall sp_law_made (cCons (cVar 1) cNil)) (cCall sp_law_made (cCons (cVar 1) cNil)))
    (cSeq (cSet 4 (cLst (cCons (cC (.str (q "book"))) (cCons (cC (.str (q "row"))) (cCons (cC (.str (q "name"))) (cCons (cC (.str (q "known"))) (cCons (cC (.str (q "unknown"))) (cCons (cC (.str (q "use"))) (cCons (cC (.str (q "much"))) (cCons (cC (.str (q "text"))) (cCons (cC (.str (q "many"))) (cCons (cC (.str (q "reading"))) (cCons (cC (.str (q "rows"))) (cCons (cC (.str (q "drawing"))) cNil))))))))))))))
    (cSeq (cSet 4 (cOp addT (cVar 4) (cLst (cCons (cC (.str (q "picture"))) (cCons (cC (.str (q "pairs"))) (cCons (cC (.str (q "twice"))) (cCons (cC (.str (q "marks"))) (cCons (cC (.str (q "plain"))) cNil))))))))
    (cSeq (cFor (iSeq (cTup (cCons (cVar 2) (cCons (cVar 3) (cCons (cVar 2) cNil))))) (gN 5) ((cSeq (cFor (iEnum (cVar 5)) (gT (gC (gN 6) (gC (gT (gC (gN 7) (gC (gN 8) gZ))) gZ))) ((cSeq (cIfS (bOr (bNot (bVal (cUn (isxT (tabB is_KinError)) (cVar 7)))) (bOr (bNot (bVal (cUn (isxT (tabB is_ValueError)) (cVar 7)))) (bVal (cOp neT (cCall sp_law_fault_of (cCons (cVar 7) cNil)) (cTup (cCons (cOp ixT (cVar 4) (cVar 6)) cNil)))))) (cSeq (cRet (cC (.bl false)))
    cSkip) cSkip)
    (cSeq (cIfS (bVal (cOp neT (cComp (iSeq (cVar 8)) (gT (gC (gN 9) (gC (gN 10) gZ))) (bNot (bVal (cCall sp_law_are_same (cCons (cCall sp_law_field (cCons (cVar 7) (cCons (cVar 9) cNil))) (cCons (cVar 10) cNil))))) (cVar 9) [9, 10]) (cLst cNil))) (cSeq (cRet (cC (.bl false)))
    cSkip) cSkip)
    cSkip))))
    cSkip)))
    (cSeq (cRet (cC (.bl true)))
    cSkip)))))
def c_the_law : TTS := cSeq (cSet 1 (cCall sp_law_pen_of (cCons (cVar 0) cNil))) t_the_law
def sp_the_law : SpT := sp_law1
def m_the_law : PM Cell T :=
  bd (m_law_made) fun v1 => bd (m_law_made) fun v3 => bd (bd (pu (.str (q "book"))) fun v5 => bd (pu (.str (q "row"))) fun v6 => bd (pu (.str (q "name"))) fun v7 => bd (pu (.str (q "known"))) fun v8 => bd (pu (.str (q "unknown"))) fun v9 => bd (pu (.str (q "use"))) fun v10 => bd (pu (.str (q "much"))) fun v11 => bd (pu (.str (q "text"))) fun v12 => bd (pu (.str (q "many"))) fun v13 => bd (pu (.str (q "reading"))) fun v14 => bd (pu (.str (q "rows"))) fun v15 => bd (pu (.str (q "drawing"))) fun v16 => pu (.lst [v5, v6, v7, v8, v9, v10, v11, v12, v13, v14, v15, v16])) fun v17 => bd (bd (pu v17) fun v24 => bd (bd (pu (.str (q "picture"))) fun v19 => bd (pu (.str (q "pairs"))) fun v20 => bd (pu (.str (q "twice"))) fun v21 => bd (pu (.str (q "marks"))) fun v22 => bd (pu (.str (q "plain"))) fun v23 => pu (.lst [v19, v20, v21, v22, v23])) fun v25 => ofO (addT emp v24 v25)) fun v26 => bd (bd (bd (bd (pu v1) fun v29 => bd (pu v3) fun v30 => bd (pu v1) fun v31 => pu (.tup [v29, v30, v31])) itemsM) fun xs67 => forR (fun x32 (s28 : Unit) => bd (bd (bd (pu x32) enumM) fun xs65 => forR (fun x34 (s33 : Unit) => bd (ofO (un12 x34)) fun b35 => bd (bd (bd (bd (bd (pu b35.2.1) fun v45 => ofO (isxT (tabB is_KinError) emp v45)) tb) fun v46 => pu !v46) fun v47 => if v47 = true then pu true else (bd (bd (bd (bd (pu b35.2.1) fun v42 => ofO (isxT (tabB is_ValueError) emp v42)) tb) fun v43 => pu !v43) fun v44 => if v44 = true then pu true else (bd (bd (bd (pu b35.2.1) fun v36 => lft (m_law_fault_of v36)) fun v40 => bd (bd (bd (pu v26) fun v37 => bd (pu b35.1) fun v38 => ofO (ixT emp v37 v38)) fun v39 => pu (.tup [v39])) fun v41 => ofO (neT emp v40 v41)) tb))) fun v48 => if v48 = true then bd (pu (.bl false)) fun v49 => pu (.rt v49) else bd (bd (bd (bd (bd (pu b35.2.2) itemsM) fun xs59 => bd (compG (fun x50 => bd (ofO (un2 x50)) fun b51 => bd (bd (bd (bd (bd (pu b35.2.1) fun v53 => bd (pu b51.1) fun v54 => lft (m_law_field v53 v54)) fun v55 => bd (pu b51.2) fun v56 => lft (m_law_are_same v55 v56)) tb) fun v57 => pu !v57) fun v58 => if v58 = true then bd (pu b51.1) fun v52 => pu (some v52) else pu none) xs59) fun ys60 => pu (.lst ys60)) fun v61 => bd ((pu (.lst []) : PM _ T)) fun v62 => ofO (neT emp v61 v62)) tb) fun v63 => if v63 = true then bd (pu (.bl false)) fun v64 => pu (.rt v64) else pu (.nx ())) xs65 ()) fun r66 => Sum.elim (fun (s33 : Unit) => pu (.nx ())) (fun v => pu (.rt v)) r66) xs67 ()) fun r69 => Sum.elim (fun (s28 : Unit) => bd (pu (.bl true)) fun v68 => pu v68) (fun v => pu v) r69
theorem x_the_law (S : Sto) (pa : Addr) (a : T) : XS (penW S pa) [some a, some (.ref pa), none, none, none, none, none, none, none, none, none] [] t_the_law m_the_law .rt :=
  (xs_par2 (xn_e (xe_callP rfl xa_nil)) (fun v1 a2 => (xn_e (xe_callP rfl xa_nil))) fun v1 a2 v3 a4 => (xs_set (xe_lst (xa_cons xe_c (xa_cons xe_c (xa_cons xe_c (xa_cons xe_c (xa_cons xe_c (xa_cons xe_c (xa_cons xe_c (xa_cons xe_c (xa_cons xe_c (xa_cons xe_c (xa_cons xe_c (xa_cons xe_c xa_nil))))))))))))) fun v17 => (xs_set (xe_op opv_addT (XE.v (xe_var rfl)) (XE.v (xe_lst (xa_cons xe_c (xa_cons xe_c (xa_cons xe_c (xa_cons xe_c (xa_cons xe_c xa_nil)))))))) fun v26 => (xs_seqR (g := fun v => v) (fun _ => rfl) (xs_forR (σ := Unit) (P := fun s28 => [some a, some (.ref pa), some v1, some v3, some v26, none, none, none, none, none, none]) (C := fun s28 => []) (s0 := ()) (xiy_seq (xe_tup (xa_cons (xe_var rfl) (xa_cons (xe_var rfl) (xa_cons (xe_var rfl) xa_nil))))) ⟨.inr rfl, .inr rfl, .inr rfl, .inr rfl, .inr rfl, .inl rfl, .inl rfl, .inl rfl, .inl rfl, .inl rfl, .inl rfl, trivial⟩ rfl (fun x32 s28 => xf_name (xs_seqR (g := Fl.rt) (fun _ => rfl) (xs_forR (σ := Unit) (P := fun s33 => [some a, some (.ref pa), some v1, some v3, some v26, some x32, none, none, none, none, none]) (C := fun s33 => []) (s0 := ()) (xiy_enum (xe_var rfl)) ⟨.inr rfl, .inr rfl, .inr rfl, .inr rfl, .inr rfl, .inr rfl, .inl rfl, .inl rfl, .inl rfl, .inl rfl, .inl rfl, trivial⟩ rfl (fun x34 s33 => xf_un xg_12 fun b35 => (xs_ifE (xb_or (xb_not (xb_val (xe_un unv_isxT (XE.v (xe_var rfl))))) (xb_or (xb_not (xb_val (xe_un unv_isxT (XE.v (xe_var rfl))))) (xb_val (xe_op opv_neT (XE.v (xe_call (xa_cons (xe_var rfl) xa_nil))) (XE.v (xe_tup (xa_cons (xe_op opv_ixT (XE.v (xe_var rfl)) (XE.v (xe_var rfl))) xa_nil))))))) (xs_assoc (xs_ret (g := Fl.rt) (fun _ => rfl) (XE.v xe_c))) (xs_skipseq (xs_ifE (xb_val (xe_op opv_neT (XE.v (xe_comp (XIy.i (xiy_seq (xe_var rfl))) (fun x50 => xc_un xg_2 (fun b51 => (xb_not (xb_val (xe_call (xa_cons (xe_call (xa_cons (xe_var rfl) (xa_cons (xe_var rfl) xa_nil))) (xa_cons (xe_var rfl) xa_nil)))))) fun b51 => (xe_var rfl)))) (XE.v (xe_lst xa_nil)))) (xs_assoc (xs_ret (g := Fl.rt) (fun _ => rfl) (XE.v xe_c))) (xs_skipseq (xs_skip rfl ⟨.inr rfl, .inr rfl, .inr rfl, .inr rfl, .inr rfl, .inr rfl, .inl rfl, .inl rfl, .inl rfl, .inl rfl, .inl rfl, trivial⟩))))))) fun s33 => (xs_skip rfl ⟨.inr rfl, .inr rfl, .inr rfl, .inr rfl, .inr rfl, .inl rfl, .inl rfl, .inl rfl, .inl rfl, .inl rfl, .inl rfl, trivial⟩)))) fun s28 => (xs_ret (g := fun v => v) (fun _ => rfl) (XE.v xe_c))))))
end K75
namespace K75
open PySem PySem.Spec PyProof.Rows TL
open L2 hiding putF
local macro_rules | `(tactic| simp_arith [$ts,*] $[$loc]?) => `(tactic| simp (implicitDefEqProofs := false) only [pu_bd, bd_bd, bd_pu, ofO_some, ofO_none, ofO_ite, stuck_bd, thr_bd, lft_pu, lft_bd, lft_gdc, lft_ite, lft_stuck, tb_bl, intO_int, itemsM_tup, itemsM_lst, itemsM_str, gd_c, gdc_T, compG_map, compA_pu, compA_gd, compA_if, compA_gdif, forM_map, forR_map, un2_tup, un3_tup, un4_tup, sum_inl, sum_inr, isStr_str, isTup_tup, joinF_l, joinF_t, strsOf_nil, strsOf_cons, strsOf_map, Option.bind_some, Option.bind_none, addT_int, addT_str, addT_lst, addT_tup, subT_int, mulT2_int, mulT2_str, fdivT_int, modT_int, powT_int, negT_int, eqT_int, neT_int, eqT_str, neT_str, eqT_bl, neT_bl, ltT_int, gtT_int, leT_int, geT_int, ixT_lst, ixT_tup, atI_0, atI_1, atI_2, atI_3, lenF_lst, lenF_tup, lenF_str, absF_int, intF_int, intF_bl, max2F_int, min2F_int, strF_int, isi_str, isi_int, isi_tup, isi_lst, slT_lst, slT_tup, slT_str, tupleF_lst, tupleF_tup, listF_lst, listF_tup, inT_strs, ninT_strs, inT_strsT, ninT_strsT, ite_pu, decide_eq_true_eq, Bool.not_eq_true', if_true, if_false, Bool.false_eq_true, Bool.true_eq_false, Option.map_some, Option.map_none, isbT_bl, isnbT_bl, $ts,*] $[$loc]?)
local macro_rules | `(tactic| simp_arith! [$ts,*] $[$loc]?) => `(tactic| simp (implicitDefEqProofs := false) only [pu_bd, bd_bd, bd_pu, ofO_some, ofO_none, ofO_ite, stuck_bd, thr_bd, lft_pu, lft_bd, lft_gdc, lft_ite, lft_stuck, tb_bl, intO_int, itemsM_tup, itemsM_lst, itemsM_str, gd_c, gdc_T, compG_map, compA_pu, compA_gd, compA_if, compA_gdif, forM_map, forR_map, un2_tup, un3_tup, un4_tup, sum_inl, sum_inr, isStr_str, isTup_tup, joinF_l, joinF_t, strsOf_nil, strsOf_cons, strsOf_map, Option.bind_some, Option.bind_none, addT_int, addT_str, addT_lst, addT_tup, subT_int, mulT2_int, mulT2_str, fdivT_int, modT_int, powT_int, negT_int, eqT_int, neT_int, eqT_str, neT_str, eqT_bl, neT_bl, ltT_int, gtT_int, leT_int, geT_int, ixT_lst, ixT_tup, atI_0, atI_1, atI_2, atI_3, lenF_lst, lenF_tup, lenF_str, absF_int, intF_int, intF_bl, max2F_int, min2F_int, strF_int, isi_str, isi_int, isi_tup, isi_lst, slT_lst, slT_tup, slT_str, tupleF_lst, tupleF_tup, listF_lst, listF_tup, inT_strs, ninT_strs, inT_strsT, ninT_strsT, ite_pu, decide_eq_true_eq, Bool.not_eq_true', if_true, if_false, Bool.false_eq_true, Bool.true_eq_false, Option.map_some, Option.map_none, isbT_bl, isnbT_bl, kis_non_non, kis_non_bool, kis_non_int, kis_non_str, kis_non_tup, kis_non_lst, kis_non_dct, kis_bool_non, kis_bool_bool, kis_bool_int, kis_bool_str, kis_bool_tup, kis_bool_lst, kis_bool_dct, kis_int_non, kis_int_bool, kis_int_int, kis_int_str, kis_int_tup, kis_int_lst, kis_int_dct, kis_str_non, kis_str_bool, kis_str_int, kis_str_str, kis_str_tup, kis_str_lst, kis_str_dct, kis_tup_non, kis_tup_bool, kis_tup_int, kis_tup_str, kis_tup_tup, kis_tup_lst, kis_tup_dct, kis_lst_non, kis_lst_bool, kis_lst_int, kis_lst_str, kis_lst_tup, kis_lst_lst, kis_lst_dct, kis_dct_non, kis_dct_bool, kis_dct_int, kis_dct_str, kis_dct_tup, kis_dct_lst, kis_dct_dct, isi_bl, isi_non, List.any_cons, List.any_nil, Bool.or_false, Bool.or_true, Bool.false_or, Bool.true_or, Bool.not_true, Bool.not_false, beq_self_eq_true, bne_self_eq_false, $ts,*] $[$loc]?)
local macro_rules | `(tactic| simp_all_arith [$ts,*]) => `(tactic| simp (implicitDefEqProofs := false) only [pu_bd, bd_bd, bd_pu, ofO_some, ofO_none, ofO_ite, stuck_bd, thr_bd, lft_pu, lft_bd, lft_gdc, lft_ite, lft_stuck, tb_bl, intO_int, itemsM_tup, itemsM_lst, itemsM_str, gd_c, gdc_T, compG_map, compA_pu, compA_gd, compA_if, compA_gdif, forM_map, forR_map, un2_tup, un3_tup, un4_tup, sum_inl, sum_inr, isStr_str, isTup_tup, joinF_l, joinF_t, strsOf_nil, strsOf_cons, strsOf_map, Option.bind_some, Option.bind_none, addT_int, addT_str, addT_lst, addT_tup, subT_int, mulT2_int, mulT2_str, fdivT_int, modT_int, powT_int, negT_int, eqT_int, neT_int, eqT_str, neT_str, eqT_bl, neT_bl, ltT_int, gtT_int, leT_int, geT_int, ixT_lst, ixT_tup, atI_0, atI_1, atI_2, atI_3, lenF_lst, lenF_tup, lenF_str, absF_int, intF_int, intF_bl, max2F_int, min2F_int, strF_int, isi_str, isi_int, isi_tup, isi_lst, slT_lst, slT_tup, slT_str, tupleF_lst, tupleF_tup, listF_lst, listF_tup, inT_strs, ninT_strs, inT_strsT, ninT_strsT, ite_pu, decide_eq_true_eq, Bool.not_eq_true', if_true, if_false, Bool.false_eq_true, Bool.true_eq_false, Option.map_some, Option.map_none, isbT_bl, isnbT_bl, extM_l, appM_c, compA_ifo, fkT, kinT, famT, List.cons_append, List.nil_append, $ts,*])
theorem zip_self {α : Type} : ∀ {xs : List α} {a b : α}, (a, b) ∈ xs.zip xs → a = b
  | [], _, _, h => by cases h
  | x :: xs, a, b, h => by
    rw [List.zip_cons_cons] at h
    rcases List.mem_cons.mp h with z | z
    · injection z with z1 z2; rw [z1, z2]
    · exact zip_self z
theorem same_refl : ∀ (n : Nat) (v : T), Dt n v → r_law_are_same (n + 1) v v = pu (.bl true) := by
  intro n v h
  have hs := sizeLine_eq
  induction h with
  | str n x =>
    unfold r_law_are_same
    simp_arith! [decide_true]
  | int n x =>
    unfold r_law_are_same
    simp_arith! [decide_true]
  | bl n x =>
    unfold r_law_are_same
    simp_arith! [decide_true]
  | tup h l ih =>
    unfold r_law_are_same
    simp_arith! [decide_true, zipM_tt, zipL]
    refine gdc_e (by rw [List.length_zip]; omega) ?_
    rw [compA_congr (g := fun _ => pu (some (T.bl true))) (fun b hb => by
      obtain ⟨b1, b2⟩ := b
      have e := List.of_mem_zip hb
      have q : b1 = b2 := zip_self hb
      subst q
      rw [ih b1 e.1]
      rfl)]
    rw [compA_pu, pu_bd, all_true, ofO_some]
  | lst h l ih =>
    unfold r_law_are_same
    simp_arith! [decide_true, zipM_ll, zipL]
    refine gdc_e (by rw [List.length_zip]; omega) ?_
    rw [compA_congr (g := fun _ => pu (some (T.bl true))) (fun b hb => by
      obtain ⟨b1, b2⟩ := b
      have e := List.of_mem_zip hb
      have q : b1 = b2 := zip_self hb
      subst q
      rw [ih b1 e.1]
      rfl)]
    rw [compA_pu, pu_bd, all_true, ofO_some]
theorem are_same_refl {v : T} {n : Nat} (h : Dt n v) (hn : n ≤ 11) : m_law_are_same v v = pu (.bl true) := same_refl 11 v (h.le hn)
theorem str_ix {z : Nm} {k : Int} (h0 : 0 ≤ k) (h1 : k < z.length) (hz : z.length ≤ sizeLine) : ∃ c, ixT emp (.str z) (.int k) = some (.str [c]) := by
  obtain ⟨n, rfl⟩ : ∃ n : Nat, k = n := ⟨k.toNat, by omega⟩
  have hn : n < z.length := by omega
  refine ⟨z[n], ?_⟩
  show (if z.length ≤ sizeLine then (L2.atI z (n : Int)).map fun c => T.str [c] else none) = _
  rw [if_pos hz, atI_natE, List.getElem?_eq_getElem hn]
  rfl
structure En where
  x : T
  fs : List (Nm × T)
  wd : Nm
def enF (p : Nm × T) : T := .tup [.str p.1, p.2]
def enT (e : En) : T := .tup [e.x, .lst (e.fs.map enF)]
def ringT (w : Nm) : T := .tup [.tup [.str (q "child"), .str w, .str (q "b")], .tup [.str (q "union"), .str (q "b"), .str w]]
def ens (w : Nm) (n : Int) : List En :=
  [⟨.exc "NoBook" ["number", "word"] [.int n, .str w], [(q "word", .str w), (q "number", .int n)], q "book"⟩, ⟨.exc "NoRow" [] [], [], q "row"⟩,
   ⟨.exc "NoName" ["name"] [.str w], [(q "name", .str w)], q "name"⟩, ⟨.exc "Known" [] [], [], q "known"⟩, ⟨.exc "Unknown" [] [], [], q "unknown"⟩, ⟨.exc "InUse" [] [], [], q "use"⟩, ⟨.exc "TooMuch" [] [], [], q "much"⟩,
   ⟨.exc "NoText" ["line"] [.int n], [(q "line", .int n)], q "text"⟩, ⟨.exc "TooMany" [] [], [], q "many"⟩, ⟨.exc "NoReading" [] [], [], q "reading"⟩,
   ⟨.exc "NoRows" ["ring"] [ringT w], [(q "ring", ringT w)], q "rows"⟩, ⟨.exc "NoDrawing" [] [], [], q "drawing"⟩, ⟨.exc "NoPicture" [] [], [], q "picture"⟩, ⟨.exc "NoPairs" [] [], [], q "pairs"⟩,
   ⟨.exc "Twice" ["name"] [.str w], [(q "name", .str w)], q "twice"⟩, ⟨.exc "Marks" ["name"] [.str w], [(q "name", .str w)], q "marks"⟩, ⟨.exc "NotPlain" [] [], [], q "plain"⟩]
def wds : List Nm := (["book", "row", "name", "known", "unknown", "use", "much", "text", "many", "reading", "rows", "drawing", "picture", "pairs", "twice", "marks", "plain"] : List Str).map q
theorem made_ht : HT 12 m_law_made fun v => ∃ w n, v = .lst ((ens w n).map enT) := by
  have hs := sizeLine_eq
  have p30 : powT emp (.int 10) (.int 30) = some (.int 1000000000000000000000000000000) := by kernel_rfl
  have l26 : (q "abcdefghijklmnopqrstuvwxyz").length = 26 := by decide +kernel
  unfold m_law_made
  simp_arith [p30]
  refine HT.drawB (d := 11) (by omega) (by omega) fun i i0 i1 => ?_
  simp_arith []
  rw [rng1_int (by omega), pu_bd]
  simp_arith []
  refine HT.gdc (by rw [List.length_range]; omega) ?_
  refine HT.le (HT.bd (d1 := 8 * 1) (d2 := 3) (P := fun a => ∃ ws : List Nm, a = ws.map T.str ∧ (∀ w ∈ ws, w.length ≤ 1) ∧ ws.length ≤ 8) ?_ ?_) (by decide)
  · refine HT.mono (HT.compN 1 8 (I := fun xs acc => ∃ ws : List Nm, acc = ws.map T.str ∧ (∀ w ∈ ws, w.length ≤ 1) ∧ ws.length + xs.length ≤ 8) (by rw [List.length_range]; omega) ⟨[], rfl, nofun, by rw [List.length_range]; simp; omega⟩ ?_) fun a ⟨ws, e, h, l⟩ => ⟨ws, e, h, by simpa using l⟩
    rintro x xs _ ⟨ws, rfl, h, l⟩
    refine HT.drawB (d := 0) (by omega) (by omega) fun k k0 k1 => ?_
    obtain ⟨c, e⟩ := str_ix (z := q "abcdefghijklmnopqrstuvwxyz") k0 (by omega) (by omega)
    simp_arith [e]
    refine HT.pu ⟨ws ++ [[c]], by simp [Option.toList], fun w hw => ?_, by simp at l ⊢; omega⟩
    rcases List.mem_append.mp hw with h1 | h1
    · exact h w h1
    · rw [List.mem_singleton.mp h1]; exact Nat.le_refl _
  rintro _ ⟨ws, rfl, h, l⟩
  have e0 : (q "").length = 0 := by decide +kernel
  have z : joinSz (q "") ws = true := joinSz_ok (k := 1) h (by rw [e0]; omega)
  simp_arith [z]
  generalize jnL (q "") ws = w
  have fin : ∀ m : Int, 0 < m → m < 1000000000000000000000000000001 → HT 1 (m_law_draw (.int m)) fun v => ∃ n : Int, v = .int n := fun m h1 h2 => by
    have := HT.drawG (d := 0) (f := fun v => TL.pu v) (Q := fun v => ∃ n : Int, v = .int n) h1 h2 fun i _ _ => HT.pu ⟨i, rfl⟩
    rw [bd_pu] at this
    exact this
  refine HT.drawB (d := 2) (by omega) (by omega) fun b b0 b1 => ?_
  refine HT.le (HT.bd (d1 := 0) (d2 := 2) (P := fun v => v = .int 10 ∨ v = .int 1000000000000000000000000000000) (by
    rcases (by omega : b = 0 ∨ b = 1) with rfl | rfl
    · exact HT.pu (.inl rfl)
    · exact HT.pu (.inr rfl)) ?_) (by decide)
  intro v hv
  refine HT.le (HT.bd (d1 := 1) (d2 := 1) (P := fun v => ∃ n : Int, v = .int n) (by
    rcases hv with rfl | rfl
    · exact fin _ (by omega) (by omega)
    · exact fin _ (by omega) (by omega)) ?_) (by decide)
  rintro _ ⟨n, rfl⟩
  iterate 4 refine HT.gdc (by simp only [List.length_append, List.length_cons, List.length_nil]; omega) ?_
  exact HT.pu ⟨w, n, rfl⟩
structure EnOk (e : En) : Prop where
  ke : isxT (tabB is_KinError) emp e.x = some (.bl true)
  ve : isxT (tabB is_ValueError) emp e.x = some (.bl true)
  fa : m_law_fault_of e.x = pu (.tup [.str e.wd])
  le : e.fs.length ≤ 2
  fl : ∀ p ∈ e.fs, m_law_field e.x (.str p.1) = pu p.2 ∧ Dt 3 p.2
theorem ring_dt (w : Nm) : Dt 3 (ringT w) := by
  refine .tup (fun x hx => ?_) (Nat.le_of_ble_eq_true rfl)
  simp only [List.mem_cons, List.not_mem_nil, or_false] at hx
  rcases hx with rfl | rfl
  all_goals
    refine .tup (fun x hx => ?_) (Nat.le_of_ble_eq_true rfl)
    simp only [List.mem_cons, List.not_mem_nil, or_false] at hx
    rcases hx with rfl | rfl | rfl <;> exact .str _ _
theorem ens_ok {w : Nm} {n : Int} : ∀ e ∈ ens w n, EnOk e := by
  intro e he
  unfold ens at he
  simp only [List.mem_cons, List.not_mem_nil, or_false] at he
  rcases he with rfl | rfl | rfl | rfl | rfl | rfl | rfl | rfl | rfl | rfl | rfl | rfl | rfl | rfl | rfl | rfl | rfl
  all_goals refine ⟨rfl, rfl, rfl, Nat.le_of_ble_eq_true rfl, fun p hp => ?_⟩
  all_goals try (cases hp; done)
  · simp only [List.mem_cons, List.not_mem_nil, or_false] at hp
    rcases hp with rfl | rfl
    · exact ⟨rfl, .str _ _⟩
    · exact ⟨rfl, .int _ _⟩
  · rw [List.mem_singleton.mp hp]; exact ⟨rfl, .str _ _⟩
  · rw [List.mem_singleton.mp hp]; exact ⟨rfl, .int _ _⟩
  · rw [List.mem_singleton.mp hp]; exact ⟨rfl, ring_dt w⟩
  · rw [List.mem_singleton.mp hp]; exact ⟨rfl, .str _ _⟩
  · rw [List.mem_singleton.mp hp]; exact ⟨rfl, .str _ _⟩
theorem ht_eq {α : Type} {d : Nat} {m m' : PM Cell α} {P : α → Prop} (e : m = m') (h : HT d m' P) : HT d m P := e ▸ h
theorem law_true : ∀ c, PenC 0 c → ∃ k, m_the_law c = .ok (.bl true) k := HT.law (d := 1000) (by
  have hs := sizeLine_eq
  unfold m_the_law
  refine HT.le (HT.bd (d1 := 12) (d2 := 500) made_ht ?_) (by decide)
  rintro _ ⟨w, n, rfl⟩
  refine HT.le (HT.bd (d1 := 12) (d2 := 100) made_ht ?_) (by decide)
  rintro _ ⟨w2, n2, rfl⟩
  simp_arith []
  refine HT.gdc (by simp only [List.length_cons, List.length_nil]; omega) ?_
  have key : ∀ (f : T → Unit → PM Cell (Fl Unit)), (∀ (k : Nat) (e : En), EnOk e → wds[k]? = some e.wd → f (.tup [.int (k : Int), enT e]) () = pu (.nx ())) → ∀ w n, forR f (enumL ((ens w n).map enT)) () = pu (.inl ()) := fun f hf w n => forR_all fun x hx => by
    unfold enumL at hx
    obtain ⟨p, hp, rfl⟩ := List.mem_map.mp hx
    have hp := List.mem_zipIdx_iff_getElem?.mp hp
    rw [List.getElem?_map] at hp
    obtain ⟨e, he, e2⟩ := Option.map_eq_some_iff.mp hp
    rw [← e2]
    refine hf p.2 e (ens_ok e (List.mem_of_getElem? he)) ?_
    have : wds = (ens w n).map (·.wd) := rfl
    rw [this, List.getElem?_map, he]
    rfl
  have fin : ∀ (f : T → Unit → PM Cell (Fl Unit)), (∀ (k : Nat) (e : En), EnOk e → wds[k]? = some e.wd → f (.tup [.int (k : Int), enT e]) () = pu (.nx ())) → ∀ x ∈ [T.lst ((ens w n).map enT), T.lst ((ens w2 n2).map enT), T.lst ((ens w n).map enT)], (bd (enumM x) fun a => bd (forR f a ()) fun r66 => Sum.elim (fun s33 => pu (Fl.nx ())) (fun v49 => pu (Fl.rt v49)) r66) = pu (Fl.nx ()) := fun f hf x hx => by
    simp only [List.mem_cons, List.not_mem_nil, or_false] at hx
    rcases hx with rfl | rfl | rfl <;> rw [enumM_lst, pu_bd, key f hf, pu_bd] <;> rfl
  refine ht_eq (congrArg (fun m => bd m _) (forR_all (fin _ fun k e h hw => ?_))) (HT.pu rfl)
  have ix : ixT emp (T.lst ([T.str (q "book"), T.str (q "row"), T.str (q "name"), T.str (q "known"), T.str (q "unknown"), T.str (q "use"), T.str (q "much"), T.str (q "text"), T.str (q "many"), T.str (q "reading"), T.str (q "rows"), T.str (q "drawing")] ++ [T.str (q "picture"), T.str (q "pairs"), T.str (q "twice"), T.str (q "marks"), T.str (q "plain")])) (.int (k : Int)) = some (.str e.wd) := by
    show L2.atI (wds.map T.str) (k : Int) = _
    rw [atI_natE, List.getElem?_map, hw]
    rfl
  have u : un12 (.tup [.int (k : Int), enT e]) = some (.int (k : Int), e.x, .lst (e.fs.map enF)) := rfl
  have ne : TL.neT emp (.tup [.str e.wd]) (.tup [.str e.wd]) = some (.bl false) := by
    have d : Dt 2 (.tup [.str e.wd]) := .tup (fun x hx => by rw [List.mem_singleton.mp hx]; exact .str _ _) (Nat.le_of_ble_eq_true rfl)
    rw [d.neT (by decide) d (by decide)]
    show some (T.bl (!(decide (e.wd = e.wd) && true))) = _
    simp
  have n0 : TL.neT emp (.lst []) (.lst []) = some (.bl false) := rfl
  have u2 : ∀ p : Nm × T, un2 (enF p) = some (.str p.1, p.2) := fun _ => rfl
  have le := h.le
  simp_arith [u, h.ke, h.ve, h.fa, ix, ne, u2]
  refine gdc_e (by omega) ?_
  have cn : ∀ (f : Nm × T → PM Cell (Option T)) (xs : List (Nm × T)), (∀ x ∈ xs, f x = pu none) → TL.compA f xs = pu [] := fun f xs => by
    induction xs with
    | nil => exact fun _ => rfl
    | cons x xs ih =>
      intro hx
      rw [compA_cons, hx x (.head _), nox_pu, pu_bd, ih fun y hy => hx y (.tail _ hy)]
      rfl
  rw [cn _ _ fun p hp => ?_]
  · simp_arith [n0]
  · obtain ⟨f1, f2⟩ := h.fl p hp
    simp_arith [f1, are_same_refl f2 (by decide)]) (by decide)

end K75
namespace K75
open PySem PySem.Spec PyProof.Rows TL
open L2 hiding putF
/-- what the head tells -/
structure Zx (K : PySem.W.Frag) (mg : Str → Option Value) : Prop where
  b_ValueError : mg "ValueError" = none
  b_abs : mg "abs" = none
  b_all : mg "all" = none
  b_bool : mg "bool" = none
  b_enumerate : mg "enumerate" = none
  b_int : mg "int" = none
  b_isinstance : mg "isinstance" = none
  b_len : mg "len" = none
  b_list : mg "list" = none
  b_range : mg "range" = none
  b_str : mg "str" = none
  b_tuple : mg "tuple" = none
  b_zip : mg "zip" = none
  f_law_pen_of : ∃ fd, FunD K "_law_pen_of" "_law_pen_of" (defArgs s_law_pen_of) (defBody s_law_pen_of) (defScope s_law_pen_of) [] [] (He.ga K "_law_pen_of") fd
  g_law_pen_of : mg "_law_pen_of" = some (.ref (He.ga K "_law_pen_of"))
  f_law_draw : ∃ fd, FunD K "_law_draw" "_law_draw" (defArgs s_law_draw) (defBody s_law_draw) (defScope s_law_draw) [] [] (He.ga K "_law_draw") fd
  g_law_draw : mg "_law_draw" = some (.ref (He.ga K "_law_draw"))
  f_law_are_same : ∃ fd, FunD K "_law_are_same" "_law_are_same" (defArgs s_law_are_same) (defBody s_law_are_same) (defScope s_law_are_same) [] [] (He.ga K "_law_are_same") fd
  g_law_are_same : mg "_law_are_same" = some (.ref (He.ga K "_law_are_same"))
  f_law_fault_of : ∃ fd, FunD K "_law_fault_of" "_law_fault_of" (defArgs s_law_fault_of) (defBody s_law_fault_of) (defScope s_law_fault_of) [] [] (He.ga K "_law_fault_of") fd
  g_law_fault_of : mg "_law_fault_of" = some (.ref (He.ga K "_law_fault_of"))
  f_law_made : ∃ fd, FunD K "_law_made" "_law_made" (defArgs s_law_made) (defBody s_law_made) (defScope s_law_made) [] [] (He.ga K "_law_made") fd
  g_law_made : mg "_law_made" = some (.ref (He.ga K "_law_made"))
  f_law_field : ∃ fd, FunD K "_law_field" "_law_field" (defArgs s_law_field) (defBody s_law_field) (defScope s_law_field) [] [] (He.ga K "_law_field") fd
  g_law_field : mg "_law_field" = some (.ref (He.ga K "_law_field"))
  f_the_law : ∃ fd, FunD K "law" "law" (defArgs s_the_law) (defBody s_the_law) (defScope s_the_law) [] [] (He.ga K "law") fd
  g_the_law : mg "law" = some (.ref (He.ga K "law"))
  ke : KeB K (He.ga K "KinError")
  gm_KinError : mg "KinError" = some (.ref (He.ga K "KinError"))
  gm_NoBook : mg "NoBook" = some (.ref (He.ga K "NoBook"))
  gm_NoRow : mg "NoRow" = some (.ref (He.ga K "NoRow"))
  gm_NoName : mg "NoName" = some (.ref (He.ga K "NoName"))
  gm_Known : mg "Known" = some (.ref (He.ga K "Known"))
  gm_Unknown : mg "Unknown" = some (.ref (He.ga K "Unknown"))
  gm_InUse : mg "InUse" = some (.ref (He.ga K "InUse"))
  gm_TooMuch : mg "TooMuch" = some (.ref (He.ga K "TooMuch"))
  gm_NoText : mg "NoText" = some (.ref (He.ga K "NoText"))
  gm_TooMany : mg "TooMany" = some (.ref (He.ga K "TooMany"))
  gm_NoReading : mg "NoReading" = some (.ref (He.ga K "NoReading"))
  gm_NoRows : mg "NoRows" = some (.ref (He.ga K "NoRows"))
  gm_NoDrawing : mg "NoDrawing" = some (.ref (He.ga K "NoDrawing"))
  gm_NoPicture : mg "NoPicture" = some (.ref (He.ga K "NoPicture"))
  gm_NoPairs : mg "NoPairs" = some (.ref (He.ga K "NoPairs"))
  gm_Twice : mg "Twice" = some (.ref (He.ga K "Twice"))
  gm_Marks : mg "Marks" = some (.ref (He.ga K "Marks"))
  gm_NotPlain : mg "NotPlain" = some (.ref (He.ga K "NotPlain"))
  is_NoBook_Known : PySem.W.kitOne K (.ref (He.ga K "NoBook")) (.ref (He.ga K "Known")) = some false
  is_NoBook_NoName : PySem.W.kitOne K (.ref (He.ga K "NoBook")) (.ref (He.ga K "NoName")) = some false
  is_NoBook_NoRow : PySem.W.kitOne K (.ref (He.ga K "NoBook")) (.ref (He.ga K "NoRow")) = some false
  is_NoBook_NoBook : PySem.W.kitOne K (.ref (He.ga K "NoBook")) (.ref (He.ga K "NoBook")) = some true
  is_NoBook_NoText : PySem.W.kitOne K (.ref (He.ga K "NoBook")) (.ref (He.ga K "NoText")) = some false
  is_NoBook_TooMuch : PySem.W.kitOne K (.ref (He.ga K "NoBook")) (.ref (He.ga K "TooMuch")) = some false
  is_NoBook_InUse : PySem.W.kitOne K (.ref (He.ga K "NoBook")) (.ref (He.ga K "InUse")) = some false
  is_NoBook_Unknown : PySem.W.kitOne K (.ref (He.ga K "NoBook")) (.ref (He.ga K "Unknown")) = some false
  is_NoBook_NoDrawing : PySem.W.kitOne K (.ref (He.ga K "NoBook")) (.ref (He.ga K "NoDrawing")) = some false
  is_NoBook_NoRows : PySem.W.kitOne K (.ref (He.ga K "NoBook")) (.ref (He.ga K "NoRows")) = some false
  is_NoBook_NoReading : PySem.W.kitOne K (.ref (He.ga K "NoBook")) (.ref (He.ga K "NoReading")) = some false
  is_NoBook_TooMany : PySem.W.kitOne K (.ref (He.ga K "NoBook")) (.ref (He.ga K "TooMany")) = some false
  is_NoBook_Marks : PySem.W.kitOne K (.ref (He.ga K "NoBook")) (.ref (He.ga K "Marks")) = some false
  is_NoBook_Twice : PySem.W.kitOne K (.ref (He.ga K "NoBook")) (.ref (He.ga K "Twice")) = some false
  is_NoBook_NoPairs : PySem.W.kitOne K (.ref (He.ga K "NoBook")) (.ref (He.ga K "NoPairs")) = some false
  is_NoBook_NoPicture : PySem.W.kitOne K (.ref (He.ga K "NoBook")) (.ref (He.ga K "NoPicture")) = some false
  is_NoBook_NotPlain : PySem.W.kitOne K (.ref (He.ga K "NoBook")) (.ref (He.ga K "NotPlain")) = some false
  is_NoBook_ValueError : PySem.W.kitOne K (.ref (He.ga K "NoBook")) (.type "ValueError") = some true
  is_NoBook_KinError : PySem.W.kitOne K (.ref (He.ga K "NoBook")) (.ref (He.ga K "KinError")) = some true
  is_NoRow_Known : PySem.W.kitOne K (.ref (He.ga K "NoRow")) (.ref (He.ga K "Known")) = some false
  is_NoRow_NoName : PySem.W.kitOne K (.ref (He.ga K "NoRow")) (.ref (He.ga K "NoName")) = some false
  is_NoRow_NoRow : PySem.W.kitOne K (.ref (He.ga K "NoRow")) (.ref (He.ga K "NoRow")) = some true
  is_NoRow_NoBook : PySem.W.kitOne K (.ref (He.ga K "NoRow")) (.ref (He.ga K "NoBook")) = some false
  is_NoRow_NoText : PySem.W.kitOne K (.ref (He.ga K "NoRow")) (.ref (He.ga K "NoText")) = some false
  is_NoRow_TooMuch : PySem.W.kitOne K (.ref (He.ga K "NoRow")) (.ref (He.ga K "TooMuch")) = some false
  is_NoRow_InUse : PySem.W.kitOne K (.ref (He.ga K "NoRow")) (.ref (He.ga K "InUse")) = some false
  is_NoRow_Unknown : PySem.W.kitOne K (.ref (He.ga K "NoRow")) (.ref (He.ga K "Unknown")) = some false
  is_NoRow_NoDrawing : PySem.W.kitOne K (.ref (He.ga K "NoRow")) (.ref (He.ga K "NoDrawing")) = some false
  is_NoRow_NoRows : PySem.W.kitOne K (.ref (He.ga K "NoRow")) (.ref (He.ga K "NoRows")) = some false
  is_NoRow_NoReading : PySem.W.kitOne K (.ref (He.ga K "NoRow")) (.ref (He.ga K "NoReading")) = some false
  is_NoRow_TooMany : PySem.W.kitOne K (.ref (He.ga K "NoRow")) (.ref (He.ga K "TooMany")) = some false
  is_NoRow_Marks : PySem.W.kitOne K (.ref (He.ga K "NoRow")) (.ref (He.ga K "Marks")) = some false
  is_NoRow_Twice : PySem.W.kitOne K (.ref (He.ga K "NoRow")) (.ref (He.ga K "Twice")) = some false
  is_NoRow_NoPairs : PySem.W.kitOne K (.ref (He.ga K "NoRow")) (.ref (He.ga K "NoPairs")) = some false
  is_NoRow_NoPicture : PySem.W.kitOne K (.ref (He.ga K "NoRow")) (.ref (He.ga K "NoPicture")) = some false
  is_NoRow_NotPlain : PySem.W.kitOne K (.ref (He.ga K "NoRow")) (.ref (He.ga K "NotPlain")) = some false
  is_NoRow_ValueError : PySem.W.kitOne K (.ref (He.ga K "NoRow")) (.type "ValueError") = some true
  is_NoRow_KinError : PySem.W.kitOne K (.ref (He.ga K "NoRow")) (.ref (He.ga K "KinError")) = some true
  is_NoName_Known : PySem.W.kitOne K (.ref (He.ga K "NoName")) (.ref (He.ga K "Known")) = some false
  is_NoName_NoName : PySem.W.kitOne K (.ref (He.ga K "NoName")) (.ref (He.ga K "NoName")) = some true
  is_NoName_NoRow : PySem.W.kitOne K (.ref (He.ga K "NoName")) (.ref (He.ga K "NoRow")) = some false
  is_NoName_NoBook : PySem.W.kitOne K (.ref (He.ga K "NoName")) (.ref (He.ga K "NoBook")) = some false
  is_NoName_NoText : PySem.W.kitOne K (.ref (He.ga K "NoName")) (.ref (He.ga K "NoText")) = some false
  is_NoName_TooMuch : PySem.W.kitOne K (.ref (He.ga K "NoName")) (.ref (He.ga K "TooMuch")) = some false
  is_NoName_InUse : PySem.W.kitOne K (.ref (He.ga K "NoName")) (.ref (He.ga K "InUse")) = some false
  is_NoName_Unknown : PySem.W.kitOne K (.ref (He.ga K "NoName")) (.ref (He.ga K "Unknown")) = some false
  is_NoName_NoDrawing : PySem.W.kitOne K (.ref (He.ga K "NoName")) (.ref (He.ga K "NoDrawing")) = some false
  is_NoName_NoRows : PySem.W.kitOne K (.ref (He.ga K "NoName")) (.ref (He.ga K "NoRows")) = some false
  is_NoName_NoReading : PySem.W.kitOne K (.ref (He.ga K "NoName")) (.ref (He.ga K "NoReading")) = some false
  is_NoName_TooMany : PySem.W.kitOne K (.ref (He.ga K "NoName")) (.ref (He.ga K "TooMany")) = some false
  is_NoName_Marks : PySem.W.kitOne K (.ref (He.ga K "NoName")) (.ref (He.ga K "Marks")) = some false
  is_NoName_Twice : PySem.W.kitOne K (.ref (He.ga K "NoName")) (.ref (He.ga K "Twice")) = some false
  is_NoName_NoPairs : PySem.W.kitOne K (.ref (He.ga K "NoName")) (.ref (He.ga K "NoPairs")) = some false
  is_NoName_NoPicture : PySem.W.kitOne K (.ref (He.ga K "NoName")) (.ref (He.ga K "NoPicture")) = some false
  is_NoName_NotPlain : PySem.W.kitOne K (.ref (He.ga K "NoName")) (.ref (He.ga K "NotPlain")) = some false
  is_NoName_ValueError : PySem.W.kitOne K (.ref (He.ga K "NoName")) (.type "ValueError") = some true
  is_NoName_KinError : PySem.W.kitOne K (.ref (He.ga K "NoName")) (.ref (He.ga K "KinError")) = some true
  is_Known_Known : PySem.W.kitOne K (.ref (He.ga K "Known")) (.ref (He.ga K "Known")) = some true
  is_Known_NoName : PySem.W.kitOne K (.ref (He.ga K "Known")) (.ref (He.ga K "NoName")) = some false
  is_Known_NoRow : PySem.W.kitOne K (.ref (He.ga K "Known")) (.ref (He.ga K "NoRow")) = some false
  is_Known_NoBook : PySem.W.kitOne K (.ref (He.ga K "Known")) (.ref (He.ga K "NoBook")) = some false
  is_Known_NoText : PySem.W.kitOne K (.ref (He.ga K "Known")) (.ref (He.ga K "NoText")) = some false
  is_Known_TooMuch : PySem.W.kitOne K (.ref (He.ga K "Known")) (.ref (He.ga K "TooMuch")) = some false
  is_Known_InUse : PySem.W.kitOne K (.ref (He.ga K "Known")) (.ref (He.ga K "InUse")) = some false
  is_Known_Unknown : PySem.W.kitOne K (.ref (He.ga K "Known")) (.ref (He.ga K "Unknown")) = some false
  is_Known_NoDrawing : PySem.W.kitOne K (.ref (He.ga K "Known")) (.ref (He.ga K "NoDrawing")) = some false
  is_Known_NoRows : PySem.W.kitOne K (.ref (He.ga K "Known")) (.ref (He.ga K "NoRows")) = some false
  is_Known_NoReading : PySem.W.kitOne K (.ref (He.ga K "Known")) (.ref (He.ga K "NoReading")) = some false
  is_Known_TooMany : PySem.W.kitOne K (.ref (He.ga K "Known")) (.ref (He.ga K "TooMany")) = some false
  is_Known_Marks : PySem.W.kitOne K (.ref (He.ga K "Known")) (.ref (He.ga K "Marks")) = some false
  is_Known_Twice : PySem.W.kitOne K (.ref (He.ga K "Known")) (.ref (He.ga K "Twice")) = some false
  is_Known_NoPairs : PySem.W.kitOne K (.ref (He.ga K "Known")) (.ref (He.ga K "NoPairs")) = some false
  is_Known_NoPicture : PySem.W.kitOne K (.ref (He.ga K "Known")) (.ref (He.ga K "NoPicture")) = some false
  is_Known_NotPlain : PySem.W.kitOne K (.ref (He.ga K "Known")) (.ref (He.ga K "NotPlain")) = some false
  is_Known_ValueError : PySem.W.kitOne K (.ref (He.ga K "Known")) (.type "ValueError") = some true
  is_Known_KinError : PySem.W.kitOne K (.ref (He.ga K "Known")) (.ref (He.ga K "KinError")) = some true
  is_Unknown_Known : PySem.W.kitOne K (.ref (He.ga K "Unknown")) (.ref (He.ga K "Known")) = some false
  is_Unknown_NoName : PySem.W.kitOne K (.ref (He.ga K "Unknown")) (.ref (He.ga K "NoName")) = some false
  is_Unknown_NoRow : PySem.W.kitOne K (.ref (He.ga K "Unknown")) (.ref (He.ga K "NoRow")) = some false
  is_Unknown_NoBook : PySem.W.kitOne K (.ref (He.ga K "Unknown")) (.ref (He.ga K "NoBook")) = some false
  is_Unknown_NoText : PySem.W.kitOne K (.ref (He.ga K "Unknown")) (.ref (He.ga K "NoText")) = some false
  is_Unknown_TooMuch : PySem.W.kitOne K (.ref (He.ga K "Unknown")) (.ref (He.ga K "TooMuch")) = some false
  is_Unknown_InUse : PySem.W.kitOne K (.ref (He.ga K "Unknown")) (.ref (He.ga K "InUse")) = some false
  is_Unknown_Unknown : PySem.W.kitOne K (.ref (He.ga K "Unknown")) (.ref (He.ga K "Unknown")) = some true
  is_Unknown_NoDrawing : PySem.W.kitOne K (.ref (He.ga K "Unknown")) (.ref (He.ga K "NoDrawing")) = some false
  is_Unknown_NoRows : PySem.W.kitOne K (.ref (He.ga K "Unknown")) (.ref (He.ga K "NoRows")) = some false
  is_Unknown_NoReading : PySem.W.kitOne K (.ref (He.ga K "Unknown")) (.ref (He.ga K "NoReading")) = some false
  is_Unknown_TooMany : PySem.W.kitOne K (.ref (He.ga K "Unknown")) (.ref (He.ga K "TooMany")) = some false
  is_Unknown_Marks : PySem.W.kitOne K (.ref (He.ga K "Unknown")) (.ref (He.ga K "Marks")) = some false
  is_Unknown_Twice : PySem.W.kitOne K (.ref (He.ga K "Unknown")) (.ref (He.ga K "Twice")) = some false
  is_Unknown_NoPairs : PySem.W.kitOne K (.ref (He.ga K "Unknown")) (.ref (He.ga K "NoPairs")) = some false
  is_Unknown_NoPicture : PySem.W.kitOne K (.ref (He.ga K "Unknown")) (.ref (He.ga K "NoPicture")) = some false
  is_Unknown_NotPlain : PySem.W.kitOne K (.ref (He.ga K "Unknown")) (.ref (He.ga K "NotPlain")) = some false
  is_Unknown_ValueError : PySem.W.kitOne K (.ref (He.ga K "Unknown")) (.type "ValueError") = some true
  is_Unknown_KinError : PySem.W.kitOne K (.ref (He.ga K "Unknown")) (.ref (He.ga K "KinError")) = some true
  is_InUse_Known : PySem.W.kitOne K (.ref (He.ga K "InUse")) (.ref (He.ga K "Known")) = some false
  is_InUse_NoName : PySem.W.kitOne K (.ref (He.ga K "InUse")) (.ref (He.ga K "NoName")) = some false
  is_InUse_NoRow : PySem.W.kitOne K (.ref (He.ga K "InUse")) (.ref (He.ga K "NoRow")) = some false
  is_InUse_NoBook : PySem.W.kitOne K (.ref (He.ga K "InUse")) (.ref (He.ga K "NoBook")) = some false
  is_InUse_NoText : PySem.W.kitOne K (.ref (He.ga K "InUse")) (.ref (He.ga K "NoText")) = some false
  is_InUse_TooMuch : PySem.W.kitOne K (.ref (He.ga K "InUse")) (.ref (He.ga K "TooMuch")) = some false
  is_InUse_InUse : PySem.W.kitOne K (.ref (He.ga K "InUse")) (.ref (He.ga K "InUse")) = some true
  is_InUse_Unknown : PySem.W.kitOne K (.ref (He.ga K "InUse")) (.ref (He.ga K "Unknown")) = some false
  is_InUse_NoDrawing : PySem.W.kitOne K (.ref (He.ga K "InUse")) (.ref (He.ga K "NoDrawing")) = some false
  is_InUse_NoRows : PySem.W.kitOne K (.ref (He.ga K "InUse")) (.ref (He.ga K "NoRows")) = some false
  is_InUse_NoReading : PySem.W.kitOne K (.ref (He.ga K "InUse")) (.ref (He.ga K "NoReading")) = some false
  is_InUse_TooMany : PySem.W.kitOne K (.ref (He.ga K "InUse")) (.ref (He.ga K "TooMany")) = some false
  is_InUse_Marks : PySem.W.kitOne K (.ref (He.ga K "InUse")) (.ref (He.ga K "Marks")) = some false
  is_InUse_Twice : PySem.W.kitOne K (.ref (He.ga K "InUse")) (.ref (He.ga K "Twice")) = some false
  is_InUse_NoPairs : PySem.W.kitOne K (.ref (He.ga K "InUse")) (.ref (He.ga K "NoPairs")) = some false
  is_InUse_NoPicture : PySem.W.kitOne K (.ref (He.ga K "InUse")) (.ref (He.ga K "NoPicture")) = some false
  is_InUse_NotPlain : PySem.W.kitOne K (.ref (He.ga K "InUse")) (.ref (He.ga K "NotPlain")) = some false
  is_InUse_ValueError : PySem.W.kitOne K (.ref (He.ga K "InUse")) (.type "ValueError") = some true
  is_InUse_KinError : PySem.W.kitOne K (.ref (He.ga K "InUse")) (.ref (He.ga K "KinError")) = some true
  is_TooMuch_Known : PySem.W.kitOne K (.ref (He.ga K "TooMuch")) (.ref (He.ga K "Known")) = some false
  is_TooMuch_NoName : PySem.W.kitOne K (.ref (He.ga K "TooMuch")) (.ref (He.ga K "NoName")) = some false
  is_TooMuch_NoRow : PySem.W.kitOne K (.ref (He.ga K "TooMuch")) (.ref (He.ga K "NoRow")) = some false
  is_TooMuch_NoBook : PySem.W.kitOne K (.ref (He.ga K "TooMuch")) (.ref (He.ga K "NoBook")) = some false
  is_TooMuch_NoText : PySem.W.kitOne K (.ref (He.ga K "TooMuch")) (.ref (He.ga K "NoText")) = some false
  is_TooMuch_TooMuch : PySem.W.kitOne K (.ref (He.ga K "TooMuch")) (.ref (He.ga K "TooMuch")) = some true
  is_TooMuch_InUse : PySem.W.kitOne K (.ref (He.ga K "TooMuch")) (.ref (He.ga K "InUse")) = some false
  is_TooMuch_Unknown : PySem.W.kitOne K (.ref (He.ga K "TooMuch")) (.ref (He.ga K "Unknown")) = some false
  is_TooMuch_NoDrawing : PySem.W.kitOne K (.ref (He.ga K "TooMuch")) (.ref (He.ga K "NoDrawing")) = some false
  is_TooMuch_NoRows : PySem.W.kitOne K (.ref (He.ga K "TooMuch")) (.ref (He.ga K "NoRows")) = some false
  is_TooMuch_NoReading : PySem.W.kitOne K (.ref (He.ga K "TooMuch")) (.ref (He.ga K "NoReading")) = some false
  is_TooMuch_TooMany : PySem.W.kitOne K (.ref (He.ga K "TooMuch")) (.ref (He.ga K "TooMany")) = some false
  is_TooMuch_Marks : PySem.W.kitOne K (.ref (He.ga K "TooMuch")) (.ref (He.ga K "Marks")) = some false
  is_TooMuch_Twice : PySem.W.kitOne K (.ref (He.ga K "TooMuch")) (.ref (He.ga K "Twice")) = some false
  is_TooMuch_NoPairs : PySem.W.kitOne K (.ref (He.ga K "TooMuch")) (.ref (He.ga K "NoPairs")) = some false
  is_TooMuch_NoPicture : PySem.W.kitOne K (.ref (He.ga K "TooMuch")) (.ref (He.ga K "NoPicture")) = some false
  is_TooMuch_NotPlain : PySem.W.kitOne K (.ref (He.ga K "TooMuch")) (.ref (He.ga K "NotPlain")) = some false
  is_TooMuch_ValueError : PySem.W.kitOne K (.ref (He.ga K "TooMuch")) (.type "ValueError") = some true
  is_TooMuch_KinError : PySem.W.kitOne K (.ref (He.ga K "TooMuch")) (.ref (He.ga K "KinError")) = some true
  is_NoText_Known : PySem.W.kitOne K (.ref (He.ga K "NoText")) (.ref (He.ga K "Known")) = some false
  is_NoText_NoName : PySem.W.kitOne K (.ref (He.ga K "NoText")) (.ref (He.ga K "NoName")) = some false
  is_NoText_NoRow : PySem.W.kitOne K (.ref (He.ga K "NoText")) (.ref (He.ga K "NoRow")) = some false
  is_NoText_NoBook : PySem.W.kitOne K (.ref (He.ga K "NoText")) (.ref (He.ga K "NoBook")) = some false
  is_NoText_NoText : PySem.W.kitOne K (.ref (He.ga K "NoText")) (.ref (He.ga K "NoText")) = some true
  is_NoText_TooMuch : PySem.W.kitOne K (.ref (He.ga K "NoText")) (.ref (He.ga K "TooMuch")) = some false
  is_NoText_InUse : PySem.W.kitOne K (.ref (He.ga K "NoText")) (.ref (He.ga K "InUse")) = some false
  is_NoText_Unknown : PySem.W.kitOne K (.ref (He.ga K "NoText")) (.ref (He.ga K "Unknown")) = some false
  is_NoText_NoDrawing : PySem.W.kitOne K (.ref (He.ga K "NoText")) (.ref (He.ga K "NoDrawing")) = some false
  is_NoText_NoRows : PySem.W.kitOne K (.ref (He.ga K "NoText")) (.ref (He.ga K "NoRows")) = some false
  is_NoText_NoReading : PySem.W.kitOne K (.ref (He.ga K "NoText")) (.ref (He.ga K "NoReading")) = some false
  is_NoText_TooMany : PySem.W.kitOne K (.ref (He.ga K "NoText")) (.ref (He.ga K "TooMany")) = some false
  is_NoText_Marks : PySem.W.kitOne K (.ref (He.ga K "NoText")) (.ref (He.ga K "Marks")) = some false
  is_NoText_Twice : PySem.W.kitOne K (.ref (He.ga K "NoText")) (.ref (He.ga K "Twice")) = some false
  is_NoText_NoPairs : PySem.W.kitOne K (.ref (He.ga K "NoText")) (.ref (He.ga K "NoPairs")) = some false
  is_NoText_NoPicture : PySem.W.kitOne K (.ref (He.ga K "NoText")) (.ref (He.ga K "NoPicture")) = some false
  is_NoText_NotPlain : PySem.W.kitOne K (.ref (He.ga K "NoText")) (.ref (He.ga K "NotPlain")) = some false
  is_NoText_ValueError : PySem.W.kitOne K (.ref (He.ga K "NoText")) (.type "ValueError") = some true
  is_NoText_KinError : PySem.W.kitOne K (.ref (He.ga K "NoText")) (.ref (He.ga K "KinError")) = some true
  is_TooMany_Known : PySem.W.kitOne K (.ref (He.ga K "TooMany")) (.ref (He.ga K "Known")) = some false
  is_TooMany_NoName : PySem.W.kitOne K (.ref (He.ga K "TooMany")) (.ref (He.ga K "NoName")) = some false
  is_TooMany_NoRow : PySem.W.kitOne K (.ref (He.ga K "TooMany")) (.ref (He.ga K "NoRow")) = some false
  is_TooMany_NoBook : PySem.W.kitOne K (.ref (He.ga K "TooMany")) (.ref (He.ga K "NoBook")) = some false
  is_TooMany_NoText : PySem.W.kitOne K (.ref (He.ga K "TooMany")) (.ref (He.ga K "NoText")) = some false
  is_TooMany_TooMuch : PySem.W.kitOne K (.ref (He.ga K "TooMany")) (.ref (He.ga K "TooMuch")) = some false
  is_TooMany_InUse : PySem.W.kitOne K (.ref (He.ga K "TooMany")) (.ref (He.ga K "InUse")) = some false
  is_TooMany_Unknown : PySem.W.kitOne K (.ref (He.ga K "TooMany")) (.ref (He.ga K "Unknown")) = some false
  is_TooMany_NoDrawing : PySem.W.kitOne K (.ref (He.ga K "TooMany")) (.ref (He.ga K "NoDrawing")) = some false
  is_TooMany_NoRows : PySem.W.kitOne K (.ref (He.ga K "TooMany")) (.ref (He.ga K "NoRows")) = some false
  is_TooMany_NoReading : PySem.W.kitOne K (.ref (He.ga K "TooMany")) (.ref (He.ga K "NoReading")) = some false
  is_TooMany_TooMany : PySem.W.kitOne K (.ref (He.ga K "TooMany")) (.ref (He.ga K "TooMany")) = some true
  is_TooMany_Marks : PySem.W.kitOne K (.ref (He.ga K "TooMany")) (.ref (He.ga K "Marks")) = some false
  is_TooMany_Twice : PySem.W.kitOne K (.ref (He.ga K "TooMany")) (.ref (He.ga K "Twice")) = some false
  is_TooMany_NoPairs : PySem.W.kitOne K (.ref (He.ga K "TooMany")) (.ref (He.ga K "NoPairs")) = some false
  is_TooMany_NoPicture : PySem.W.kitOne K (.ref (He.ga K "TooMany")) (.ref (He.ga K "NoPicture")) = some false
  is_TooMany_NotPlain : PySem.W.kitOne K (.ref (He.ga K "TooMany")) (.ref (He.ga K "NotPlain")) = some false
  is_TooMany_ValueError : PySem.W.kitOne K (.ref (He.ga K "TooMany")) (.type "ValueError") = some true
  is_TooMany_KinError : PySem.W.kitOne K (.ref (He.ga K "TooMany")) (.ref (He.ga K "KinError")) = some true
  is_NoReading_Known : PySem.W.kitOne K (.ref (He.ga K "NoReading")) (.ref (He.ga K "Known")) = some false
  is_NoReading_NoName : PySem.W.kitOne K (.ref (He.ga K "NoReading")) (.ref (He.ga K "NoName")) = some false
  is_NoReading_NoRow : PySem.W.kitOne K (.ref (He.ga K "NoReading")) (.ref (He.ga K "NoRow")) = some false
  is_NoReading_NoBook : PySem.W.kitOne K (.ref (He.ga K "NoReading")) (.ref (He.ga K "NoBook")) = some false
  is_NoReading_NoText : PySem.W.kitOne K (.ref (He.ga K "NoReading")) (.ref (He.ga K "NoText")) = some false
  is_NoReading_TooMuch : PySem.W.kitOne K (.ref (He.ga K "NoReading")) (.ref (He.ga K "TooMuch")) = some false
  is_NoReading_InUse : PySem.W.kitOne K (.ref (He.ga K "NoReading")) (.ref (He.ga K "InUse")) = some false
  is_NoReading_Unknown : PySem.W.kitOne K (.ref (He.ga K "NoReading")) (.ref (He.ga K "Unknown")) = some false
  is_NoReading_NoDrawing : PySem.W.kitOne K (.ref (He.ga K "NoReading")) (.ref (He.ga K "NoDrawing")) = some false
  is_NoReading_NoRows : PySem.W.kitOne K (.ref (He.ga K "NoReading")) (.ref (He.ga K "NoRows")) = some false
  is_NoReading_NoReading : PySem.W.kitOne K (.ref (He.ga K "NoReading")) (.ref (He.ga K "NoReading")) = some true
  is_NoReading_TooMany : PySem.W.kitOne K (.ref (He.ga K "NoReading")) (.ref (He.ga K "TooMany")) = some false
  is_NoReading_Marks : PySem.W.kitOne K (.ref (He.ga K "NoReading")) (.ref (He.ga K "Marks")) = some false
  is_NoReading_Twice : PySem.W.kitOne K (.ref (He.ga K "NoReading")) (.ref (He.ga K "Twice")) = some false
  is_NoReading_NoPairs : PySem.W.kitOne K (.ref (He.ga K "NoReading")) (.ref (He.ga K "NoPairs")) = some false
  is_NoReading_NoPicture : PySem.W.kitOne K (.ref (He.ga K "NoReading")) (.ref (He.ga K "NoPicture")) = some false
  is_NoReading_NotPlain : PySem.W.kitOne K (.ref (He.ga K "NoReading")) (.ref (He.ga K "NotPlain")) = some false
  is_NoReading_ValueError : PySem.W.kitOne K (.ref (He.ga K "NoReading")) (.type "ValueError") = some true
  is_NoReading_KinError : PySem.W.kitOne K (.ref (He.ga K "NoReading")) (.ref (He.ga K "KinError")) = some true
  is_NoRows_Known : PySem.W.kitOne K (.ref (He.ga K "NoRows")) (.ref (He.ga K "Known")) = some false
  is_NoRows_NoName : PySem.W.kitOne K (.ref (He.ga K "NoRows")) (.ref (He.ga K "NoName")) = some false
  is_NoRows_NoRow : PySem.W.kitOne K (.ref (He.ga K "NoRows")) (.ref (He.ga K "NoRow")) = some false
  is_NoRows_NoBook : PySem.W.kitOne K (.ref (He.ga K "NoRows")) (.ref (He.ga K "NoBook")) = some false
  is_NoRows_NoText : PySem.W.kitOne K (.ref (He.ga K "NoRows")) (.ref (He.ga K "NoText")) = some false
  is_NoRows_TooMuch : PySem.W.kitOne K (.ref (He.ga K "NoRows")) (.ref (He.ga K "TooMuch")) = some false
  is_NoRows_InUse : PySem.W.kitOne K (.ref (He.ga K "NoRows")) (.ref (He.ga K "InUse")) = some false
  is_NoRows_Unknown : PySem.W.kitOne K (.ref (He.ga K "NoRows")) (.ref (He.ga K "Unknown")) = some false
  is_NoRows_NoDrawing : PySem.W.kitOne K (.ref (He.ga K "NoRows")) (.ref (He.ga K "NoDrawing")) = some false
  is_NoRows_NoRows : PySem.W.kitOne K (.ref (He.ga K "NoRows")) (.ref (He.ga K "NoRows")) = some true
  is_NoRows_NoReading : PySem.W.kitOne K (.ref (He.ga K "NoRows")) (.ref (He.ga K "NoReading")) = some false
  is_NoRows_TooMany : PySem.W.kitOne K (.ref (He.ga K "NoRows")) (.ref (He.ga K "TooMany")) = some false
  is_NoRows_Marks : PySem.W.kitOne K (.ref (He.ga K "NoRows")) (.ref (He.ga K "Marks")) = some false
  is_NoRows_Twice : PySem.W.kitOne K (.ref (He.ga K "NoRows")) (.ref (He.ga K "Twice")) = some false
  is_NoRows_NoPairs : PySem.W.kitOne K (.ref (He.ga K "NoRows")) (.ref (He.ga K "NoPairs")) = some false
  is_NoRows_NoPicture : PySem.W.kitOne K (.ref (He.ga K "NoRows")) (.ref (He.ga K "NoPicture")) = some false
  is_NoRows_NotPlain : PySem.W.kitOne K (.ref (He.ga K "NoRows")) (.ref (He.ga K "NotPlain")) = some false
  is_NoRows_ValueError : PySem.W.kitOne K (.ref (He.ga K "NoRows")) (.type "ValueError") = some true
  is_NoRows_KinError : PySem.W.kitOne K (.ref (He.ga K "NoRows")) (.ref (He.ga K "KinError")) = some true
  is_NoDrawing_Known : PySem.W.kitOne K (.ref (He.ga K "NoDrawing")) (.ref (He.ga K "Known")) = some false
  is_NoDrawing_NoName : PySem.W.kitOne K (.ref (He.ga K "NoDrawing")) (.ref (He.ga K "NoName")) = some false
  is_NoDrawing_NoRow : PySem.W.kitOne K (.ref (He.ga K "NoDrawing")) (.ref (He.ga K "NoRow")) = some false
  is_NoDrawing_NoBook : PySem.W.kitOne K (.ref (He.ga K "NoDrawing")) (.ref (He.ga K "NoBook")) = some false
  is_NoDrawing_NoText : PySem.W.kitOne K (.ref (He.ga K "NoDrawing")) (.ref (He.ga K "NoText")) = some false
  is_NoDrawing_TooMuch : PySem.W.kitOne K (.ref (He.ga K "NoDrawing")) (.ref (He.ga K "TooMuch")) = some false
  is_NoDrawing_InUse : PySem.W.kitOne K (.ref (He.ga K "NoDrawing")) (.ref (He.ga K "InUse")) = some false
  is_NoDrawing_Unknown : PySem.W.kitOne K (.ref (He.ga K "NoDrawing")) (.ref (He.ga K "Unknown")) = some false
  is_NoDrawing_NoDrawing : PySem.W.kitOne K (.ref (He.ga K "NoDrawing")) (.ref (He.ga K "NoDrawing")) = some true
  is_NoDrawing_NoRows : PySem.W.kitOne K (.ref (He.ga K "NoDrawing")) (.ref (He.ga K "NoRows")) = some false
  is_NoDrawing_NoReading : PySem.W.kitOne K (.ref (He.ga K "NoDrawing")) (.ref (He.ga K "NoReading")) = some false
  is_NoDrawing_TooMany : PySem.W.kitOne K (.ref (He.ga K "NoDrawing")) (.ref (He.ga K "TooMany")) = some false
  is_NoDrawing_Marks : PySem.W.kitOne K (.ref (He.ga K "NoDrawing")) (.ref (He.ga K "Marks")) = some false
  is_NoDrawing_Twice : PySem.W.kitOne K (.ref (He.ga K "NoDrawing")) (.ref (He.ga K "Twice")) = some false
  is_NoDrawing_NoPairs : PySem.W.kitOne K (.ref (He.ga K "NoDrawing")) (.ref (He.ga K "NoPairs")) = some false
  is_NoDrawing_NoPicture : PySem.W.kitOne K (.ref (He.ga K "NoDrawing")) (.ref (He.ga K "NoPicture")) = some false
  is_NoDrawing_NotPlain : PySem.W.kitOne K (.ref (He.ga K "NoDrawing")) (.ref (He.ga K "NotPlain")) = some false
  is_NoDrawing_ValueError : PySem.W.kitOne K (.ref (He.ga K "NoDrawing")) (.type "ValueError") = some true
  is_NoDrawing_KinError : PySem.W.kitOne K (.ref (He.ga K "NoDrawing")) (.ref (He.ga K "KinError")) = some true
  is_NoPicture_Known : PySem.W.kitOne K (.ref (He.ga K "NoPicture")) (.ref (He.ga K "Known")) = some false
  is_NoPicture_NoName : PySem.W.kitOne K (.ref (He.ga K "NoPicture")) (.ref (He.ga K "NoName")) = some false
  is_NoPicture_NoRow : PySem.W.kitOne K (.ref (He.ga K "NoPicture")) (.ref (He.ga K "NoRow")) = some false
  is_NoPicture_NoBook : PySem.W.kitOne K (.ref (He.ga K "NoPicture")) (.ref (He.ga K "NoBook")) = some false
  is_NoPicture_NoText : PySem.W.kitOne K (.ref (He.ga K "NoPicture")) (.ref (He.ga K "NoText")) = some false
  is_NoPicture_TooMuch : PySem.W.kitOne K (.ref (He.ga K "NoPicture")) (.ref (He.ga K "TooMuch")) = some false
  is_NoPicture_InUse : PySem.W.kitOne K (.ref (He.ga K "NoPicture")) (.ref (He.ga K "InUse")) = some false
  is_NoPicture_Unknown : PySem.W.kitOne K (.ref (He.ga K "NoPicture")) (.ref (He.ga K "Unknown")) = some false
  is_NoPicture_NoDrawing : PySem.W.kitOne K (.ref (He.ga K "NoPicture")) (.ref (He.ga K "NoDrawing")) = some false
  is_NoPicture_NoRows : PySem.W.kitOne K (.ref (He.ga K "NoPicture")) (.ref (He.ga K "NoRows")) = some false
  is_NoPicture_NoReading : PySem.W.kitOne K (.ref (He.ga K "NoPicture")) (.ref (He.ga K "NoReading")) = some false
  is_NoPicture_TooMany : PySem.W.kitOne K (.ref (He.ga K "NoPicture")) (.ref (He.ga K "TooMany")) = some false
  is_NoPicture_Marks : PySem.W.kitOne K (.ref (He.ga K "NoPicture")) (.ref (He.ga K "Marks")) = some false
  is_NoPicture_Twice : PySem.W.kitOne K (.ref (He.ga K "NoPicture")) (.ref (He.ga K "Twice")) = some false
  is_NoPicture_NoPairs : PySem.W.kitOne K (.ref (He.ga K "NoPicture")) (.ref (He.ga K "NoPairs")) = some false
  is_NoPicture_NoPicture : PySem.W.kitOne K (.ref (He.ga K "NoPicture")) (.ref (He.ga K "NoPicture")) = some true
  is_NoPicture_NotPlain : PySem.W.kitOne K (.ref (He.ga K "NoPicture")) (.ref (He.ga K "NotPlain")) = some false
  is_NoPicture_ValueError : PySem.W.kitOne K (.ref (He.ga K "NoPicture")) (.type "ValueError") = some true
  is_NoPicture_KinError : PySem.W.kitOne K (.ref (He.ga K "NoPicture")) (.ref (He.ga K "KinError")) = some true
  is_NoPairs_Known : PySem.W.kitOne K (.ref (He.ga K "NoPairs")) (.ref (He.ga K "Known")) = some false
  is_NoPairs_NoName : PySem.W.kitOne K (.ref (He.ga K "NoPairs")) (.ref (He.ga K "NoName")) = some false
  is_NoPairs_NoRow : PySem.W.kitOne K (.ref (He.ga K "NoPairs")) (.ref (He.ga K "NoRow")) = some false
  is_NoPairs_NoBook : PySem.W.kitOne K (.ref (He.ga K "NoPairs")) (.ref (He.ga K "NoBook")) = some false
  is_NoPairs_NoText : PySem.W.kitOne K (.ref (He.ga K "NoPairs")) (.ref (He.ga K "NoText")) = some false
  is_NoPairs_TooMuch : PySem.W.kitOne K (.ref (He.ga K "NoPairs")) (.ref (He.ga K "TooMuch")) = some false
  is_NoPairs_InUse : PySem.W.kitOne K (.ref (He.ga K "NoPairs")) (.ref (He.ga K "InUse")) = some false
  is_NoPairs_Unknown : PySem.W.kitOne K (.ref (He.ga K "NoPairs")) (.ref (He.ga K "Unknown")) = some false
  is_NoPairs_NoDrawing : PySem.W.kitOne K (.ref (He.ga K "NoPairs")) (.ref (He.ga K "NoDrawing")) = some false
  is_NoPairs_NoRows : PySem.W.kitOne K (.ref (He.ga K "NoPairs")) (.ref (He.ga K "NoRows")) = some false
  is_NoPairs_NoReading : PySem.W.kitOne K (.ref (He.ga K "NoPairs")) (.ref (He.ga K "NoReading")) = some false
  is_NoPairs_TooMany : PySem.W.kitOne K (.ref (He.ga K "NoPairs")) (.ref (He.ga K "TooMany")) = some false
  is_NoPairs_Marks : PySem.W.kitOne K (.ref (He.ga K "NoPairs")) (.ref (He.ga K "Marks")) = some false
  is_NoPairs_Twice : PySem.W.kitOne K (.ref (He.ga K "NoPairs")) (.ref (He.ga K "Twice")) = some false
  is_NoPairs_NoPairs : PySem.W.kitOne K (.ref (He.ga K "NoPairs")) (.ref (He.ga K "NoPairs")) = some true
  is_NoPairs_NoPicture : PySem.W.kitOne K (.ref (He.ga K "NoPairs")) (.ref (He.ga K "NoPicture")) = some false
  is_NoPairs_NotPlain : PySem.W.kitOne K (.ref (He.ga K "NoPairs")) (.ref (He.ga K "NotPlain")) = some false
  is_NoPairs_ValueError : PySem.W.kitOne K (.ref (He.ga K "NoPairs")) (.type "ValueError") = some true
  is_NoPairs_KinError : PySem.W.kitOne K (.ref (He.ga K "NoPairs")) (.ref (He.ga K "KinError")) = some true
  is_Twice_Known : PySem.W.kitOne K (.ref (He.ga K "Twice")) (.ref (He.ga K "Known")) = some false
  is_Twice_NoName : PySem.W.kitOne K (.ref (He.ga K "Twice")) (.ref (He.ga K "NoName")) = some false
  is_Twice_NoRow : PySem.W.kitOne K (.ref (He.ga K "Twice")) (.ref (He.ga K "NoRow")) = some false
  is_Twice_NoBook : PySem.W.kitOne K (.ref (He.ga K "Twice")) (.ref (He.ga K "NoBook")) = some false
  is_Twice_NoText : PySem.W.kitOne K (.ref (He.ga K "Twice")) (.ref (He.ga K "NoText")) = some false
  is_Twice_TooMuch : PySem.W.kitOne K (.ref (He.ga K "Twice")) (.ref (He.ga K "TooMuch")) = some false
  is_Twice_InUse : PySem.W.kitOne K (.ref (He.ga K "Twice")) (.ref (He.ga K "InUse")) = some false
  is_Twice_Unknown : PySem.W.kitOne K (.ref (He.ga K "Twice")) (.ref (He.ga K "Unknown")) = some false
  is_Twice_NoDrawing : PySem.W.kitOne K (.ref (He.ga K "Twice")) (.ref (He.ga K "NoDrawing")) = some false
  is_Twice_NoRows : PySem.W.kitOne K (.ref (He.ga K "Twice")) (.ref (He.ga K "NoRows")) = some false
  is_Twice_NoReading : PySem.W.kitOne K (.ref (He.ga K "Twice")) (.ref (He.ga K "NoReading")) = some false
  is_Twice_TooMany : PySem.W.kitOne K (.ref (He.ga K "Twice")) (.ref (He.ga K "TooMany")) = some false
  is_Twice_Marks : PySem.W.kitOne K (.ref (He.ga K "Twice")) (.ref (He.ga K "Marks")) = some false
  is_Twice_Twice : PySem.W.kitOne K (.ref (He.ga K "Twice")) (.ref (He.ga K "Twice")) = some true
  is_Twice_NoPairs : PySem.W.kitOne K (.ref (He.ga K "Twice")) (.ref (He.ga K "NoPairs")) = some false
  is_Twice_NoPicture : PySem.W.kitOne K (.ref (He.ga K "Twice")) (.ref (He.ga K "NoPicture")) = some false
  is_Twice_NotPlain : PySem.W.kitOne K (.ref (He.ga K "Twice")) (.ref (He.ga K "NotPlain")) = some false
  is_Twice_ValueError : PySem.W.kitOne K (.ref (He.ga K "Twice")) (.type "ValueError") = some true
  is_Twice_KinError : PySem.W.kitOne K (.ref (He.ga K "Twice")) (.ref (He.ga K "KinError")) = some true
  is_Marks_Known : PySem.W.kitOne K (.ref (He.ga K "Marks")) (.ref (He.ga K "Known")) = some false
  is_Marks_NoName : PySem.W.kitOne K (.ref (He.ga K "Marks")) (.ref (He.ga K "NoName")) = some false
  is_Marks_NoRow : PySem.W.kitOne K (.ref (He.ga K "Marks")) (.ref (He.ga K "NoRow")) = some false
  is_Marks_NoBook : PySem.W.kitOne K (.ref (He.ga K "Marks")) (.ref (He.ga K "NoBook")) = some false
  is_Marks_NoText : PySem.W.kitOne K (.ref (He.ga K "Marks")) (.ref (He.ga K "NoText")) = some false
  is_Marks_TooMuch : PySem.W.kitOne K (.ref (He.ga K "Marks")) (.ref (He.ga K "TooMuch")) = some false
  is_Marks_InUse : PySem.W.kitOne K (.ref (He.ga K "Marks")) (.ref (He.ga K "InUse")) = some false
  is_Marks_Unknown : PySem.W.kitOne K (.ref (He.ga K "Marks")) (.ref (He.ga K "Unknown")) = some false
  is_Marks_NoDrawing : PySem.W.kitOne K (.ref (He.ga K "Marks")) (.ref (He.ga K "NoDrawing")) = some false
  is_Marks_NoRows : PySem.W.kitOne K (.ref (He.ga K "Marks")) (.ref (He.ga K "NoRows")) = some false
  is_Marks_NoReading : PySem.W.kitOne K (.ref (He.ga K "Marks")) (.ref (He.ga K "NoReading")) = some false
  is_Marks_TooMany : PySem.W.kitOne K (.ref (He.ga K "Marks")) (.ref (He.ga K "TooMany")) = some false
  is_Marks_Marks : PySem.W.kitOne K (.ref (He.ga K "Marks")) (.ref (He.ga K "Marks")) = some true
  is_Marks_Twice : PySem.W.kitOne K (.ref (He.ga K "Marks")) (.ref (He.ga K "Twice")) = some false
  is_Marks_NoPairs : PySem.W.kitOne K (.ref (He.ga K "Marks")) (.ref (He.ga K "NoPairs")) = some false
  is_Marks_NoPicture : PySem.W.kitOne K (.ref (He.ga K "Marks")) (.ref (He.ga K "NoPicture")) = some false
  is_Marks_NotPlain : PySem.W.kitOne K (.ref (He.ga K "Marks")) (.ref (He.ga K "NotPlain")) = some false
  is_Marks_ValueError : PySem.W.kitOne K (.ref (He.ga K "Marks")) (.type "ValueError") = some true
  is_Marks_KinError : PySem.W.kitOne K (.ref (He.ga K "Marks")) (.ref (He.ga K "KinError")) = some true
  is_NotPlain_Known : PySem.W.kitOne K (.ref (He.ga K "NotPlain")) (.ref (He.ga K "Known")) = some false
  is_NotPlain_NoName : PySem.W.kitOne K (.ref (He.ga K "NotPlain")) (.ref (He.ga K "NoName")) = some false
  is_NotPlain_NoRow : PySem.W.kitOne K (.ref (He.ga K "NotPlain")) (.ref (He.ga K "NoRow")) = some false
  is_NotPlain_NoBook : PySem.W.kitOne K (.ref (He.ga K "NotPlain")) (.ref (He.ga K "NoBook")) = some false
  is_NotPlain_NoText : PySem.W.kitOne K (.ref (He.ga K "NotPlain")) (.ref (He.ga K "NoText")) = some false
  is_NotPlain_TooMuch : PySem.W.kitOne K (.ref (He.ga K "NotPlain")) (.ref (He.ga K "TooMuch")) = some false
  is_NotPlain_InUse : PySem.W.kitOne K (.ref (He.ga K "NotPlain")) (.ref (He.ga K "InUse")) = some false
  is_NotPlain_Unknown : PySem.W.kitOne K (.ref (He.ga K "NotPlain")) (.ref (He.ga K "Unknown")) = some false
  is_NotPlain_NoDrawing : PySem.W.kitOne K (.ref (He.ga K "NotPlain")) (.ref (He.ga K "NoDrawing")) = some false
  is_NotPlain_NoRows : PySem.W.kitOne K (.ref (He.ga K "NotPlain")) (.ref (He.ga K "NoRows")) = some false
  is_NotPlain_NoReading : PySem.W.kitOne K (.ref (He.ga K "NotPlain")) (.ref (He.ga K "NoReading")) = some false
  is_NotPlain_TooMany : PySem.W.kitOne K (.ref (He.ga K "NotPlain")) (.ref (He.ga K "TooMany")) = some false
  is_NotPlain_Marks : PySem.W.kitOne K (.ref (He.ga K "NotPlain")) (.ref (He.ga K "Marks")) = some false
  is_NotPlain_Twice : PySem.W.kitOne K (.ref (He.ga K "NotPlain")) (.ref (He.ga K "Twice")) = some false
  is_NotPlain_NoPairs : PySem.W.kitOne K (.ref (He.ga K "NotPlain")) (.ref (He.ga K "NoPairs")) = some false
  is_NotPlain_NoPicture : PySem.W.kitOne K (.ref (He.ga K "NotPlain")) (.ref (He.ga K "NoPicture")) = some false
  is_NotPlain_NotPlain : PySem.W.kitOne K (.ref (He.ga K "NotPlain")) (.ref (He.ga K "NotPlain")) = some true
  is_NotPlain_ValueError : PySem.W.kitOne K (.ref (He.ga K "NotPlain")) (.type "ValueError") = some true
  is_NotPlain_KinError : PySem.W.kitOne K (.ref (He.ga K "NotPlain")) (.ref (He.ga K "KinError")) = some true
  x_NoBook : XC K (He.ga K "NoBook")
  xi_NoBook : XIn K (He.ga K "NoBook") (He.fAd K ("NoBook", some "__init__")) ["word", "number"]
  fi_NoBook : ∃ fd, FunD K "__init__" "NoBook.__init__" (defArgs si_NoBook) (defBody si_NoBook) (defScope si_NoBook) [] [] (He.fAd K ("NoBook", some "__init__")) fd
  x_NoRow : XC K (He.ga K "NoRow")
  xi_NoRow : XIn K (He.ga K "NoRow") (He.fAd K ("NoRow", some "__init__")) []
  fi_NoRow : ∃ fd, FunD K "__init__" "NoRow.__init__" (defArgs si_NoRow) (defBody si_NoRow) (defScope si_NoRow) [] [] (He.fAd K ("NoRow", some "__init__")) fd
  x_NoName : XC K (He.ga K "NoName")
  xi_NoName : XIn K (He.ga K "NoName") (He.fAd K ("NoName", some "__init__")) ["name"]
  fi_NoName : ∃ fd, FunD K "__init__" "NoName.__init__" (defArgs si_NoName) (defBody si_NoName) (defScope si_NoName) [] [] (He.fAd K ("NoName", some "__init__")) fd
  x_Known : XC K (He.ga K "Known")
  xi_Known : XIn K (He.ga K "Known") (He.fAd K ("Known", some "__init__")) []
  fi_Known : ∃ fd, FunD K "__init__" "Known.__init__" (defArgs si_Known) (defBody si_Known) (defScope si_Known) [] [] (He.fAd K ("Known", some "__init__")) fd
  x_Unknown : XC K (He.ga K "Unknown")
  xi_Unknown : XIn K (He.ga K "Unknown") (He.fAd K ("Unknown", some "__init__")) []
  fi_Unknown : ∃ fd, FunD K "__init__" "Unknown.__init__" (defArgs si_Unknown) (defBody si_Unknown) (defScope si_Unknown) [] [] (He.fAd K ("Unknown", some "__init__")) fd
  x_InUse : XC K (He.ga K "InUse")
  xi_InUse : XIn K (He.ga K "InUse") (He.fAd K ("InUse", some "__init__")) []
  fi_InUse : ∃ fd, FunD K "__init__" "InUse.__init__" (defArgs si_InUse) (defBody si_InUse) (defScope si_InUse) [] [] (He.fAd K ("InUse", some "__init__")) fd
  x_TooMuch : XC K (He.ga K "TooMuch")
  xi_TooMuch : XIn K (He.ga K "TooMuch") (He.fAd K ("TooMuch", some "__init__")) []
  fi_TooMuch : ∃ fd, FunD K "__init__" "TooMuch.__init__" (defArgs si_TooMuch) (defBody si_TooMuch) (defScope si_TooMuch) [] [] (He.fAd K ("TooMuch", some "__init__")) fd
  x_NoText : XC K (He.ga K "NoText")
  xi_NoText : XIn K (He.ga K "NoText") (He.fAd K ("NoText", some "__init__")) ["line"]
  fi_NoText : ∃ fd, FunD K "__init__" "NoText.__init__" (defArgs si_NoText) (defBody si_NoText) (defScope si_NoText) [] [] (He.fAd K ("NoText", some "__init__")) fd
  x_TooMany : XC K (He.ga K "TooMany")
  xi_TooMany : XIn K (He.ga K "TooMany") (He.fAd K ("TooMany", some "__init__")) []
  fi_TooMany : ∃ fd, FunD K "__init__" "TooMany.__init__" (defArgs si_TooMany) (defBody si_TooMany) (defScope si_TooMany) [] [] (He.fAd K ("TooMany", some "__init__")) fd
  x_NoReading : XC K (He.ga K "NoReading")
  xi_NoReading : XIn K (He.ga K "NoReading") (He.fAd K ("NoReading", some "__init__")) []
  fi_NoReading : ∃ fd, FunD K "__init__" "NoReading.__init__" (defArgs si_NoReading) (defBody si_NoReading) (defScope si_NoReading) [] [] (He.fAd K ("NoReading", some "__init__")) fd
  x_NoRows : XC K (He.ga K "NoRows")
  xi_NoRows : XIn K (He.ga K "NoRows") (He.fAd K ("NoRows", some "__init__")) ["ring"]
  fi_NoRows : ∃ fd, FunD K "__init__" "NoRows.__init__" (defArgs si_NoRows) (defBody si_NoRows) (defScope si_NoRows) [] [] (He.fAd K ("NoRows", some "__init__")) fd
  x_NoDrawing : XC K (He.ga K "NoDrawing")
  xi_NoDrawing : XIn K (He.ga K "NoDrawing") (He.fAd K ("NoDrawing", some "__init__")) []
  fi_NoDrawing : ∃ fd, FunD K "__init__" "NoDrawing.__init__" (defArgs si_NoDrawing) (defBody si_NoDrawing) (defScope si_NoDrawing) [] [] (He.fAd K ("NoDrawing", some "__init__")) fd
  x_NoPicture : XC K (He.ga K "NoPicture")
  xi_NoPicture : XIn K (He.ga K "NoPicture") (He.fAd K ("NoPicture", some "__init__")) []
  fi_NoPicture : ∃ fd, FunD K "__init__" "NoPicture.__init__" (defArgs si_NoPicture) (defBody si_NoPicture) (defScope si_NoPicture) [] [] (He.fAd K ("NoPicture", some "__init__")) fd
  x_NoPairs : XC K (He.ga K "NoPairs")
  xi_NoPairs : XIn K (He.ga K "NoPairs") (He.fAd K ("NoPairs", some "__init__")) []
  fi_NoPairs : ∃ fd, FunD K "__init__" "NoPairs.__init__" (defArgs si_NoPairs) (defBody si_NoPairs) (defScope si_NoPairs) [] [] (He.fAd K ("NoPairs", some "__init__")) fd
  x_Twice : XC K (He.ga K "Twice")
  xi_Twice : XIn K (He.ga K "Twice") (He.fAd K ("Twice", some "__init__")) ["name"]
  fi_Twice : ∃ fd, FunD K "__init__" "Twice.__init__" (defArgs si_Twice) (defBody si_Twice) (defScope si_Twice) [] [] (He.fAd K ("Twice", some "__init__")) fd
  x_Marks : XC K (He.ga K "Marks")
  xi_Marks : XIn K (He.ga K "Marks") (He.fAd K ("Marks", some "__init__")) ["name"]
  fi_Marks : ∃ fd, FunD K "__init__" "Marks.__init__" (defArgs si_Marks) (defBody si_Marks) (defScope si_Marks) [] [] (He.fAd K ("Marks", some "__init__")) fd
  x_NotPlain : XC K (He.ga K "NotPlain")
  xi_NotPlain : XIn K (He.ga K "NotPlain") (He.fAd K ("NotPlain", some "__init__")) []
  fi_NotPlain : ∃ fd, FunD K "__init__" "NotPlain.__init__" (defArgs si_NotPlain) (defBody si_NotPlain) (defScope si_NotPlain) [] [] (He.fAd K ("NotPlain", some "__init__")) fd
theorem vc_the_law : VC N_the_law sp_the_law c_the_law := vc_law x_the_law law_true
section
variable {P : Program} {w : World} {K : PySem.W.Frag} {mg : Str → Option Value} {base : Heap}
theorem sci_NoBook : FnScope (["self", "word", "number"] : List Str) (["self", "word", "number"] : List Str) (defScope si_NoBook) := ⟨rfl, rfl, rfl, by decide +kernel, rfl, by decide +kernel, by decide +kernel⟩
theorem xok_NoBook (Z : Zx K mg) : XOk P w K mg base "NoBook" ["word", "number"] := by
  obtain ⟨fd, F⟩ := Z.fi_NoBook
  exact ⟨Z.x_NoBook, Z.gm_NoBook, _, fd, (["self", "word", "number"] : List Str), Z.xi_NoBook, init2 F sci_NoBook Z.x_NoBook.oex (Z.xi_NoBook.no _ (by simp)) (Z.xi_NoBook.no _ (by simp)) (fun cdv A outer s H E => (pss_cons (ps_expr (pe_keinit Z.ke rfl Z.gm_KinError (pa_cons (pe_var (i := 0) rfl (.inl rfl)) (pa_cons pe_str pa_nil)))) (pss_cons (ps_ost (pe_var (i := 0) rfl (.inl rfl)) (pe_var (i := 1) rfl (.inl rfl))) (pss_cons (ps_ost (pe_var (i := 0) rfl (.inl rfl)) (pe_var (i := 2) rfl (.inl rfl))) pss_nil)))), F.bindsN fun _ _ _ _ _ _ us hl => match us, hl with | [_, _, _], _ => rfl⟩
theorem sci_NoRow : FnScope (["self"] : List Str) (["self"] : List Str) (defScope si_NoRow) := ⟨rfl, rfl, rfl, by decide +kernel, rfl, by decide +kernel, by decide +kernel⟩
theorem xok_NoRow (Z : Zx K mg) : XOk P w K mg base "NoRow" [] := by
  obtain ⟨fd, F⟩ := Z.fi_NoRow
  exact ⟨Z.x_NoRow, Z.gm_NoRow, _, fd, (["self"] : List Str), Z.xi_NoRow, init0 F sci_NoRow Z.x_NoRow.oex  (fun cdv A outer s H E => (pss_cons (ps_expr (pe_keinit Z.ke rfl Z.gm_KinError (pa_cons (pe_var (i := 0) rfl (.inl rfl)) (pa_cons pe_str pa_nil)))) pss_nil)), F.bindsN fun _ _ _ _ _ _ us hl => match us, hl with | [_], _ => rfl⟩
theorem sci_NoName : FnScope (["self", "name"] : List Str) (["self", "name"] : List Str) (defScope si_NoName) := ⟨rfl, rfl, rfl, by decide +kernel, rfl, by decide +kernel, by decide +kernel⟩
theorem xok_NoName (Z : Zx K mg) : XOk P w K mg base "NoName" ["name"] := by
  obtain ⟨fd, F⟩ := Z.fi_NoName
  exact ⟨Z.x_NoName, Z.gm_NoName, _, fd, (["self", "name"] : List Str), Z.xi_NoName, init1 F sci_NoName Z.x_NoName.oex (Z.xi_NoName.no _ (by simp)) (fun cdv A outer s H E => (pss_cons (ps_expr (pe_keinit Z.ke rfl Z.gm_KinError (pa_cons (pe_var (i := 0) rfl (.inl rfl)) (pa_cons pe_str pa_nil)))) (pss_cons (ps_ost (pe_var (i := 0) rfl (.inl rfl)) (pe_var (i := 1) rfl (.inl rfl))) pss_nil))), F.bindsN fun _ _ _ _ _ _ us hl => match us, hl with | [_, _], _ => rfl⟩
theorem sci_Known : FnScope (["self"] : List Str) (["self"] : List Str) (defScope si_Known) := ⟨rfl, rfl, rfl, by decide +kernel, rfl, by decide +kernel, by decide +kernel⟩
theorem xok_Known (Z : Zx K mg) : XOk P w K mg base "Known" [] := by
  obtain ⟨fd, F⟩ := Z.fi_Known
  exact ⟨Z.x_Known, Z.gm_Known, _, fd, (["self"] : List Str), Z.xi_Known, init0 F sci_Known Z.x_Known.oex  (fun cdv A outer s H E => (pss_cons (ps_expr (pe_keinit Z.ke rfl Z.gm_KinError (pa_cons (pe_var (i := 0) rfl (.inl rfl)) (pa_cons pe_str pa_nil)))) pss_nil)), F.bindsN fun _ _ _ _ _ _ us hl => match us, hl with | [_], _ => rfl⟩
theorem sci_Unknown : FnScope (["self"] : List Str) (["self"] : List Str) (defScope si_Unknown) := ⟨rfl, rfl, rfl, by decide +kernel, rfl, by decide +kernel, by decide +kernel⟩
theorem xok_Unknown (Z : Zx K mg) : XOk P w K mg base "Unknown" [] := by
  obtain ⟨fd, F⟩ := Z.fi_Unknown
  exact ⟨Z.x_Unknown, Z.gm_Unknown, _, fd, (["self"] : List Str), Z.xi_Unknown, init0 F sci_Unknown Z.x_Unknown.oex  (fun cdv A outer s H E => (pss_cons (ps_expr (pe_keinit Z.ke rfl Z.gm_KinError (pa_cons (pe_var (i := 0) rfl (.inl rfl)) (pa_cons pe_str pa_nil)))) pss_nil)), F.bindsN fun _ _ _ _ _ _ us hl => match us, hl with | [_], _ => rfl⟩
theorem sci_InUse : FnScope (["self"] : List Str) (["self"] : List Str) (defScope si_InUse) := ⟨rfl, rfl, rfl, by decide +kernel, rfl, by decide +kernel, by decide +kernel⟩
theorem xok_InUse (Z : Zx K mg) : XOk P w K mg base "InUse" [] := by
  obtain ⟨fd, F⟩ := Z.fi_InUse
  exact ⟨Z.x_InUse, Z.gm_InUse, _, fd, (["self"] : List Str), Z.xi_InUse, init0 F sci_InUse Z.x_InUse.oex  (fun cdv A outer s H E => (pss_cons (ps_expr (pe_keinit Z.ke rfl Z.gm_KinError (pa_cons (pe_var (i := 0) rfl (.inl rfl)) (pa_cons pe_str pa_nil)))) pss_nil)), F.bindsN fun _ _ _ _ _ _ us hl => match us, hl with | [_], _ => rfl⟩
theorem sci_TooMuch : FnScope (["self"] : List Str) (["self"] : List Str) (defScope si_TooMuch) := ⟨rfl, rfl, rfl, by decide +kernel, rfl, by decide +kernel, by decide +kernel⟩
theorem xok_TooMuch (Z : Zx K mg) : XOk P w K mg base "TooMuch" [] := by
  obtain ⟨fd, F⟩ := Z.fi_TooMuch
  exact ⟨Z.x_TooMuch, Z.gm_TooMuch, _, fd, (["self"] : List Str), Z.xi_TooMuch, init0 F sci_TooMuch Z.x_TooMuch.oex  (fun cdv A outer s H E => (pss_cons (ps_expr (pe_keinit Z.ke rfl Z.gm_KinError (pa_cons (pe_var (i := 0) rfl (.inl rfl)) (pa_cons pe_str pa_nil)))) pss_nil)), F.bindsN fun _ _ _ _ _ _ us hl => match us, hl with | [_], _ => rfl⟩
theorem sci_NoText : FnScope (["self", "line"] : List Str) (["self", "line"] : List Str) (defScope si_NoText) := ⟨rfl, rfl, rfl, by decide +kernel, rfl, by decide +kernel, by decide +kernel⟩
theorem xok_NoText (Z : Zx K mg) : XOk P w K mg base "NoText" ["line"] := by
  obtain ⟨fd, F⟩ := Z.fi_NoText
  exact ⟨Z.x_NoText, Z.gm_NoText, _, fd, (["self", "line"] : List Str), Z.xi_NoText, init1 F sci_NoText Z.x_NoText.oex (Z.xi_NoText.no _ (by simp)) (fun cdv A outer s H E => (pss_cons (ps_expr (pe_keinit Z.ke rfl Z.gm_KinError (pa_cons (pe_var (i := 0) rfl (.inl rfl)) (pa_cons pe_str pa_nil)))) (pss_cons (ps_ost (pe_var (i := 0) rfl (.inl rfl)) (pe_var (i := 1) rfl (.inl rfl))) pss_nil))), F.bindsN fun _ _ _ _ _ _ us hl => match us, hl with | [_, _], _ => rfl⟩
theorem sci_TooMany : FnScope (["self"] : List Str) (["self"] : List Str) (defScope si_TooMany) := ⟨rfl, rfl, rfl, by decide +kernel, rfl, by decide +kernel, by decide +kernel⟩
theorem xok_TooMany (Z : Zx K mg) : XOk P w K mg base "TooMany" [] := by
  obtain ⟨fd, F⟩ := Z.fi_TooMany
  exact ⟨Z.x_TooMany, Z.gm_TooMany, _, fd, (["self"] : List Str), Z.xi_TooMany, init0 F sci_TooMany Z.x_TooMany.oex  (fun cdv A outer s H E => (pss_cons (ps_expr (pe_keinit Z.ke rfl Z.gm_KinError (pa_cons (pe_var (i := 0) rfl (.inl rfl)) (pa_cons pe_str pa_nil)))) pss_nil)), F.bindsN fun _ _ _ _ _ _ us hl => match us, hl with | [_], _ => rfl⟩
theorem sci_NoReading : FnScope (["self"] : List Str) (["self"] : List Str) (defScope si_NoReading) := ⟨rfl, rfl, rfl, by decide +kernel, rfl, by decide +kernel, by decide +kernel⟩
theorem xok_NoReading (Z : Zx K mg) : XOk P w K mg base "NoReading" [] := by
  obtain ⟨fd, F⟩ := Z.fi_NoReading
  exact ⟨Z.x_NoReading, Z.gm_NoReading, _, fd, (["self"] : List Str), Z.xi_NoReading, init0 F sci_NoReading Z.x_NoReading.oex  (fun cdv A outer s H E => (pss_cons (ps_expr (pe_keinit Z.ke rfl Z.gm_KinError (pa_cons (pe_var (i := 0) rfl (.inl rfl)) (pa_cons pe_str pa_nil)))) pss_nil)), F.bindsN fun _ _ _ _ _ _ us hl => match us, hl with | [_], _ => rfl⟩
theorem sci_NoRows : FnScope (["self", "ring"] : List Str) (["self", "ring"] : List Str) (defScope si_NoRows) := ⟨rfl, rfl, rfl, by decide +kernel, rfl, by decide +kernel, by decide +kernel⟩
theorem xok_NoRows (Z : Zx K mg) : XOk P w K mg base "NoRows" ["ring"] := by
  obtain ⟨fd, F⟩ := Z.fi_NoRows
  exact ⟨Z.x_NoRows, Z.gm_NoRows, _, fd, (["self", "ring"] : List Str), Z.xi_NoRows, init1 F sci_NoRows Z.x_NoRows.oex (Z.xi_NoRows.no _ (by simp)) (fun cdv A outer s H E => (pss_cons (ps_expr (pe_keinit Z.ke rfl Z.gm_KinError (pa_cons (pe_var (i := 0) rfl (.inl rfl)) (pa_cons pe_str pa_nil)))) (pss_cons (ps_ost (pe_var (i := 0) rfl (.inl rfl)) (pe_var (i := 1) rfl (.inl rfl))) pss_nil))), F.bindsN fun _ _ _ _ _ _ us hl => match us, hl with | [_, _], _ => rfl⟩
theorem sci_NoDrawing : FnScope (["self"] : List Str) (["self"] : List Str) (defScope si_NoDrawing) := ⟨rfl, rfl, rfl, by decide +kernel, rfl, by decide +kernel, by decide +kernel⟩
theorem xok_NoDrawing (Z : Zx K mg) : XOk P w K mg base "NoDrawing" [] := by
  obtain ⟨fd, F⟩ := Z.fi_NoDrawing
  exact ⟨Z.x_NoDrawing, Z.gm_NoDrawing, _, fd, (["self"] : List Str), Z.xi_NoDrawing, init0 F sci_NoDrawing Z.x_NoDrawing.oex  (fun cdv A outer s H E => (pss_cons (ps_expr (pe_keinit Z.ke rfl Z.gm_KinError (pa_cons (pe_var (i := 0) rfl (.inl rfl)) (pa_cons pe_str pa_nil)))) pss_nil)), F.bindsN fun _ _ _ _ _ _ us hl => match us, hl with | [_], _ => rfl⟩
theorem sci_NoPicture : FnScope (["self"] : List Str) (["self"] : List Str) (defScope si_NoPicture) := ⟨rfl, rfl, rfl, by decide +kernel, rfl, by decide +kernel, by decide +kernel⟩
theorem xok_NoPicture (Z : Zx K mg) : XOk P w K mg base "NoPicture" [] := by
  obtain ⟨fd, F⟩ := Z.fi_NoPicture
  exact ⟨Z.x_NoPicture, Z.gm_NoPicture, _, fd, (["self"] : List Str), Z.xi_NoPicture, init0 F sci_NoPicture Z.x_NoPicture.oex  (fun cdv A outer s H E => (pss_cons (ps_expr (pe_keinit Z.ke rfl Z.gm_KinError (pa_cons (pe_var (i := 0) rfl (.inl rfl)) (pa_cons pe_str pa_nil)))) pss_nil)), F.bindsN fun _ _ _ _ _ _ us hl => match us, hl with | [_], _ => rfl⟩
theorem sci_NoPairs : FnScope (["self"] : List Str) (["self"] : List Str) (defScope si_NoPairs) := ⟨rfl, rfl, rfl, by decide +kernel, rfl, by decide +kernel, by decide +kernel⟩
theorem xok_NoPairs (Z : Zx K mg) : XOk P w K mg base "NoPairs" [] := by
  obtain ⟨fd, F⟩ := Z.fi_NoPairs
  exact ⟨Z.x_NoPairs, Z.gm_NoPairs, _, fd, (["self"] : List Str), Z.xi_NoPairs, init0 F sci_NoPairs Z.x_NoPairs.oex  (fun cdv A outer s H E => (pss_cons (ps_expr (pe_keinit Z.ke rfl Z.gm_KinError (pa_cons (pe_var (i := 0) rfl (.inl rfl)) (pa_cons pe_str pa_nil)))) pss_nil)), F.bindsN fun _ _ _ _ _ _ us hl => match us, hl with | [_], _ => rfl⟩
theorem sci_Twice : FnScope (["self", "name"] : List Str) (["self", "name"] : List Str) (defScope si_Twice) := ⟨rfl, rfl, rfl, by decide +kernel, rfl, by decide +kernel, by decide +kernel⟩
theorem xok_Twice (Z : Zx K mg) : XOk P w K mg base "Twice" ["name"] := by
  obtain ⟨fd, F⟩ := Z.fi_Twice
  exact ⟨Z.x_Twice, Z.gm_Twice, _, fd, (["self", "name"] : List Str), Z.xi_Twice, init1 F sci_Twice Z.x_Twice.oex (Z.xi_Twice.no _ (by simp)) (fun cdv A outer s H E => (pss_cons (ps_expr (pe_keinit Z.ke rfl Z.gm_KinError (pa_cons (pe_var (i := 0) rfl (.inl rfl)) (pa_cons pe_str pa_nil)))) (pss_cons (ps_ost (pe_var (i := 0) rfl (.inl rfl)) (pe_var (i := 1) rfl (.inl rfl))) pss_nil))), F.bindsN fun _ _ _ _ _ _ us hl => match us, hl with | [_, _], _ => rfl⟩
theorem sci_Marks : FnScope (["self", "name"] : List Str) (["self", "name"] : List Str) (defScope si_Marks) := ⟨rfl, rfl, rfl, by decide +kernel, rfl, by decide +kernel, by decide +kernel⟩
theorem xok_Marks (Z : Zx K mg) : XOk P w K mg base "Marks" ["name"] := by
  obtain ⟨fd, F⟩ := Z.fi_Marks
  exact ⟨Z.x_Marks, Z.gm_Marks, _, fd, (["self", "name"] : List Str), Z.xi_Marks, init1 F sci_Marks Z.x_Marks.oex (Z.xi_Marks.no _ (by simp)) (fun cdv A outer s H E => (pss_cons (ps_expr (pe_keinit Z.ke rfl Z.gm_KinError (pa_cons (pe_var (i := 0) rfl (.inl rfl)) (pa_cons pe_str pa_nil)))) (pss_cons (ps_ost (pe_var (i := 0) rfl (.inl rfl)) (pe_var (i := 1) rfl (.inl rfl))) pss_nil))), F.bindsN fun _ _ _ _ _ _ us hl => match us, hl with | [_, _], _ => rfl⟩
theorem sci_NotPlain : FnScope (["self"] : List Str) (["self"] : List Str) (defScope si_NotPlain) := ⟨rfl, rfl, rfl, by decide +kernel, rfl, by decide +kernel, by decide +kernel⟩
theorem xok_NotPlain (Z : Zx K mg) : XOk P w K mg base "NotPlain" [] := by
  obtain ⟨fd, F⟩ := Z.fi_NotPlain
  exact ⟨Z.x_NotPlain, Z.gm_NotPlain, _, fd, (["self"] : List Str), Z.xi_NotPlain, init0 F sci_NotPlain Z.x_NotPlain.oex  (fun cdv A outer s H E => (pss_cons (ps_expr (pe_keinit Z.ke rfl Z.gm_KinError (pa_cons (pe_var (i := 0) rfl (.inl rfl)) (pa_cons pe_str pa_nil)))) pss_nil)), F.bindsN fun _ _ _ _ _ _ us hl => match us, hl with | [_], _ => rfl⟩
theorem sc_law_pen_of : FnScope N_law_pen_of (["_law_script"] : List Str) (defScope s_law_pen_of) := ⟨rfl, rfl, rfl, by decide +kernel, rfl, by decide +kernel, by decide +kernel⟩
theorem ok_law_pen_of (Z : Zx K mg) : Okf P w K mg base 1 "_law_pen_of" (["_law_script"] : List Str) sp_law_pen_of := by
  obtain ⟨fd, F⟩ := Z.f_law_pen_of
  have hb : ∀ (cdv : Value) (A : Around) (outer : List Env) (s : Shared) (H : Hp) (E : XK), Room 0 (A.deeper (envOfC "_law_pen_of" (defScope s_law_pen_of) s.heap.objs.size (He.ga K "_law_pen_of") cdv)) → TSs (cxOf (L2N.CX P w) P w K mg base N_law_pen_of "_law_pen_of" (defScope s_law_pen_of) (He.ga K "_law_pen_of") cdv A outer s H E) (defBody s_law_pen_of) c_law_pen_of := fun cdv A outer s H E hr =>
    (tss_cons (ts_ret (te_lstM (ta_cons (te_comp rfl sc_law_pen_of.nd (ti_seq (te_slice (te_var (i := 0) rfl (.inl rfl)) to_no (to_some te_int))) (ow := [("_law_cell", 1)]) (blkOk_by (by kernel_rfl)) (fun _ _ _ _ _ => (tg_name (i := 1) (by decide) sc_law_pen_of.nd rfl (.inl rfl))) (fun _ _ _ _ _ => tbs_nil) (fun _ _ _ _ _ => (te_var (i := 1) rfl (.inl rfl)))) (ta_cons te_int (ta_cons te_int ta_nil)))))
      tss_nil)
  exact ⟨fd, fn_t F sc_law_pen_of len_law_pen_of hb vc_law_pen_of, Z.g_law_pen_of, F.kp, F.bindsN fun _ _ _ _ _ _ us hl => match us, hl with | [_], _ => rfl⟩
theorem sc_law_draw : FnScope N_law_draw (["_law_pen", "_law_many"] : List Str) (defScope s_law_draw) := ⟨rfl, rfl, rfl, by decide +kernel, rfl, by decide +kernel, by decide +kernel⟩
theorem ok_law_draw (Z : Zx K mg) : Okf P w K mg base 1 "_law_draw" (["_law_pen", "_law_many"] : List Str) sp_law_draw := by
  obtain ⟨fd, F⟩ := Z.f_law_draw
  have hb : ∀ (cdv : Value) (A : Around) (outer : List Env) (s : Shared) (H : Hp) (E : XK), Room 0 (A.deeper (envOfC "_law_draw" (defScope s_law_draw) s.heap.objs.size (He.ga K "_law_draw") cdv)) → TSs (cxOf (L2N.CX P w) P w K mg base N_law_draw "_law_draw" (defScope s_law_draw) (He.ga K "_law_draw") cdv A outer s H E) (defBody s_law_draw) c_law_draw := fun cdv A outer s H E hr =>
    (tss_cons (ts_if (tb_cmp (op_gtT (u64 hr)) (te_ix (te_var (i := 0) rfl (.inl rfl)) te_int) te_int rfl) (tss_cons (ts_set (i := 2) sc_law_draw.nd rfl (.inl rfl) (te_bin op_modT (te_ix (te_var (i := 0) rfl (.inl rfl)) te_int) (te_var (i := 1) rfl (.inl rfl))))
      (tss_cons (ts_asg (vs := []) (te_bin op_fdivT (te_ix (te_var (i := 0) rfl (.inl rfl)) te_int) (te_var (i := 1) rfl (.inl rfl))) (tg_ix (te_var (i := 0) rfl (.inl rfl)) te_int))
      (tss_cons (ts_ret (te_var (i := 2) rfl (.inl rfl)))
      tss_nil))) tss_nil)
      (tss_cons (ts_set (i := 3) sc_law_draw.nd rfl (.inl rfl) (te_ix (te_var (i := 0) rfl (.inl rfl)) te_int))
      (tss_cons (ts_asg (vs := []) (te_bin op_addT (te_var (i := 3) rfl (.inl rfl)) te_int) (tg_ix (te_var (i := 0) rfl (.inl rfl)) te_int))
      (tss_cons (ts_set (i := 4) sc_law_draw.nd rfl (.inl rfl) te_int)
      (tss_cons (ts_if (tb_cmp (op_gtT (u64 hr)) (te_fnB fn_len rfl Z.b_len boot_len (ta_cons (te_ix (te_var (i := 0) rfl (.inl rfl)) te_int) ta_nil)) te_int rfl) (tss_cons (ts_set (i := 4) sc_law_draw.nd rfl (.inl rfl) (te_ix (te_ix (te_var (i := 0) rfl (.inl rfl)) te_int) (te_bin op_modT (te_var (i := 3) rfl (.inl rfl)) (te_fnB fn_len rfl Z.b_len boot_len (ta_cons (te_ix (te_var (i := 0) rfl (.inl rfl)) te_int) ta_nil)))))
      tss_nil) tss_nil)
      (tss_cons (ts_if (TW.toB (tw_and (tb_cmp (op_ltT (u64 hr)) (te_var (i := 3) rfl (.inl rfl)) (te_fnB fn_len rfl Z.b_len boot_len (ta_cons (te_ix (te_var (i := 0) rfl (.inl rfl)) te_int) ta_nil)) rfl) (tw_and1 (tb_cmp (op_geT (u64 hr)) (te_fnB fn_abs rfl Z.b_abs boot_abs (ta_cons (te_var (i := 4) rfl (.inl rfl)) ta_nil)) (te_bin op_powT te_int te_int) rfl)))) (tss_cons (ts_asg (vs := []) (te_bin op_fdivT (te_fnB fn_abs rfl Z.b_abs boot_abs (ta_cons (te_var (i := 4) rfl (.inl rfl)) ta_nil)) (te_var (i := 1) rfl (.inl rfl))) (tg_ix (te_var (i := 0) rfl (.inl rfl)) te_int))
      (tss_cons (ts_ret (te_bin op_modT (te_fnB fn_abs rfl Z.b_abs boot_abs (ta_cons (te_var (i := 4) rfl (.inl rfl)) ta_nil)) (te_var (i := 1) rfl (.inl rfl))))
      tss_nil)) tss_nil)
      (tss_cons (ts_set (i := 5) sc_law_draw.nd rfl (.inl rfl) (te_bin op_modT (te_bin op_mulT2 (te_bin op_addT (te_bin op_addT (te_bin op_modT (te_var (i := 4) rfl (.inl rfl)) te_int) (te_bin op_mulT2 te_int (te_var (i := 3) rfl (.inl rfl)))) te_int) te_int) te_int))
      (tss_cons (ts_set (i := 5) sc_law_draw.nd rfl (.inl rfl) (te_bin op_modT (te_bin op_mulT2 (te_bin op_modT (te_bin op_mulT2 (te_var (i := 5) rfl (.inl rfl)) (te_var (i := 5) rfl (.inl rfl))) te_int) (te_bin op_addT (te_bin op_addT (te_bin op_modT (te_var (i := 5) rfl (.inl rfl)) te_int) (te_bin op_mulT2 te_int (te_var (i := 3) rfl (.inl rfl)))) te_int)) te_int))
      (tss_cons (ts_ret (te_bin op_modT (te_bin op_fdivT (te_var (i := 5) rfl (.inl rfl)) te_int) (te_var (i := 1) rfl (.inl rfl))))
      tss_nil)))))))))
  exact ⟨fd, fn_t F sc_law_draw len_law_draw hb vc_law_draw, Z.g_law_draw, F.kp, F.bindsN fun _ _ _ _ _ _ us hl => match us, hl with | [_, _], _ => rfl⟩
theorem sc_law_are_same : FnScope N_law_are_same (["_law_found", "_law_due"] : List Str) (defScope s_law_are_same) := ⟨rfl, rfl, rfl, by decide +kernel, rfl, by decide +kernel, by decide +kernel⟩
theorem okr_law_are_same (Z : Zx K mg) : ∀ n : Nat, Okf P w K mg base (0 + n) "_law_are_same" (["_law_found", "_law_due"] : List Str) (rp_law_are_same n)
  | 0 => by
    obtain ⟨fd, F⟩ := Z.f_law_are_same
    exact ⟨fd, fn_none (us2 fun _ _ => rfl), Z.g_law_are_same, F.kp, F.bindsN fun _ _ _ _ _ _ us hl => match us, hl with | [_, _], _ => rfl⟩
  | n + 1 => by
    have O_law_are_same := okr_law_are_same Z n
    obtain ⟨fd, F⟩ := Z.f_law_are_same
    have hb : ∀ (cdv : Value) (A : Around) (outer : List Env) (s : Shared) (H : Hp) (E : XK), Room (0 + n) (A.deeper (envOfC "_law_are_same" (defScope s_law_are_same) s.heap.objs.size (He.ga K "_law_are_same") cdv)) → TSs (cxOf (L2N.CX P w) P w K mg base N_law_are_same "_law_are_same" (defScope s_law_are_same) (He.ga K "_law_are_same") cdv A outer s H E) (defBody s_law_are_same) (c_law_are_same n) := fun cdv A outer s H E hr =>
    (tss_cons (ts_if (tb_val (te_isi2 .lst .tup (te_var (i := 1) rfl (.inl rfl)) rfl Z.b_isinstance rfl Z.b_list rfl Z.b_tuple)) (tss_cons (ts_if (TW.toB (tw_or (tb_not (tb_val (te_isi2 .lst .tup (te_var (i := 0) rfl (.inl rfl)) rfl Z.b_isinstance rfl Z.b_list rfl Z.b_tuple))) (tw_or1 (tb_cmp (op_neT (u64 hr)) (te_isi .lst (te_var (i := 0) rfl (.inl rfl)) rfl Z.b_isinstance rfl Z.b_list) (te_isi .lst (te_var (i := 1) rfl (.inl rfl)) rfl Z.b_isinstance rfl Z.b_list) rfl)))) (tss_cons (ts_ret te_bl)
      tss_nil) tss_nil)
      (tss_cons (ts_if (tb_cmp (op_neT (u64 hr)) (te_fnB fn_len rfl Z.b_len boot_len (ta_cons (te_var (i := 0) rfl (.inl rfl)) ta_nil)) (te_fnB fn_len rfl Z.b_len boot_len (ta_cons (te_var (i := 1) rfl (.inl rfl)) ta_nil)) rfl) (tss_cons (ts_ret te_bl)
      tss_nil) tss_nil)
      (tss_cons (ts_ret (te_fnB (fn_all rfl) rfl Z.b_all boot_all (ta_cons (te_comp rfl sc_law_are_same.nd (ti_zip rfl Z.b_zip (te_var (i := 0) rfl (.inl rfl)) (te_var (i := 1) rfl (.inl rfl))) (ow := [("_law_one", 2), ("_law_other", 3)]) (blkOk_by (by kernel_rfl)) (fun _ _ _ _ _ => (tg_tup rfl (n := 2) (tgs_cons (tg_name (i := 2) (by decide) sc_law_are_same.nd rfl (.inl rfl)) (tgs_cons (tg_name (i := 3) (by decide) sc_law_are_same.nd rfl (.inl rfl)) tgs_nil)) rfl rfl (takes_c (takes_c takes_z)))) (fun _ _ _ _ _ => tbs_nil) (fun _ _ _ _ _ => (te_callO O_law_are_same hr (by omega) rfl (ta_cons (te_var (i := 2) rfl (.inl rfl)) (ta_cons (te_var (i := 3) rfl (.inl rfl)) ta_nil))))) ta_nil)))
      tss_nil))) tss_nil)
      (tss_cons (ts_if (TW.toB (tw_or (tb_cmp (op_neT (u64 hr)) (te_isi .bool (te_var (i := 0) rfl (.inl rfl)) rfl Z.b_isinstance rfl Z.b_bool) (te_isi .bool (te_var (i := 1) rfl (.inl rfl)) rfl Z.b_isinstance rfl Z.b_bool) rfl) (tw_or1 (tb_cmp (op_neT (u64 hr)) (te_isi .str (te_var (i := 0) rfl (.inl rfl)) rfl Z.b_isinstance rfl Z.b_str) (te_isi .str (te_var (i := 1) rfl (.inl rfl)) rfl Z.b_isinstance rfl Z.b_str) rfl)))) (tss_cons (ts_ret te_bl)
      tss_nil) tss_nil)
      (tss_cons (ts_ret (te_and (te_cmp (op_eqT (u64 hr)) (te_isi .int (te_var (i := 0) rfl (.inl rfl)) rfl Z.b_isinstance rfl Z.b_int) (te_isi .int (te_var (i := 1) rfl (.inl rfl)) rfl Z.b_isinstance rfl Z.b_int) rfl) (te_one (te_cmp (op_eqT (u64 hr)) (te_var (i := 0) rfl (.inl rfl)) (te_var (i := 1) rfl (.inl rfl)) rfl))))
      tss_nil)))
    exact ⟨fd, fn_t F sc_law_are_same (len_law_are_same (n + 1)) hb (vc_law_are_same n), Z.g_law_are_same, F.kp, F.bindsN fun _ _ _ _ _ _ us hl => match us, hl with | [_, _], _ => rfl⟩
theorem ok_law_are_same (Z : Zx K mg) : Okf P w K mg base 12 "_law_are_same" (["_law_found", "_law_due"] : List Str) sp_law_are_same := okr_law_are_same Z 12
theorem sc_law_fault_of : FnScope N_law_fault_of (["_law_e"] : List Str) (defScope s_law_fault_of) := ⟨rfl, rfl, rfl, by decide +kernel, rfl, by decide +kernel, by decide +kernel⟩
theorem ok_law_fault_of (Z : Zx K mg) : Okf P w K mg base 1 "_law_fault_of" (["_law_e"] : List Str) sp_law_fault_of := by
  obtain ⟨fd, F⟩ := Z.f_law_fault_of
  have hb : ∀ (cdv : Value) (A : Around) (outer : List Env) (s : Shared) (H : Hp) (E : XK), Room 0 (A.deeper (envOfC "_law_fault_of" (defScope s_law_fault_of) s.heap.objs.size (He.ga K "_law_fault_of") cdv)) → TSs (cxOf (L2N.CX P w) P w K mg base N_law_fault_of "_law_fault_of" (defScope s_law_fault_of) (He.ga K "_law_fault_of") cdv A outer s H E) (defBody s_law_fault_of) c_law_fault_of := fun cdv A outer s H E hr =>
    (tss_cons (ts_set (i := 1) sc_law_fault_of.nd rfl (.inl rfl) (te_lst (ta_cons (te_isx (isx_ok (.cons ⟨Z.x_NoBook, Z.is_NoBook_NoBook⟩ (.cons ⟨Z.x_NoRow, Z.is_NoRow_NoBook⟩ (.cons ⟨Z.x_NoName, Z.is_NoName_NoBook⟩ (.cons ⟨Z.x_Known, Z.is_Known_NoBook⟩ (.cons ⟨Z.x_Unknown, Z.is_Unknown_NoBook⟩ (.cons ⟨Z.x_InUse, Z.is_InUse_NoBook⟩ (.cons ⟨Z.x_TooMuch, Z.is_TooMuch_NoBook⟩ (.cons ⟨Z.x_NoText, Z.is_NoText_NoBook⟩ (.cons ⟨Z.x_TooMany, Z.is_TooMany_NoBook⟩ (.cons ⟨Z.x_NoReading, Z.is_NoReading_NoBook⟩ (.cons ⟨Z.x_NoRows, Z.is_NoRows_NoBook⟩ (.cons ⟨Z.x_NoDrawing, Z.is_NoDrawing_NoBook⟩ (.cons ⟨Z.x_NoPicture, Z.is_NoPicture_NoBook⟩ (.cons ⟨Z.x_NoPairs, Z.is_NoPairs_NoBook⟩ (.cons ⟨Z.x_Twice, Z.is_Twice_NoBook⟩ (.cons ⟨Z.x_Marks, Z.is_Marks_NoBook⟩ (.cons ⟨Z.x_NotPlain, Z.is_NotPlain_NoBook⟩ .nil)))))))))))))))))) (te_var (i := 0) rfl (.inl rfl)) rfl Z.b_isinstance rfl Z.gm_NoBook) (ta_cons (te_isx (isx_ok (.cons ⟨Z.x_NoBook, Z.is_NoBook_NoRow⟩ (.cons ⟨Z.x_NoRow, Z.is_NoRow_NoRow⟩ (.cons ⟨Z.x_NoName, Z.is_NoName_NoRow⟩ (.cons ⟨Z.x_Known, Z.is_Known_NoRow⟩ (.cons ⟨Z.x_Unknown, Z.is_Unknown_NoRow⟩ (.cons ⟨Z.x_InUse, Z.is_InUse_NoRow⟩ (.cons ⟨Z.x_TooMuch, Z.is_TooMuch_NoRow⟩ (.cons ⟨Z.x_NoText, Z.is_NoText_NoRow⟩ (.cons ⟨Z.x_TooMany, Z.is_TooMany_NoRow⟩ (.cons ⟨Z.x_NoReading, Z.is_NoReading_NoRow⟩ (.cons ⟨Z.x_NoRows, Z.is_NoRows_NoRow⟩ (.cons ⟨Z.x_NoDrawing, Z.is_NoDrawing_NoRow⟩ (.cons ⟨Z.x_NoPicture, Z.is_NoPicture_NoRow⟩ (.cons ⟨Z.x_NoPairs, Z.is_NoPairs_NoRow⟩ (.cons ⟨Z.x_Twice, Z.is_Twice_NoRow⟩ (.cons ⟨Z.x_Marks, Z.is_Marks_NoRow⟩ (.cons ⟨Z.x_NotPlain, Z.is_NotPlain_NoRow⟩ .nil)))))))))))))))))) (te_var (i := 0) rfl (.inl rfl)) rfl Z.b_isinstance rfl Z.gm_NoRow) (ta_cons (te_isx (isx_ok (.cons ⟨Z.x_NoBook, Z.is_NoBook_NoName⟩ (.cons ⟨Z.x_NoRow, Z.is_NoRow_NoName⟩ (.cons ⟨Z.x_NoName, Z.is_NoName_NoName⟩ (.cons ⟨Z.x_Known, Z.is_Known_NoName⟩ (.cons ⟨Z.x_Unknown, Z.is_Unknown_NoName⟩ (.cons ⟨Z.x_InUse, Z.is_InUse_NoName⟩ (.cons ⟨Z.x_TooMuch, Z.is_TooMuch_NoName⟩ (.cons ⟨Z.x_NoText, Z.is_NoText_NoName⟩ (.cons ⟨Z.x_TooMany, Z.is_TooMany_NoName⟩ (.cons ⟨Z.x_NoReading, Z.is_NoReading_NoName⟩ (.cons ⟨Z.x_NoRows, Z.is_NoRows_NoName⟩ (.cons ⟨Z.x_NoDrawing, Z.is_NoDrawing_NoName⟩ (.cons ⟨Z.x_NoPicture, Z.is_NoPicture_NoName⟩ (.cons ⟨Z.x_NoPairs, Z.is_NoPairs_NoName⟩ (.cons ⟨Z.x_Twice, Z.is_Twice_NoName⟩ (.cons ⟨Z.x_Marks, Z.is_Marks_NoName⟩ (.cons ⟨Z.x_NotPlain, Z.is_NotPlain_NoName⟩ .nil)))))))))))))))))) (te_var (i := 0) rfl (.inl rfl)) rfl Z.b_isinstance rfl Z.gm_NoName) (ta_cons (te_isx (isx_ok (.cons ⟨Z.x_NoBook, Z.is_NoBook_Known⟩ (.cons ⟨Z.x_NoRow, Z.is_NoRow_Known⟩ (.cons ⟨Z.x_NoName, Z.is_NoName_Known⟩ (.cons ⟨Z.x_Known, Z.is_Known_Known⟩ (.cons ⟨Z.x_Unknown, Z.is_Unknown_Known⟩ (.cons ⟨Z.x_InUse, Z.is_InUse_Known⟩ (.cons ⟨Z.x_TooMuch, Z.is_TooMuch_Known⟩ (.cons ⟨Z.x_NoText, Z.is_NoText_Known⟩ (.cons ⟨Z.x_TooMany, Z.is_TooMany_Known⟩ (.cons ⟨Z.x_NoReading, Z.is_NoReading_Known⟩ (.cons ⟨Z.x_NoRows, Z.is_NoRows_Known⟩ (.cons ⟨Z.x_NoDrawing, Z.is_NoDrawing_Known⟩ (.cons ⟨Z.x_NoPicture, Z.is_NoPicture_Known⟩ (.cons ⟨Z.x_NoPairs, Z.is_NoPairs_Known⟩ (.cons ⟨Z.x_Twice, Z.is_Twice_Known⟩ (.cons ⟨Z.x_Marks, Z.is_Marks_Known⟩ (.cons ⟨Z.x_NotPlain, Z.is_NotPlain_Known⟩ .nil)))))))))))))))))) (te_var (i := 0) rfl (.inl rfl)) rfl Z.b_isinstance rfl Z.gm_Known) ta_nil))))))
      (tss_cons (ts_set (i := 1) sc_law_fault_of.nd rfl (.inl rfl) (te_bin op_addT (te_var (i := 1) rfl (.inl rfl)) (te_lst (ta_cons (te_isx (isx_ok (.cons ⟨Z.x_NoBook, Z.is_NoBook_Unknown⟩ (.cons ⟨Z.x_NoRow, Z.is_NoRow_Unknown⟩ (.cons ⟨Z.x_NoName, Z.is_NoName_Unknown⟩ (.cons ⟨Z.x_Known, Z.is_Known_Unknown⟩ (.cons ⟨Z.x_Unknown, Z.is_Unknown_Unknown⟩ (.cons ⟨Z.x_InUse, Z.is_InUse_Unknown⟩ (.cons ⟨Z.x_TooMuch, Z.is_TooMuch_Unknown⟩ (.cons ⟨Z.x_NoText, Z.is_NoText_Unknown⟩ (.cons ⟨Z.x_TooMany, Z.is_TooMany_Unknown⟩ (.cons ⟨Z.x_NoReading, Z.is_NoReading_Unknown⟩ (.cons ⟨Z.x_NoRows, Z.is_NoRows_Unknown⟩ (.cons ⟨Z.x_NoDrawing, Z.is_NoDrawing_Unknown⟩ (.cons ⟨Z.x_NoPicture, Z.is_NoPicture_Unknown⟩ (.cons ⟨Z.x_NoPairs, Z.is_NoPairs_Unknown⟩ (.cons ⟨Z.x_Twice, Z.is_Twice_Unknown⟩ (.cons ⟨Z.x_Marks, Z.is_Marks_Unknown⟩ (.cons ⟨Z.x_NotPlain, Z.is_NotPlain_Unknown⟩ .nil)))))))))))))))))) (te_var (i := 0) rfl (.inl rfl)) rfl Z.b_isinstance rfl Z.gm_Unknown) (ta_cons (te_isx (isx_ok (.cons ⟨Z.x_NoBook, Z.is_NoBook_InUse⟩ (.cons ⟨Z.x_NoRow, Z.is_NoRow_InUse⟩ (.cons ⟨Z.x_NoName, Z.is_NoName_InUse⟩ (.cons ⟨Z.x_Known, Z.is_Known_InUse⟩ (.cons ⟨Z.x_Unknown, Z.is_Unknown_InUse⟩ (.cons ⟨Z.x_InUse, Z.is_InUse_InUse⟩ (.cons ⟨Z.x_TooMuch, Z.is_TooMuch_InUse⟩ (.cons ⟨Z.x_NoText, Z.is_NoText_InUse⟩ (.cons ⟨Z.x_TooMany, Z.is_TooMany_InUse⟩ (.cons ⟨Z.x_NoReading, Z.is_NoReading_InUse⟩ (.cons ⟨Z.x_NoRows, Z.is_NoRows_InUse⟩ (.cons ⟨Z.x_NoDrawing, Z.is_NoDrawing_InUse⟩ (.cons ⟨Z.x_NoPicture, Z.is_NoPicture_InUse⟩ (.cons ⟨Z.x_NoPairs, Z.is_NoPairs_InUse⟩ (.cons ⟨Z.x_Twice, Z.is_Twice_InUse⟩ (.cons ⟨Z.x_Marks, Z.is_Marks_InUse⟩ (.cons ⟨Z.x_NotPlain, Z.is_NotPlain_InUse⟩ .nil)))))))))))))))))) (te_var (i := 0) rfl (.inl rfl)) rfl Z.b_isinstance rfl Z.gm_InUse) (ta_cons (te_isx (isx_ok (.cons ⟨Z.x_NoBook, Z.is_NoBook_TooMuch⟩ (.cons ⟨Z.x_NoRow, Z.is_NoRow_TooMuch⟩ (.cons ⟨Z.x_NoName, Z.is_NoName_TooMuch⟩ (.cons ⟨Z.x_Known, Z.is_Known_TooMuch⟩ (.cons ⟨Z.x_Unknown, Z.is_Unknown_TooMuch⟩ (.cons ⟨Z.x_InUse, Z.is_InUse_TooMuch⟩ (.cons ⟨Z.x_TooMuch, Z.is_TooMuch_TooMuch⟩ (.cons ⟨Z.x_NoText, Z.is_NoText_TooMuch⟩ (.cons ⟨Z.x_TooMany, Z.is_TooMany_TooMuch⟩ (.cons ⟨Z.x_NoReading, Z.is_NoReading_TooMuch⟩ (.cons ⟨Z.x_NoRows, Z.is_NoRows_TooMuch⟩ (.cons ⟨Z.x_NoDrawing, Z.is_NoDrawing_TooMuch⟩ (.cons ⟨Z.x_NoPicture, Z.is_NoPicture_TooMuch⟩ (.cons ⟨Z.x_NoPairs, Z.is_NoPairs_TooMuch⟩ (.cons ⟨Z.x_Twice, Z.is_Twice_TooMuch⟩ (.cons ⟨Z.x_Marks, Z.is_Marks_TooMuch⟩ (.cons ⟨Z.x_NotPlain, Z.is_NotPlain_TooMuch⟩ .nil)))))))))))))))))) (te_var (i := 0) rfl (.inl rfl)) rfl Z.b_isinstance rfl Z.gm_TooMuch) (ta_cons (te_isx (isx_ok (.cons ⟨Z.x_NoBook, Z.is_NoBook_NoText⟩ (.cons ⟨Z.x_NoRow, Z.is_NoRow_NoText⟩ (.cons ⟨Z.x_NoName, Z.is_NoName_NoText⟩ (.cons ⟨Z.x_Known, Z.is_Known_NoText⟩ (.cons ⟨Z.x_Unknown, Z.is_Unknown_NoText⟩ (.cons ⟨Z.x_InUse, Z.is_InUse_NoText⟩ (.cons ⟨Z.x_TooMuch, Z.is_TooMuch_NoText⟩ (.cons ⟨Z.x_NoText, Z.is_NoText_NoText⟩ (.cons ⟨Z.x_TooMany, Z.is_TooMany_NoText⟩ (.cons ⟨Z.x_NoReading, Z.is_NoReading_NoText⟩ (.cons ⟨Z.x_NoRows, Z.is_NoRows_NoText⟩ (.cons ⟨Z.x_NoDrawing, Z.is_NoDrawing_NoText⟩ (.cons ⟨Z.x_NoPicture, Z.is_NoPicture_NoText⟩ (.cons ⟨Z.x_NoPairs, Z.is_NoPairs_NoText⟩ (.cons ⟨Z.x_Twice, Z.is_Twice_NoText⟩ (.cons ⟨Z.x_Marks, Z.is_Marks_NoText⟩ (.cons ⟨Z.x_NotPlain, Z.is_NotPlain_NoText⟩ .nil)))))))))))))))))) (te_var (i := 0) rfl (.inl rfl)) rfl Z.b_isinstance rfl Z.gm_NoText) ta_nil)))))))
      (tss_cons (ts_set (i := 1) sc_law_fault_of.nd rfl (.inl rfl) (te_bin op_addT (te_var (i := 1) rfl (.inl rfl)) (te_lst (ta_cons (te_isx (isx_ok (.cons ⟨Z.x_NoBook, Z.is_NoBook_TooMany⟩ (.cons ⟨Z.x_NoRow, Z.is_NoRow_TooMany⟩ (.cons ⟨Z.x_NoName, Z.is_NoName_TooMany⟩ (.cons ⟨Z.x_Known, Z.is_Known_TooMany⟩ (.cons ⟨Z.x_Unknown, Z.is_Unknown_TooMany⟩ (.cons ⟨Z.x_InUse, Z.is_InUse_TooMany⟩ (.cons ⟨Z.x_TooMuch, Z.is_TooMuch_TooMany⟩ (.cons ⟨Z.x_NoText, Z.is_NoText_TooMany⟩ (.cons ⟨Z.x_TooMany, Z.is_TooMany_TooMany⟩ (.cons ⟨Z.x_NoReading, Z.is_NoReading_TooMany⟩ (.cons ⟨Z.x_NoRows, Z.is_NoRows_TooMany⟩ (.cons ⟨Z.x_NoDrawing, Z.is_NoDrawing_TooMany⟩ (.cons ⟨Z.x_NoPicture, Z.is_NoPicture_TooMany⟩ (.cons ⟨Z.x_NoPairs, Z.is_NoPairs_TooMany⟩ (.cons ⟨Z.x_Twice, Z.is_Twice_TooMany⟩ (.cons ⟨Z.x_Marks, Z.is_Marks_TooMany⟩ (.cons ⟨Z.x_NotPlain, Z.is_NotPlain_TooMany⟩ .nil)))))))))))))))))) (te_var (i := 0) rfl (.inl rfl)) rfl Z.b_isinstance rfl Z.gm_TooMany) (ta_cons (te_isx (isx_ok (.cons ⟨Z.x_NoBook, Z.is_NoBook_NoReading⟩ (.cons ⟨Z.x_NoRow, Z.is_NoRow_NoReading⟩ (.cons ⟨Z.x_NoName, Z.is_NoName_NoReading⟩ (.cons ⟨Z.x_Known, Z.is_Known_NoReading⟩ (.cons ⟨Z.x_Unknown, Z.is_Unknown_NoReading⟩ (.cons ⟨Z.x_InUse, Z.is_InUse_NoReading⟩ (.cons ⟨Z.x_TooMuch, Z.is_TooMuch_NoReading⟩ (.cons ⟨Z.x_NoText, Z.is_NoText_NoReading⟩ (.cons ⟨Z.x_TooMany, Z.is_TooMany_NoReading⟩ (.cons ⟨Z.x_NoReading, Z.is_NoReading_NoReading⟩ (.cons ⟨Z.x_NoRows, Z.is_NoRows_NoReading⟩ (.cons ⟨Z.x_NoDrawing, Z.is_NoDrawing_NoReading⟩ (.cons ⟨Z.x_NoPicture, Z.is_NoPicture_NoReading⟩ (.cons ⟨Z.x_NoPairs, Z.is_NoPairs_NoReading⟩ (.cons ⟨Z.x_Twice, Z.is_Twice_NoReading⟩ (.cons ⟨Z.x_Marks, Z.is_Marks_NoReading⟩ (.cons ⟨Z.x_NotPlain, Z.is_NotPlain_NoReading⟩ .nil)))))))))))))))))) (te_var (i := 0) rfl (.inl rfl)) rfl Z.b_isinstance rfl Z.gm_NoReading) (ta_cons (te_isx (isx_ok (.cons ⟨Z.x_NoBook, Z.is_NoBook_NoRows⟩ (.cons ⟨Z.x_NoRow, Z.is_NoRow_NoRows⟩ (.cons ⟨Z.x_NoName, Z.is_NoName_NoRows⟩ (.cons ⟨Z.x_Known, Z.is_Known_NoRows⟩ (.cons ⟨Z.x_Unknown, Z.is_Unknown_NoRows⟩ (.cons ⟨Z.x_InUse, Z.is_InUse_NoRows⟩ (.cons ⟨Z.x_TooMuch, Z.is_TooMuch_NoRows⟩ (.cons ⟨Z.x_NoText, Z.is_NoText_NoRows⟩ (.cons ⟨Z.x_TooMany, Z.is_TooMany_NoRows⟩ (.cons ⟨Z.x_NoReading, Z.is_NoReading_NoRows⟩ (.cons ⟨Z.x_NoRows, Z.is_NoRows_NoRows⟩ (.cons ⟨Z.x_NoDrawing, Z.is_NoDrawing_NoRows⟩ (.cons ⟨Z.x_NoPicture, Z.is_NoPicture_NoRows⟩ (.cons ⟨Z.x_NoPairs, Z.is_NoPairs_NoRows⟩ (.cons ⟨Z.x_Twice, Z.is_Twice_NoRows⟩ (.cons ⟨Z.x_Marks, Z.is_Marks_NoRows⟩ (.cons ⟨Z.x_NotPlain, Z.is_NotPlain_NoRows⟩ .nil)))))))))))))))))) (te_var (i := 0) rfl (.inl rfl)) rfl Z.b_isinstance rfl Z.gm_NoRows) (ta_cons (te_isx (isx_ok (.cons ⟨Z.x_NoBook, Z.is_NoBook_NoDrawing⟩ (.cons ⟨Z.x_NoRow, Z.is_NoRow_NoDrawing⟩ (.cons ⟨Z.x_NoName, Z.is_NoName_NoDrawing⟩ (.cons ⟨Z.x_Known, Z.is_Known_NoDrawing⟩ (.cons ⟨Z.x_Unknown, Z.is_Unknown_NoDrawing⟩ (.cons ⟨Z.x_InUse, Z.is_InUse_NoDrawing⟩ (.cons ⟨Z.x_TooMuch, Z.is_TooMuch_NoDrawing⟩ (.cons ⟨Z.x_NoText, Z.is_NoText_NoDrawing⟩ (.cons ⟨Z.x_TooMany, Z.is_TooMany_NoDrawing⟩ (.cons ⟨Z.x_NoReading, Z.is_NoReading_NoDrawing⟩ (.cons ⟨Z.x_NoRows, Z.is_NoRows_NoDrawing⟩ (.cons ⟨Z.x_NoDrawing, Z.is_NoDrawing_NoDrawing⟩ (.cons ⟨Z.x_NoPicture, Z.is_NoPicture_NoDrawing⟩ (.cons ⟨Z.x_NoPairs, Z.is_NoPairs_NoDrawing⟩ (.cons ⟨Z.x_Twice, Z.is_Twice_NoDrawing⟩ (.cons ⟨Z.x_Marks, Z.is_Marks_NoDrawing⟩ (.cons ⟨Z.x_NotPlain, Z.is_NotPlain_NoDrawing⟩ .nil)))))))))))))))))) (te_var (i := 0) rfl (.inl rfl)) rfl Z.b_isinstance rfl Z.gm_NoDrawing) ta_nil)))))))
      (tss_cons (ts_set (i := 1) sc_law_fault_of.nd rfl (.inl rfl) (te_addM (te_var (i := 1) rfl (.inl rfl)) (te_lst (ta_cons (te_isx (isx_ok (.cons ⟨Z.x_NoBook, Z.is_NoBook_NoPicture⟩ (.cons ⟨Z.x_NoRow, Z.is_NoRow_NoPicture⟩ (.cons ⟨Z.x_NoName, Z.is_NoName_NoPicture⟩ (.cons ⟨Z.x_Known, Z.is_Known_NoPicture⟩ (.cons ⟨Z.x_Unknown, Z.is_Unknown_NoPicture⟩ (.cons ⟨Z.x_InUse, Z.is_InUse_NoPicture⟩ (.cons ⟨Z.x_TooMuch, Z.is_TooMuch_NoPicture⟩ (.cons ⟨Z.x_NoText, Z.is_NoText_NoPicture⟩ (.cons ⟨Z.x_TooMany, Z.is_TooMany_NoPicture⟩ (.cons ⟨Z.x_NoReading, Z.is_NoReading_NoPicture⟩ (.cons ⟨Z.x_NoRows, Z.is_NoRows_NoPicture⟩ (.cons ⟨Z.x_NoDrawing, Z.is_NoDrawing_NoPicture⟩ (.cons ⟨Z.x_NoPicture, Z.is_NoPicture_NoPicture⟩ (.cons ⟨Z.x_NoPairs, Z.is_NoPairs_NoPicture⟩ (.cons ⟨Z.x_Twice, Z.is_Twice_NoPicture⟩ (.cons ⟨Z.x_Marks, Z.is_Marks_NoPicture⟩ (.cons ⟨Z.x_NotPlain, Z.is_NotPlain_NoPicture⟩ .nil)))))))))))))))))) (te_var (i := 0) rfl (.inl rfl)) rfl Z.b_isinstance rfl Z.gm_NoPicture) (ta_cons (te_isx (isx_ok (.cons ⟨Z.x_NoBook, Z.is_NoBook_NoPairs⟩ (.cons ⟨Z.x_NoRow, Z.is_NoRow_NoPairs⟩ (.cons ⟨Z.x_NoName, Z.is_NoName_NoPairs⟩ (.cons ⟨Z.x_Known, Z.is_Known_NoPairs⟩ (.cons ⟨Z.x_Unknown, Z.is_Unknown_NoPairs⟩ (.cons ⟨Z.x_InUse, Z.is_InUse_NoPairs⟩ (.cons ⟨Z.x_TooMuch, Z.is_TooMuch_NoPairs⟩ (.cons ⟨Z.x_NoText, Z.is_NoText_NoPairs⟩ (.cons ⟨Z.x_TooMany, Z.is_TooMany_NoPairs⟩ (.cons ⟨Z.x_NoReading, Z.is_NoReading_NoPairs⟩ (.cons ⟨Z.x_NoRows, Z.is_NoRows_NoPairs⟩ (.cons ⟨Z.x_NoDrawing, Z.is_NoDrawing_NoPairs⟩ (.cons ⟨Z.x_NoPicture, Z.is_NoPicture_NoPairs⟩ (.cons ⟨Z.x_NoPairs, Z.is_NoPairs_NoPairs⟩ (.cons ⟨Z.x_Twice, Z.is_Twice_NoPairs⟩ (.cons ⟨Z.x_Marks, Z.is_Marks_NoPairs⟩ (.cons ⟨Z.x_NotPlain, Z.is_NotPlain_NoPairs⟩ .nil)))))))))))))))))) (te_var (i := 0) rfl (.inl rfl)) rfl Z.b_isinstance rfl Z.gm_NoPairs) (ta_cons (te_isx (isx_ok (.cons ⟨Z.x_NoBook, Z.is_NoBook_Twice⟩ (.cons ⟨Z.x_NoRow, Z.is_NoRow_Twice⟩ (.cons ⟨Z.x_NoName, Z.is_NoName_Twice⟩ (.cons ⟨Z.x_Known, Z.is_Known_Twice⟩ (.cons ⟨Z.x_Unknown, Z.is_Unknown_Twice⟩ (.cons ⟨Z.x_InUse, Z.is_InUse_Twice⟩ (.cons ⟨Z.x_TooMuch, Z.is_TooMuch_Twice⟩ (.cons ⟨Z.x_NoText, Z.is_NoText_Twice⟩ (.cons ⟨Z.x_TooMany, Z.is_TooMany_Twice⟩ (.cons ⟨Z.x_NoReading, Z.is_NoReading_Twice⟩ (.cons ⟨Z.x_NoRows, Z.is_NoRows_Twice⟩ (.cons ⟨Z.x_NoDrawing, Z.is_NoDrawing_Twice⟩ (.cons ⟨Z.x_NoPicture, Z.is_NoPicture_Twice⟩ (.cons ⟨Z.x_NoPairs, Z.is_NoPairs_Twice⟩ (.cons ⟨Z.x_Twice, Z.is_Twice_Twice⟩ (.cons ⟨Z.x_Marks, Z.is_Marks_Twice⟩ (.cons ⟨Z.x_NotPlain, Z.is_NotPlain_Twice⟩ .nil)))))))))))))))))) (te_var (i := 0) rfl (.inl rfl)) rfl Z.b_isinstance rfl Z.gm_Twice) (ta_cons (te_isx (isx_ok (.cons ⟨Z.x_NoBook, Z.is_NoBook_Marks⟩ (.cons ⟨Z.x_NoRow, Z.is_NoRow_Marks⟩ (.cons ⟨Z.x_NoName, Z.is_NoName_Marks⟩ (.cons ⟨Z.x_Known, Z.is_Known_Marks⟩ (.cons ⟨Z.x_Unknown, Z.is_Unknown_Marks⟩ (.cons ⟨Z.x_InUse, Z.is_InUse_Marks⟩ (.cons ⟨Z.x_TooMuch, Z.is_TooMuch_Marks⟩ (.cons ⟨Z.x_NoText, Z.is_NoText_Marks⟩ (.cons ⟨Z.x_TooMany, Z.is_TooMany_Marks⟩ (.cons ⟨Z.x_NoReading, Z.is_NoReading_Marks⟩ (.cons ⟨Z.x_NoRows, Z.is_NoRows_Marks⟩ (.cons ⟨Z.x_NoDrawing, Z.is_NoDrawing_Marks⟩ (.cons ⟨Z.x_NoPicture, Z.is_NoPicture_Marks⟩ (.cons ⟨Z.x_NoPairs, Z.is_NoPairs_Marks⟩ (.cons ⟨Z.x_Twice, Z.is_Twice_Marks⟩ (.cons ⟨Z.x_Marks, Z.is_Marks_Marks⟩ (.cons ⟨Z.x_NotPlain, Z.is_NotPlain_Marks⟩ .nil)))))))))))))))))) (te_var (i := 0) rfl (.inl rfl)) rfl Z.b_isinstance rfl Z.gm_Marks) ta_nil)))))))
      (tss_cons (ts_do (te_app (te_var (i := 1) rfl (.inl rfl)) (te_isx (isx_ok (.cons ⟨Z.x_NoBook, Z.is_NoBook_NotPlain⟩ (.cons ⟨Z.x_NoRow, Z.is_NoRow_NotPlain⟩ (.cons ⟨Z.x_NoName, Z.is_NoName_NotPlain⟩ (.cons ⟨Z.x_Known, Z.is_Known_NotPlain⟩ (.cons ⟨Z.x_Unknown, Z.is_Unknown_NotPlain⟩ (.cons ⟨Z.x_InUse, Z.is_InUse_NotPlain⟩ (.cons ⟨Z.x_TooMuch, Z.is_TooMuch_NotPlain⟩ (.cons ⟨Z.x_NoText, Z.is_NoText_NotPlain⟩ (.cons ⟨Z.x_TooMany, Z.is_TooMany_NotPlain⟩ (.cons ⟨Z.x_NoReading, Z.is_NoReading_NotPlain⟩ (.cons ⟨Z.x_NoRows, Z.is_NoRows_NotPlain⟩ (.cons ⟨Z.x_NoDrawing, Z.is_NoDrawing_NotPlain⟩ (.cons ⟨Z.x_NoPicture, Z.is_NoPicture_NotPlain⟩ (.cons ⟨Z.x_NoPairs, Z.is_NoPairs_NotPlain⟩ (.cons ⟨Z.x_Twice, Z.is_Twice_NotPlain⟩ (.cons ⟨Z.x_Marks, Z.is_Marks_NotPlain⟩ (.cons ⟨Z.x_NotPlain, Z.is_NotPlain_NotPlain⟩ .nil)))))))))))))))))) (te_var (i := 0) rfl (.inl rfl)) rfl Z.b_isinstance rfl Z.gm_NotPlain)))
      (tss_drop (tss_cons (ts_set (i := 2) sc_law_fault_of.nd rfl (.inl rfl) (te_lst (ta_cons te_str (ta_cons te_str (ta_cons te_str (ta_cons te_str (ta_cons te_str (ta_cons te_str (ta_cons te_str (ta_cons te_str (ta_cons te_str (ta_cons te_str (ta_cons te_str (ta_cons te_str ta_nil))))))))))))))
      (tss_cons (ts_setComp (i := 2) rfl sc_law_fault_of.nd rfl rfl rfl (ti_zip rfl Z.b_zip (te_bin op_addT (te_var (i := 2) rfl (.inl rfl)) (te_lst (ta_cons te_str (ta_cons te_str (ta_cons te_str (ta_cons te_str (ta_cons te_str ta_nil))))))) (te_var (i := 1) rfl (.inl rfl))) (ow := [("_law_word", 3), ("_law_one", 4)]) (blkOk_by (by kernel_rfl)) (fun _ _ _ _ _ => (tg_tup rfl (n := 2) (tgs_cons (tg_name (i := 3) (by decide) sc_law_fault_of.nd rfl (.inl rfl)) (tgs_cons (tg_name (i := 4) (by decide) sc_law_fault_of.nd rfl (.inl rfl)) tgs_nil)) rfl rfl (takes_c (takes_c takes_z)))) (fun _ _ _ _ _ => (tbs_one (tb_val (te_var (i := 4) rfl (.inl rfl))))) (fun _ _ _ _ _ => (te_var (i := 3) rfl (.inl rfl))))
      (tss_cons (ts_if (TW.toB (tw_or (tb_cmp (op_neT (u64 hr)) (te_fnB fn_len rfl Z.b_len boot_len (ta_cons (te_var (i := 2) rfl (.inl rfl)) ta_nil)) te_int rfl) (tw_or1 (tb_not (tb_val (te_isv (isx_ok (.cons ⟨Z.x_NoBook, Z.is_NoBook_ValueError⟩ (.cons ⟨Z.x_NoRow, Z.is_NoRow_ValueError⟩ (.cons ⟨Z.x_NoName, Z.is_NoName_ValueError⟩ (.cons ⟨Z.x_Known, Z.is_Known_ValueError⟩ (.cons ⟨Z.x_Unknown, Z.is_Unknown_ValueError⟩ (.cons ⟨Z.x_InUse, Z.is_InUse_ValueError⟩ (.cons ⟨Z.x_TooMuch, Z.is_TooMuch_ValueError⟩ (.cons ⟨Z.x_NoText, Z.is_NoText_ValueError⟩ (.cons ⟨Z.x_TooMany, Z.is_TooMany_ValueError⟩ (.cons ⟨Z.x_NoReading, Z.is_NoReading_ValueError⟩ (.cons ⟨Z.x_NoRows, Z.is_NoRows_ValueError⟩ (.cons ⟨Z.x_NoDrawing, Z.is_NoDrawing_ValueError⟩ (.cons ⟨Z.x_NoPicture, Z.is_NoPicture_ValueError⟩ (.cons ⟨Z.x_NoPairs, Z.is_NoPairs_ValueError⟩ (.cons ⟨Z.x_Twice, Z.is_Twice_ValueError⟩ (.cons ⟨Z.x_Marks, Z.is_Marks_ValueError⟩ (.cons ⟨Z.x_NotPlain, Z.is_NotPlain_ValueError⟩ .nil)))))))))))))))))) (te_var (i := 0) rfl (.inl rfl)) rfl Z.b_isinstance rfl Z.b_ValueError)))))) (tss_cons (ts_ret (te_tup ta_nil))
      tss_nil) tss_nil)
      (tss_cons (ts_ret (te_tup (ta_cons (te_ix (te_var (i := 2) rfl (.inl rfl)) te_int) ta_nil)))
      tss_nil))))))))))
  exact ⟨fd, fn_t F sc_law_fault_of len_law_fault_of hb vc_law_fault_of, Z.g_law_fault_of, F.kp, F.bindsN fun _ _ _ _ _ _ us hl => match us, hl with | [_], _ => rfl⟩
theorem sc_law_made : FnScope N_law_made (["_law_pen"] : List Str) (defScope s_law_made) := ⟨rfl, rfl, rfl, by decide +kernel, rfl, by decide +kernel, by decide +kernel⟩
theorem ok_law_made (Z : Zx K mg) : Okf P w K mg base 3 "_law_made" (["_law_pen"] : List Str) sp_law_made := by
  have O_law_draw : Okf P w K mg base 1 "_law_draw" (["_law_pen", "_law_many"] : List Str) sp_law_draw := ok_law_draw Z
  have X_InUse : XOk P w K mg base "InUse" [] := xok_InUse Z
  have X_Known : XOk P w K mg base "Known" [] := xok_Known Z
  have X_Marks : XOk P w K mg base "Marks" ["name"] := xok_Marks Z
  have X_NoBook : XOk P w K mg base "NoBook" ["word", "number"] := xok_NoBook Z
  have X_NoDrawing : XOk P w K mg base "NoDrawing" [] := xok_NoDrawing Z
  have X_NoName : XOk P w K mg base "NoName" ["name"] := xok_NoName Z
  have X_NoPairs : XOk P w K mg base "NoPairs" [] := xok_NoPairs Z
  have X_NoPicture : XOk P w K mg base "NoPicture" [] := xok_NoPicture Z
  have X_NoReading : XOk P w K mg base "NoReading" [] := xok_NoReading Z
  have X_NoRow : XOk P w K mg base "NoRow" [] := xok_NoRow Z
  have X_NoRows : XOk P w K mg base "NoRows" ["ring"] := xok_NoRows Z
  have X_NoText : XOk P w K mg base "NoText" ["line"] := xok_NoText Z
  have X_NotPlain : XOk P w K mg base "NotPlain" [] := xok_NotPlain Z
  have X_TooMany : XOk P w K mg base "TooMany" [] := xok_TooMany Z
  have X_TooMuch : XOk P w K mg base "TooMuch" [] := xok_TooMuch Z
  have X_Twice : XOk P w K mg base "Twice" ["name"] := xok_Twice Z
  have X_Unknown : XOk P w K mg base "Unknown" [] := xok_Unknown Z
  obtain ⟨fd, F⟩ := Z.f_law_made
  have hb : ∀ (cdv : Value) (A : Around) (outer : List Env) (s : Shared) (H : Hp) (E : XK), Room 2 (A.deeper (envOfC "_law_made" (defScope s_law_made) s.heap.objs.size (He.ga K "_law_made") cdv)) → TSs (cxOf (L2N.CX P w) P w K mg base N_law_made "_law_made" (defScope s_law_made) (He.ga K "_law_made") cdv A outer s H E) (defBody s_law_made) c_law_made := fun cdv A outer s H E hr =>
    (tss_cons (ts_set (i := 1) sc_law_made.nd rfl (.inl rfl) (te_sm1 PySem.F.slot_str_join PySem.F.type_str_join mt_joinT te_str (te_comp rfl sc_law_made.nd (ti_range1 rfl Z.b_range (te_bin op_addT te_int (te_callO O_law_draw hr (by decide) rfl (ta_cons (te_var (i := 0) rfl (.inr (.inl rfl))) (ta_cons te_int ta_nil))))) (ow := [("_law_k", 5)]) (blkOk_by (by kernel_rfl)) (fun _ _ _ _ _ => (tg_name (i := 5) (by decide) sc_law_made.nd rfl (.inl rfl))) (fun _ _ _ _ _ => tbs_nil) (fun _ _ _ _ _ => (te_ix te_str (te_callO O_law_draw hr (by decide) rfl (ta_cons (te_var (i := 0) rfl (.inr (.inl rfl))) (ta_cons te_int ta_nil))))))))
      (tss_cons (ts_set (i := 2) sc_law_made.nd rfl (.inl rfl) (te_callO O_law_draw hr (by decide) rfl (ta_cons (te_var (i := 0) rfl (.inr (.inl rfl))) (ta_cons (te_ix (te_lst (ta_cons te_int (ta_cons (te_bin op_powT te_int te_int) ta_nil))) (te_callO O_law_draw hr (by decide) rfl (ta_cons (te_var (i := 0) rfl (.inr (.inl rfl))) (ta_cons te_int ta_nil)))) ta_nil))))
      (tss_cons (ts_set (i := 3) sc_law_made.nd rfl (.inl rfl) (te_tup (ta_cons (te_tup (ta_cons te_str (ta_cons (te_var (i := 1) rfl (.inl rfl)) (ta_cons te_str ta_nil)))) (ta_cons (te_tup (ta_cons te_str (ta_cons te_str (ta_cons (te_var (i := 1) rfl (.inl rfl)) ta_nil)))) ta_nil))))
      (tss_cons (ts_set (i := 4) sc_law_made.nd rfl (.inl rfl) (te_lst (ta_cons (te_tup (ta_cons (te_mkX X_NoBook hr (by decide) rfl (ta_cons (te_var (i := 1) rfl (.inl rfl)) (ta_cons (te_var (i := 2) rfl (.inl rfl)) ta_nil))) (ta_cons (te_lst (ta_cons (te_tup (ta_cons te_str (ta_cons (te_var (i := 1) rfl (.inl rfl)) ta_nil))) (ta_cons (te_tup (ta_cons te_str (ta_cons (te_var (i := 2) rfl (.inl rfl)) ta_nil))) ta_nil))) ta_nil))) (ta_cons (te_tup (ta_cons (te_mkX0 X_NoRow hr (by decide) rfl) (ta_cons (te_lst ta_nil) ta_nil))) ta_nil))))
      (tss_cons (ts_set (i := 4) sc_law_made.nd rfl (.inl rfl) (te_bin op_addT (te_var (i := 4) rfl (.inl rfl)) (te_lst (ta_cons (te_tup (ta_cons (te_mkX X_NoName hr (by decide) rfl (ta_cons (te_var (i := 1) rfl (.inl rfl)) ta_nil)) (ta_cons (te_lst (ta_cons (te_tup (ta_cons te_str (ta_cons (te_var (i := 1) rfl (.inl rfl)) ta_nil))) ta_nil)) ta_nil))) (ta_cons (te_tup (ta_cons (te_mkX0 X_Known hr (by decide) rfl) (ta_cons (te_lst ta_nil) ta_nil))) (ta_cons (te_tup (ta_cons (te_mkX0 X_Unknown hr (by decide) rfl) (ta_cons (te_lst ta_nil) ta_nil))) (ta_cons (te_tup (ta_cons (te_mkX0 X_InUse hr (by decide) rfl) (ta_cons (te_lst ta_nil) ta_nil))) (ta_cons (te_tup (ta_cons (te_mkX0 X_TooMuch hr (by decide) rfl) (ta_cons (te_lst ta_nil) ta_nil))) ta_nil))))))))
      (tss_cons (ts_set (i := 4) sc_law_made.nd rfl (.inl rfl) (te_bin op_addT (te_var (i := 4) rfl (.inl rfl)) (te_lst (ta_cons (te_tup (ta_cons (te_mkX X_NoText hr (by decide) rfl (ta_cons (te_var (i := 2) rfl (.inl rfl)) ta_nil)) (ta_cons (te_lst (ta_cons (te_tup (ta_cons te_str (ta_cons (te_var (i := 2) rfl (.inl rfl)) ta_nil))) ta_nil)) ta_nil))) (ta_cons (te_tup (ta_cons (te_mkX0 X_TooMany hr (by decide) rfl) (ta_cons (te_lst ta_nil) ta_nil))) (ta_cons (te_tup (ta_cons (te_mkX0 X_NoReading hr (by decide) rfl) (ta_cons (te_lst ta_nil) ta_nil))) ta_nil))))))
      (tss_cons (ts_set (i := 4) sc_law_made.nd rfl (.inl rfl) (te_bin op_addT (te_var (i := 4) rfl (.inl rfl)) (te_lst (ta_cons (te_tup (ta_cons (te_mkX X_NoRows hr (by decide) rfl (ta_cons (te_var (i := 3) rfl (.inl rfl)) ta_nil)) (ta_cons (te_lst (ta_cons (te_tup (ta_cons te_str (ta_cons (te_var (i := 3) rfl (.inl rfl)) ta_nil))) ta_nil)) ta_nil))) (ta_cons (te_tup (ta_cons (te_mkX0 X_NoDrawing hr (by decide) rfl) (ta_cons (te_lst ta_nil) ta_nil))) (ta_cons (te_tup (ta_cons (te_mkX0 X_NoPicture hr (by decide) rfl) (ta_cons (te_lst ta_nil) ta_nil))) (ta_cons (te_tup (ta_cons (te_mkX0 X_NoPairs hr (by decide) rfl) (ta_cons (te_lst ta_nil) ta_nil))) ta_nil)))))))
      (tss_cons (ts_ret (te_bin op_addT (te_var (i := 4) rfl (.inl rfl)) (te_lst (ta_cons (te_tup (ta_cons (te_mkX X_Twice hr (by decide) rfl (ta_cons (te_var (i := 1) rfl (.inl rfl)) ta_nil)) (ta_cons (te_lst (ta_cons (te_tup (ta_cons te_str (ta_cons (te_var (i := 1) rfl (.inl rfl)) ta_nil))) ta_nil)) ta_nil))) (ta_cons (te_tup (ta_cons (te_mkX X_Marks hr (by decide) rfl (ta_cons (te_var (i := 1) rfl (.inl rfl)) ta_nil)) (ta_cons (te_lst (ta_cons (te_tup (ta_cons te_str (ta_cons (te_var (i := 1) rfl (.inl rfl)) ta_nil))) ta_nil)) ta_nil))) (ta_cons (te_tup (ta_cons (te_mkX0 X_NotPlain hr (by decide) rfl) (ta_cons (te_lst ta_nil) ta_nil))) ta_nil))))))
      tss_nil))))))))
  exact ⟨fd, fn_t F sc_law_made len_law_made hb vc_law_made, Z.g_law_made, F.kp, F.bindsN fun _ _ _ _ _ _ us hl => match us, hl with | [_], _ => rfl⟩
theorem sc_law_field : FnScope N_law_field (["_law_made_here", "_law_field_here"] : List Str) (defScope s_law_field) := ⟨rfl, rfl, rfl, by decide +kernel, rfl, by decide +kernel, by decide +kernel⟩
theorem ok_law_field (Z : Zx K mg) : Okf P w K mg base 1 "_law_field" (["_law_made_here", "_law_field_here"] : List Str) sp_law_field := by
  obtain ⟨fd, F⟩ := Z.f_law_field
  have hb : ∀ (cdv : Value) (A : Around) (outer : List Env) (s : Shared) (H : Hp) (E : XK), Room 0 (A.deeper (envOfC "_law_field" (defScope s_law_field) s.heap.objs.size (He.ga K "_law_field") cdv)) → TSs (cxOf (L2N.CX P w) P w K mg base N_law_field "_law_field" (defScope s_law_field) (He.ga K "_law_field") cdv A outer s H E) (defBody s_law_field) c_law_field := fun cdv A outer s H E hr =>
    (tss_cons (ts_if (tb_cmp (op_eqT (u64 hr)) (te_var (i := 1) rfl (.inl rfl)) te_str rfl) (tss_cons (ts_ret (te_xat (xat_ok (.cons ⟨Z.x_NoBook, Z.xi_NoBook.no _ (by simp)⟩ .nil)) (te_var (i := 0) rfl (.inl rfl))))
      tss_nil) tss_nil)
      (tss_cons (ts_if (tb_cmp (op_eqT (u64 hr)) (te_var (i := 1) rfl (.inl rfl)) te_str rfl) (tss_cons (ts_ret (te_xat (xat_ok (.cons ⟨Z.x_NoBook, Z.xi_NoBook.no _ (by simp)⟩ .nil)) (te_var (i := 0) rfl (.inl rfl))))
      tss_nil) tss_nil)
      (tss_cons (ts_if (tb_cmp (op_eqT (u64 hr)) (te_var (i := 1) rfl (.inl rfl)) te_str rfl) (tss_cons (ts_ret (te_xat (xat_ok (.cons ⟨Z.x_NoName, Z.xi_NoName.no _ (by simp)⟩ (.cons ⟨Z.x_Twice, Z.xi_Twice.no _ (by simp)⟩ (.cons ⟨Z.x_Marks, Z.xi_Marks.no _ (by simp)⟩ .nil)))) (te_var (i := 0) rfl (.inl rfl))))
      tss_nil) tss_nil)
      (tss_cons (ts_if (tb_cmp (op_eqT (u64 hr)) (te_var (i := 1) rfl (.inl rfl)) te_str rfl) (tss_cons (ts_ret (te_xat (xat_ok (.cons ⟨Z.x_NoText, Z.xi_NoText.no _ (by simp)⟩ .nil)) (te_var (i := 0) rfl (.inl rfl))))
      tss_nil) tss_nil)
      (tss_cons (ts_ret (te_xat (xat_ok (.cons ⟨Z.x_NoRows, Z.xi_NoRows.no _ (by simp)⟩ .nil)) (te_var (i := 0) rfl (.inl rfl))))
      tss_nil)))))
  exact ⟨fd, fn_t F sc_law_field len_law_field hb vc_law_field, Z.g_law_field, F.kp, F.bindsN fun _ _ _ _ _ _ us hl => match us, hl with | [_, _], _ => rfl⟩
theorem sc_the_law : FnScope N_the_law (["_law_script"] : List Str) (defScope s_the_law) := ⟨rfl, rfl, rfl, by decide +kernel, rfl, by decide +kernel, by decide +kernel⟩
theorem ok_the_law (Z : Zx K mg) : ∃ fd : FuncData, (∀ (s : Shared) (u : Value), BindsTo s fd ⟨[u], []⟩ [("_law_script", u)]) ∧ ∀ base : Heap, FnOk P w K mg base (L2N.CX P w) 13 (He.ga K "law") fd (["_law_script"] : List Str) (liftSp P K w sp_the_law) := by
  obtain ⟨fd, F⟩ := Z.f_the_law
  refine ⟨fd, law_def F fun _ _ _ _ _ _ us hl => match us, hl with | [_], _ => rfl, fun base => ?_⟩
  have O_law_pen_of : Okf P w K mg base 1 "_law_pen_of" (["_law_script"] : List Str) sp_law_pen_of := ok_law_pen_of Z
  have O_law_made : Okf P w K mg base 3 "_law_made" (["_law_pen"] : List Str) sp_law_made := ok_law_made Z
  have O_law_fault_of : Okf P w K mg base 1 "_law_fault_of" (["_law_e"] : List Str) sp_law_fault_of := ok_law_fault_of Z
  have O_law_are_same : Okf P w K mg base 12 "_law_are_same" (["_law_found", "_law_due"] : List Str) sp_law_are_same := ok_law_are_same Z
  have O_law_field : Okf P w K mg base 1 "_law_field" (["_law_made_here", "_law_field_here"] : List Str) sp_law_field := ok_law_field Z
  have hb : ∀ (cdv : Value) (A : Around) (outer : List Env) (s : Shared) (H : Hp) (E : XK), Room 12 (A.deeper (envOfC "law" (defScope s_the_law) s.heap.objs.size (He.ga K "law") cdv)) → TSs (cxOf (L2N.CX P w) P w K mg base N_the_law "law" (defScope s_the_law) (He.ga K "law") cdv A outer s H E) (defBody s_the_law) c_the_law := fun cdv A outer s H E hr =>
    (tss_cons (ts_set (i := 1) sc_the_law.nd rfl (.inl rfl) (te_callO O_law_pen_of hr (by decide) rfl (ta_cons (te_var (i := 0) rfl (.inl rfl)) ta_nil)))
      (tss_cons (ts_par2 (i := 2) (j := 3) rfl sc_the_law.nd rfl rfl (by decide) rfl rfl (ta_cons (te_callO O_law_made hr (by decide) rfl (ta_cons (te_var (i := 1) rfl (.inl rfl)) ta_nil)) (ta_cons (te_callO O_law_made hr (by decide) rfl (ta_cons (te_var (i := 1) rfl (.inl rfl)) ta_nil)) ta_nil)) rfl)
      (tss_cons (ts_set (i := 4) sc_the_law.nd rfl (.inl rfl) (te_lst (ta_cons te_str (ta_cons te_str (ta_cons te_str (ta_cons te_str (ta_cons te_str (ta_cons te_str (ta_cons te_str (ta_cons te_str (ta_cons te_str (ta_cons te_str (ta_cons te_str (ta_cons te_str ta_nil))))))))))))))
      (tss_cons (ts_set (i := 4) sc_the_law.nd rfl (.inl rfl) (te_bin op_addT (te_var (i := 4) rfl (.inl rfl)) (te_lst (ta_cons te_str (ta_cons te_str (ta_cons te_str (ta_cons te_str (ta_cons te_str ta_nil))))))))
      (tss_cons (ts_for (vs := [5]) (passes_of rfl) rfl (ti_seq (te_tup (ta_cons (te_var (i := 2) rfl (.inl rfl)) (ta_cons (te_var (i := 3) rfl (.inl rfl)) (ta_cons (te_var (i := 2) rfl (.inl rfl)) ta_nil))))) (tg_name (i := 5) (by decide) sc_the_law.nd rfl (.inl rfl)) (tss_cons (ts_for (vs := [6, 7, 8]) (passes_of rfl) rfl (ti_enum rfl Z.b_enumerate (te_var (i := 5) rfl (.inl rfl))) (tg_tup rfl (n := 2) (tgs_cons (tg_name (i := 6) (by decide) sc_the_law.nd rfl (.inl rfl)) (tgs_cons (tg_tup rfl (n := 2) (tgs_cons (tg_name (i := 7) (by decide) sc_the_law.nd rfl (.inr rfl)) (tgs_cons (tg_name (i := 8) (by decide) sc_the_law.nd rfl (.inl rfl)) tgs_nil)) rfl rfl (takes_c (takes_c takes_z))) tgs_nil)) rfl rfl (takes_c (takes_d takes_z))) (tss_cons (ts_if (TW.toB (tw_or (tb_not (tb_val (te_isx (isx_ok (.cons ⟨Z.x_NoBook, Z.is_NoBook_KinError⟩ (.cons ⟨Z.x_NoRow, Z.is_NoRow_KinError⟩ (.cons ⟨Z.x_NoName, Z.is_NoName_KinError⟩ (.cons ⟨Z.x_Known, Z.is_Known_KinError⟩ (.cons ⟨Z.x_Unknown, Z.is_Unknown_KinError⟩ (.cons ⟨Z.x_InUse, Z.is_InUse_KinError⟩ (.cons ⟨Z.x_TooMuch, Z.is_TooMuch_KinError⟩ (.cons ⟨Z.x_NoText, Z.is_NoText_KinError⟩ (.cons ⟨Z.x_TooMany, Z.is_TooMany_KinError⟩ (.cons ⟨Z.x_NoReading, Z.is_NoReading_KinError⟩ (.cons ⟨Z.x_NoRows, Z.is_NoRows_KinError⟩ (.cons ⟨Z.x_NoDrawing, Z.is_NoDrawing_KinError⟩ (.cons ⟨Z.x_NoPicture, Z.is_NoPicture_KinError⟩ (.cons ⟨Z.x_NoPairs, Z.is_NoPairs_KinError⟩ (.cons ⟨Z.x_Twice, Z.is_Twice_KinError⟩ (.cons ⟨Z.x_Marks, Z.is_Marks_KinError⟩ (.cons ⟨Z.x_NotPlain, Z.is_NotPlain_KinError⟩ .nil)))))))))))))))))) (te_var (i := 7) rfl (.inr (.inl rfl))) rfl Z.b_isinstance rfl Z.gm_KinError))) (tw_or (tb_not (tb_val (te_isv (isx_ok (.cons ⟨Z.x_NoBook, Z.is_NoBook_ValueError⟩ (.cons ⟨Z.x_NoRow, Z.is_NoRow_ValueError⟩ (.cons ⟨Z.x_NoName, Z.is_NoName_ValueError⟩ (.cons ⟨Z.x_Known, Z.is_Known_ValueError⟩ (.cons ⟨Z.x_Unknown, Z.is_Unknown_ValueError⟩ (.cons ⟨Z.x_InUse, Z.is_InUse_ValueError⟩ (.cons ⟨Z.x_TooMuch, Z.is_TooMuch_ValueError⟩ (.cons ⟨Z.x_NoText, Z.is_NoText_ValueError⟩ (.cons ⟨Z.x_TooMany, Z.is_TooMany_ValueError⟩ (.cons ⟨Z.x_NoReading, Z.is_NoReading_ValueError⟩ (.cons ⟨Z.x_NoRows, Z.is_NoRows_ValueError⟩ (.cons ⟨Z.x_NoDrawing, Z.is_NoDrawing_ValueError⟩ (.cons ⟨Z.x_NoPicture, Z.is_NoPicture_ValueError⟩ (.cons ⟨Z.x_NoPairs, Z.is_NoPairs_ValueError⟩ (.cons ⟨Z.x_Twice, Z.is_Twice_ValueError⟩ (.cons ⟨Z.x_Marks, Z.is_Marks_ValueError⟩ (.cons ⟨Z.x_NotPlain, Z.is_NotPlain_ValueError⟩ .nil)))))))))))))))))) (te_var (i := 7) rfl (.inr (.inl rfl))) rfl Z.b_isinstance rfl Z.b_ValueError))) (tw_or1 (tb_cmp (op_neT (u64 hr)) (te_callO O_law_fault_of hr (by decide) rfl (ta_cons (te_var (i := 7) rfl (.inr (.inl rfl))) ta_nil)) (te_tup (ta_cons (te_ix (te_var (i := 4) rfl (.inl rfl)) (te_var (i := 6) rfl (.inl rfl))) ta_nil)) rfl))))) (tss_cons (ts_ret te_bl)
      tss_nil) tss_nil)
      (tss_cons (ts_if (tb_cmp (op_neT (u64 hr)) (te_comp rfl sc_the_law.nd (ti_seq (te_var (i := 8) rfl (.inl rfl))) (ow := [("_law_field_here", 9), ("_law_due", 10)]) (blkOk_by (by kernel_rfl)) (fun _ _ _ _ _ => (tg_tup rfl (n := 2) (tgs_cons (tg_name (i := 9) (by decide) sc_the_law.nd rfl (.inl rfl)) (tgs_cons (tg_name (i := 10) (by decide) sc_the_law.nd rfl (.inl rfl)) tgs_nil)) rfl rfl (takes_c (takes_c takes_z)))) (fun _ _ _ _ _ => (tbs_one (tb_not (tb_val (te_callO O_law_are_same hr (by decide) rfl (ta_cons (te_callO O_law_field hr (by decide) rfl (ta_cons (te_var (i := 7) rfl (.inr (.inl rfl))) (ta_cons (te_var (i := 9) rfl (.inl rfl)) ta_nil))) (ta_cons (te_var (i := 10) rfl (.inl rfl)) ta_nil))))))) (fun _ _ _ _ _ => (te_var (i := 9) rfl (.inl rfl)))) (te_lst ta_nil) rfl) (tss_cons (ts_ret te_bl)
      tss_nil) tss_nil)
      tss_nil)))
      tss_nil))
      (tss_cons (ts_ret te_bl)
      tss_nil))))))
  exact fn_t F sc_the_law (fun ts S Q E h => by obtain ⟨_, rfl, _⟩ := h; rfl) hb vc_the_law
end
end K75
namespace K75
open PySem PySem.Spec PyProof.Rows TL
open L2 hiding putF
theorem zx {w : World} {K : PySem.W.Frag} {h : Heap} {mg : Str → Option Value} (X : K.In h) (H : h.Ns mainGlobals mg) (c : SaysZ fa fn tbs ex w K) : Zx K mg where
  b_ValueError := He.free_ok X H (c.t.d.fact 0 (f := .free "ValueError") rfl)
  b_abs := He.free_ok X H (c.t.d.fact 1 (f := .free "abs") rfl)
  b_all := He.free_ok X H (c.t.d.fact 2 (f := .free "all") rfl)
  b_bool := He.free_ok X H (c.t.d.fact 3 (f := .free "bool") rfl)
  b_enumerate := He.free_ok X H (c.t.d.fact 4 (f := .free "enumerate") rfl)
  b_int := He.free_ok X H (c.t.d.fact 5 (f := .free "int") rfl)
  b_isinstance := He.free_ok X H (c.t.d.fact 6 (f := .free "isinstance") rfl)
  b_len := He.free_ok X H (c.t.d.fact 7 (f := .free "len") rfl)
  b_list := He.free_ok X H (c.t.d.fact 8 (f := .free "list") rfl)
  b_range := He.free_ok X H (c.t.d.fact 9 (f := .free "range") rfl)
  b_str := He.free_ok X H (c.t.d.fact 10 (f := .free "str") rfl)
  b_tuple := He.free_ok X H (c.t.d.fact 11 (f := .free "tuple") rfl)
  b_zip := He.free_ok X H (c.t.d.fact 12 (f := .free "zip") rfl)
  f_law_pen_of := c.t.d.def_ 0 (d := h_law_pen_of) rfl
  g_law_pen_of := He.glo_ok X H (c.t.d.fact 13 (f := .glo "_law_pen_of") rfl)
  f_law_draw := c.t.d.def_ 1 (d := h_law_draw) rfl
  g_law_draw := He.glo_ok X H (c.t.d.fact 14 (f := .glo "_law_draw") rfl)
  f_law_are_same := c.t.d.def_ 2 (d := h_law_are_same) rfl
  g_law_are_same := He.glo_ok X H (c.t.d.fact 15 (f := .glo "_law_are_same") rfl)
  f_law_fault_of := c.t.d.def_ 3 (d := h_law_fault_of) rfl
  g_law_fault_of := He.glo_ok X H (c.t.d.fact 16 (f := .glo "_law_fault_of") rfl)
  f_law_made := c.t.d.def_ 4 (d := h_law_made) rfl
  g_law_made := He.glo_ok X H (c.t.d.fact 17 (f := .glo "_law_made") rfl)
  f_law_field := c.t.d.def_ 5 (d := h_law_field) rfl
  g_law_field := He.glo_ok X H (c.t.d.fact 18 (f := .glo "_law_field") rfl)
  f_the_law := c.t.d.def_ 6 (d := h_the_law) rfl
  g_the_law := He.glo_ok X H (c.t.d.fact 19 (f := .glo "law") rfl)
  ke := keB_ok (all_at c.more 0)
  gm_KinError := He.glo_ok X H (c.t.d.fact 20 (f := .glo "KinError") rfl)
  gm_NoBook := He.glo_ok X H (c.t.d.fact 21 (f := .glo "NoBook") rfl)
  gm_NoRow := He.glo_ok X H (c.t.d.fact 22 (f := .glo "NoRow") rfl)
  gm_NoName := He.glo_ok X H (c.t.d.fact 23 (f := .glo "NoName") rfl)
  gm_Known := He.glo_ok X H (c.t.d.fact 24 (f := .glo "Known") rfl)
  gm_Unknown := He.glo_ok X H (c.t.d.fact 25 (f := .glo "Unknown") rfl)
  gm_InUse := He.glo_ok X H (c.t.d.fact 26 (f := .glo "InUse") rfl)
  gm_TooMuch := He.glo_ok X H (c.t.d.fact 27 (f := .glo "TooMuch") rfl)
  gm_NoText := He.glo_ok X H (c.t.d.fact 28 (f := .glo "NoText") rfl)
  gm_TooMany := He.glo_ok X H (c.t.d.fact 29 (f := .glo "TooMany") rfl)
  gm_NoReading := He.glo_ok X H (c.t.d.fact 30 (f := .glo "NoReading") rfl)
  gm_NoRows := He.glo_ok X H (c.t.d.fact 31 (f := .glo "NoRows") rfl)
  gm_NoDrawing := He.glo_ok X H (c.t.d.fact 32 (f := .glo "NoDrawing") rfl)
  gm_NoPicture := He.glo_ok X H (c.t.d.fact 33 (f := .glo "NoPicture") rfl)
  gm_NoPairs := He.glo_ok X H (c.t.d.fact 34 (f := .glo "NoPairs") rfl)
  gm_Twice := He.glo_ok X H (c.t.d.fact 35 (f := .glo "Twice") rfl)
  gm_Marks := He.glo_ok X H (c.t.d.fact 36 (f := .glo "Marks") rfl)
  gm_NotPlain := He.glo_ok X H (c.t.d.fact 37 (f := .glo "NotPlain") rfl)
  is_NoBook_Known := of_decide_eq_true (all_at c.more 1)
  is_NoBook_NoName := of_decide_eq_true (all_at c.more 2)
  is_NoBook_NoRow := of_decide_eq_true (all_at c.more 3)
  is_NoBook_NoBook := of_decide_eq_true (all_at c.more 4)
  is_NoBook_NoText := of_decide_eq_true (all_at c.more 5)
  is_NoBook_TooMuch := of_decide_eq_true (all_at c.more 6)
  is_NoBook_InUse := of_decide_eq_true (all_at c.more 7)
  is_NoBook_Unknown := of_decide_eq_true (all_at c.more 8)
  is_NoBook_NoDrawing := of_decide_eq_true (all_at c.more 9)
  is_NoBook_NoRows := of_decide_eq_true (all_at c.more 10)
  is_NoBook_NoReading := of_decide_eq_true (all_at c.more 11)
  is_NoBook_TooMany := of_decide_eq_true (all_at c.more 12)
  is_NoBook_Marks := of_decide_eq_true (all_at c.more 13)
  is_NoBook_Twice := of_decide_eq_true (all_at c.more 14)
  is_NoBook_NoPairs := of_decide_eq_true (all_at c.more 15)
  is_NoBook_NoPicture := of_decide_eq_true (all_at c.more 16)
  is_NoBook_NotPlain := of_decide_eq_true (all_at c.more 17)
  is_NoBook_ValueError := of_decide_eq_true (all_at c.more 18)
  is_NoBook_KinError := of_decide_eq_true (all_at c.more 19)
  is_NoRow_Known := of_decide_eq_true (all_at c.more 20)
  is_NoRow_NoName := of_decide_eq_true (all_at c.more 21)
  is_NoRow_NoRow := of_decide_eq_true (all_at c.more 22)
  is_NoRow_NoBook := of_decide_eq_true (all_at c.more 23)
  is_NoRow_NoText := of_decide_eq_true (all_at c.more 24)
  is_NoRow_TooMuch := of_decide_eq_true (all_at c.more 25)
  is_NoRow_InUse := of_decide_eq_true (all_at c.more 26)
  is_NoRow_Unknown := of_decide_eq_true (all_at c.more 27)
  is_NoRow_NoDrawing := of_decide_eq_true (all_at c.more 28)
  is_NoRow_NoRows := of_decide_eq_true (all_at c.more 29)
  is_NoRow_NoReading := of_decide_eq_true (all_at c.more 30)
  is_NoRow_TooMany := of_decide_eq_true (all_at c.more 31)
  is_NoRow_Marks := of_decide_eq_true (all_at c.more 32)
  is_NoRow_Twice := of_decide_eq_true (all_at c.more 33)
  is_NoRow_NoPairs := of_decide_eq_true (all_at c.more 34)
  is_NoRow_NoPicture := of_decide_eq_true (all_at c.more 35)
  is_NoRow_NotPlain := of_decide_eq_true (all_at c.more 36)
  is_NoRow_ValueError := of_decide_eq_true (all_at c.more 37)
  is_NoRow_KinError := of_decide_eq_true (all_at c.more 38)
  is_NoName_Known := of_decide_eq_true (all_at c.more 39)
  is_NoName_NoName := of_decide_eq_true (all_at c.more 40)
  is_NoName_NoRow := of_decide_eq_true (all_at c.more 41)
  is_NoName_NoBook := of_decide_eq_true (all_at c.more 42)
  is_NoName_NoText := of_decide_eq_true (all_at c.more 43)
  is_NoName_TooMuch := of_decide_eq_true (all_at c.more 44)
  is_NoName_InUse := of_decide_eq_true (all_at c.more 45)
  is_NoName_Unknown := of_decide_eq_true (all_at c.more 46)
  is_NoName_NoDrawing := of_decide_eq_true (all_at c.more 47)
  is_NoName_NoRows := of_decide_eq_true (all_at c.more 48)
  is_NoName_NoReading := of_decide_eq_true (all_at c.more 49)
  is_NoName_TooMany := of_decide_eq_true (all_at c.more 50)
  is_NoName_Marks := of_decide_eq_true (all_at c.more 51)
  is_NoName_Twice := of_decide_eq_true (all_at c.more 52)
  is_NoName_NoPairs := of_decide_eq_true (all_at c.more 53)
  is_NoName_NoPicture := of_decide_eq_true (all_at c.more 54)
  is_NoName_NotPlain := of_decide_eq_true (all_at c.more 55)
  is_NoName_ValueError := of_decide_eq_true (all_at c.more 56)
  is_NoName_KinError := of_decide_eq_true (all_at c.more 57)
  is_Known_Known := of_decide_eq_true (all_at c.more 58)
  is_Known_NoName := of_decide_eq_true (all_at c.more 59)
  is_Known_NoRow := of_decide_eq_true (all_at c.more 60)
  is_Known_NoBook := of_decide_eq_true (all_at c.more 61)
  is_Known_NoText := of_decide_eq_true (all_at c.more 62)
  is_Known_TooMuch := of_decide_eq_true (all_at c.more 63)
  is_Known_InUse := of_decide_eq_true (all_at c.more 64)
  is_Known_Unknown := of_decide_eq_true (all_at c.more 65)
  is_Known_NoDrawing := of_decide_eq_true (all_at c.more 66)
  is_Known_NoRows := of_decide_eq_true (all_at c.more 67)
  is_Known_NoReading := of_decide_eq_true (all_at c.more 68)
  is_Known_TooMany := of_decide_eq_true (all_at c.more 69)
  is_Known_Marks := of_decide_eq_true (all_at c.more 70)
  is_Known_Twice := of_decide_eq_true (all_at c.more 71)
  is_Known_NoPairs := of_decide_eq_true (all_at c.more 72)
  is_Known_NoPicture := of_decide_eq_true (all_at c.more 73)
  is_Known_NotPlain := of_decide_eq_true (all_at c.more 74)
  is_Known_ValueError := of_decide_eq_true (all_at c.more 75)
  is_Known_KinError := of_decide_eq_true (all_at c.more 76)
  is_Unknown_Known := of_decide_eq_true (all_at c.more 77)
  is_Unknown_NoName := of_decide_eq_true (all_at c.more 78)
  is_Unknown_NoRow := of_decide_eq_true (all_at c.more 79)
  is_Unknown_NoBook := of_decide_eq_true (all_at c.more 80)
  is_Unknown_NoText := of_decide_eq_true (all_at c.more 81)
  is_Unknown_TooMuch := of_decide_eq_true (all_at c.more 82)
  is_Unknown_InUse := of_decide_eq_true (all_at c.more 83)
  is_Unknown_Unknown := of_decide_eq_true (all_at c.more 84)
  is_Unknown_NoDrawing := of_decide_eq_true (all_at c.more 85)
  is_Unknown_NoRows := of_decide_eq_true (all_at c.more 86)
  is_Unknown_NoReading := of_decide_eq_true (all_at c.more 87)
  is_Unknown_TooMany := of_decide_eq_true (all_at c.more 88)
  is_Unknown_Marks := of_decide_eq_true (all_at c.more 89)
  is_Unknown_Twice := of_decide_eq_true (all_at c.more 90)
  is_Unknown_NoPairs := of_decide_eq_true (all_at c.more 91)
  is_Unknown_NoPicture := of_decide_eq_true (all_at c.more 92)
  is_Unknown_NotPlain := of_decide_eq_true (all_at c.more 93)
  is_Unknown_ValueError := of_decide_eq_true (all_at c.more 94)
  is_Unknown_KinError := of_decide_eq_true (all_at c.more 95)
  is_InUse_Known := of_decide_eq_true (all_at c.more 96)
  is_InUse_NoName := of_decide_eq_true (all_at c.more 97)
  is_InUse_NoRow := of_decide_eq_true (all_at c.more 98)
  is_InUse_NoBook := of_decide_eq_true (all_at c.more 99)
  is_InUse_NoText := of_decide_eq_true (all_at c.more 100)
  is_InUse_TooMuch := of_decide_eq_true (all_at c.more 101)
  is_InUse_InUse := of_decide_eq_true (all_at c.more 102)
  is_InUse_Unknown := of_decide_eq_true (all_at c.more 103)
  is_InUse_NoDrawing := of_decide_eq_true (all_at c.more 104)
  is_InUse_NoRows := of_decide_eq_true (all_at c.more 105)
  is_InUse_NoReading := of_decide_eq_true (all_at c.more 106)
  is_InUse_TooMany := of_decide_eq_true (all_at c.more 107)
  is_InUse_Marks := of_decide_eq_true (all_at c.more 108)
  is_InUse_Twice := of_decide_eq_true (all_at c.more 109)
  is_InUse_NoPairs := of_decide_eq_true (all_at c.more 110)
  is_InUse_NoPicture := of_decide_eq_true (all_at c.more 111)
  is_InUse_NotPlain := of_decide_eq_true (all_at c.more 112)
  is_InUse_ValueError := of_decide_eq_true (all_at c.more 113)
  is_InUse_KinError := of_decide_eq_true (all_at c.more 114)
  is_TooMuch_Known := of_decide_eq_true (all_at c.more 115)
  is_TooMuch_NoName := of_decide_eq_true (all_at c.more 116)
  is_TooMuch_NoRow := of_decide_eq_true (all_at c.more 117)
  is_TooMuch_NoBook := of_decide_eq_true (all_at c.more 118)
  is_TooMuch_NoText := of_decide_eq_true (all_at c.more 119)
  is_TooMuch_TooMuch := of_decide_eq_true (all_at c.more 120)
  is_TooMuch_InUse := of_decide_eq_true (all_at c.more 121)
  is_TooMuch_Unknown := of_decide_eq_true (all_at c.more 122)
  is_TooMuch_NoDrawing := of_decide_eq_true (all_at c.more 123)
  is_TooMuch_NoRows := of_decide_eq_true (all_at c.more 124)
  is_TooMuch_NoReading := of_decide_eq_true (all_at c.more 125)
  is_TooMuch_TooMany := of_decide_eq_true (all_at c.more 126)
  is_TooMuch_Marks := of_decide_eq_true (all_at c.more 127)
  is_TooMuch_Twice := of_decide_eq_true (all_at c.more 128)
  is_TooMuch_NoPairs := of_decide_eq_true (all_at c.more 129)
  is_TooMuch_NoPicture := of_decide_eq_true (all_at c.more 130)
  is_TooMuch_NotPlain := of_decide_eq_true (all_at c.more 131)
  is_TooMuch_ValueError := of_decide_eq_true (all_at c.more 132)
  is_TooMuch_KinError := of_decide_eq_true (all_at c.more 133)
  is_NoText_Known := of_decide_eq_true (all_at c.more 134)
  is_NoText_NoName := of_decide_eq_true (all_at c.more 135)
  is_NoText_NoRow := of_decide_eq_true (all_at c.more 136)
  is_NoText_NoBook := of_decide_eq_true (all_at c.more 137)
  is_NoText_NoText := of_decide_eq_true (all_at c.more 138)
  is_NoText_TooMuch := of_decide_eq_true (all_at c.more 139)
  is_NoText_InUse := of_decide_eq_true (all_at c.more 140)
  is_NoText_Unknown := of_decide_eq_true (all_at c.more 141)
  is_NoText_NoDrawing := of_decide_eq_true (all_at c.more 142)
  is_NoText_NoRows := of_decide_eq_true (all_at c.more 143)
  is_NoText_NoReading := of_decide_eq_true (all_at c.more 144)
  is_NoText_TooMany := of_decide_eq_true (all_at c.more 145)
  is_NoText_Marks := of_decide_eq_true (all_at c.more 146)
  is_NoText_Twice := of_decide_eq_true (all_at c.more 147)
  is_NoText_NoPairs := of_decide_eq_true (all_at c.more 148)
  is_NoText_NoPicture := of_decide_eq_true (all_at c.more 149)
  is_NoText_NotPlain := of_decide_eq_true (all_at c.more 150)
  is_NoText_ValueError := of_decide_eq_true (all_at c.more 151)
  is_NoText_KinError := of_decide_eq_true (all_at c.more 152)
  is_TooMany_Known := of_decide_eq_true (all_at c.more 153)
  is_TooMany_NoName := of_decide_eq_true (all_at c.more 154)
  is_TooMany_NoRow := of_decide_eq_true (all_at c.more 155)
  is_TooMany_NoBook := of_decide_eq_true (all_at c.more 156)
  is_TooMany_NoText := of_decide_eq_true (all_at c.more 157)
  is_TooMany_TooMuch := of_decide_eq_true (all_at c.more 158)
  is_TooMany_InUse := of_decide_eq_true (all_at c.more 159)
  is_TooMany_Unknown := of_decide_eq_true (all_at c.more 160)
  is_TooMany_NoDrawing := of_decide_eq_true (all_at c.more 161)
  is_TooMany_NoRows := of_decide_eq_true (all_at c.more 162)
  is_TooMany_NoReading := of_decide_eq_true (all_at c.more 163)
  is_TooMany_TooMany := of_decide_eq_true (all_at c.more 164)
  is_TooMany_Marks := of_decide_eq_true (all_at c.more 165)
  is_TooMany_Twice := of_decide_eq_true (all_at c.more 166)
  is_TooMany_NoPairs := of_decide_eq_true (all_at c.more 167)
  is_TooMany_NoPicture := of_decide_eq_true (all_at c.more 168)
  is_TooMany_NotPlain := of_decide_eq_true (all_at c.more 169)
  is_TooMany_ValueError := of_decide_eq_true (all_at c.more 170)
  is_TooMany_KinError := of_decide_eq_true (all_at c.more 171)
  is_NoReading_Known := of_decide_eq_true (all_at c.more 172)
  is_NoReading_NoName := of_decide_eq_true (all_at c.more 173)
  is_NoReading_NoRow := of_decide_eq_true (all_at c.more 174)
  is_NoReading_NoBook := of_decide_eq_true (all_at c.more 175)
  is_NoReading_NoText := of_decide_eq_true (all_at c.more 176)
  is_NoReading_TooMuch := of_decide_eq_true (all_at c.more 177)
  is_NoReading_InUse := of_decide_eq_true (all_at c.more 178)
  is_NoReading_Unknown := of_decide_eq_true (all_at c.more 179)
  is_NoReading_NoDrawing := of_decide_eq_true (all_at c.more 180)
  is_NoReading_NoRows := of_decide_eq_true (all_at c.more 181)
  is_NoReading_NoReading := of_decide_eq_true (all_at c.more 182)
  is_NoReading_TooMany := of_decide_eq_true (all_at c.more 183)
  is_NoReading_Marks := of_decide_eq_true (all_at c.more 184)
  is_NoReading_Twice := of_decide_eq_true (all_at c.more 185)
  is_NoReading_NoPairs := of_decide_eq_true (all_at c.more 186)
  is_NoReading_NoPicture := of_decide_eq_true (all_at c.more 187)
  is_NoReading_NotPlain := of_decide_eq_true (all_at c.more 188)
  is_NoReading_ValueError := of_decide_eq_true (all_at c.more 189)
  is_NoReading_KinError := of_decide_eq_true (all_at c.more 190)
  is_NoRows_Known := of_decide_eq_true (all_at c.more 191)
  is_NoRows_NoName := of_decide_eq_true (all_at c.more 192)
  is_NoRows_NoRow := of_decide_eq_true (all_at c.more 193)
  is_NoRows_NoBook := of_decide_eq_true (all_at c.more 194)
  is_NoRows_NoText := of_decide_eq_true (all_at c.more 195)
  is_NoRows_TooMuch := of_decide_eq_true (all_at c.more 196)
  is_NoRows_InUse := of_decide_eq_true (all_at c.more 197)
  is_NoRows_Unknown := of_decide_eq_true (all_at c.more 198)
  is_NoRows_NoDrawing := of_decide_eq_true (all_at c.more 199)
  is_NoRows_NoRows := of_decide_eq_true (all_at c.more 200)
  is_NoRows_NoReading := of_decide_eq_true (all_at c.more 201)
  is_NoRows_TooMany := of_decide_eq_true (all_at c.more 202)
  is_NoRows_Marks := of_decide_eq_true (all_at c.more 203)
  is_NoRows_Twice := of_decide_eq_true (all_at c.more 204)
  is_NoRows_NoPairs := of_decide_eq_true (all_at c.more 205)
  is_NoRows_NoPicture := of_decide_eq_true (all_at c.more 206)
  is_NoRows_NotPlain := of_decide_eq_true (all_at c.more 207)
  is_NoRows_ValueError := of_decide_eq_true (all_at c.more 208)
  is_NoRows_KinError := of_decide_eq_true (all_at c.more 209)
  is_NoDrawing_Known := of_decide_eq_true (all_at c.more 210)
  is_NoDrawing_NoName := of_decide_eq_true (all_at c.more 211)
  is_NoDrawing_NoRow := of_decide_eq_true (all_at c.more 212)
  is_NoDrawing_NoBook := of_decide_eq_true (all_at c.more 213)
  is_NoDrawing_NoText := of_decide_eq_true (all_at c.more 214)
  is_NoDrawing_TooMuch := of_decide_eq_true (all_at c.more 215)
  is_NoDrawing_InUse := of_decide_eq_true (all_at c.more 216)
  is_NoDrawing_Unknown := of_decide_eq_true (all_at c.more 217)
  is_NoDrawing_NoDrawing := of_decide_eq_true (all_at c.more 218)
  is_NoDrawing_NoRows := of_decide_eq_true (all_at c.more 219)
  is_NoDrawing_NoReading := of_decide_eq_true (all_at c.more 220)
  is_NoDrawing_TooMany := of_decide_eq_true (all_at c.more 221)
  is_NoDrawing_Marks := of_decide_eq_true (all_at c.more 222)
  is_NoDrawing_Twice := of_decide_eq_true (all_at c.more 223)
  is_NoDrawing_NoPairs := of_decide_eq_true (all_at c.more 224)
  is_NoDrawing_NoPicture := of_decide_eq_true (all_at c.more 225)
  is_NoDrawing_NotPlain := of_decide_eq_true (all_at c.more 226)
  is_NoDrawing_ValueError := of_decide_eq_true (all_at c.more 227)
  is_NoDrawing_KinError := of_decide_eq_true (all_at c.more 228)
  is_NoPicture_Known := of_decide_eq_true (all_at c.more 229)
  is_NoPicture_NoName := of_decide_eq_true (all_at c.more 230)
  is_NoPicture_NoRow := of_decide_eq_true (all_at c.more 231)
  is_NoPicture_NoBook := of_decide_eq_true (all_at c.more 232)
  is_NoPicture_NoText := of_decide_eq_true (all_at c.more 233)
  is_NoPicture_TooMuch := of_decide_eq_true (all_at c.more 234)
  is_NoPicture_InUse := of_decide_eq_true (all_at c.more 235)
  is_NoPicture_Unknown := of_decide_eq_true (all_at c.more 236)
  is_NoPicture_NoDrawing := of_decide_eq_true (all_at c.more 237)
  is_NoPicture_NoRows := of_decide_eq_true (all_at c.more 238)
  is_NoPicture_NoReading := of_decide_eq_true (all_at c.more 239)
  is_NoPicture_TooMany := of_decide_eq_true (all_at c.more 240)
  is_NoPicture_Marks := of_decide_eq_true (all_at c.more 241)
  is_NoPicture_Twice := of_decide_eq_true (all_at c.more 242)
  is_NoPicture_NoPairs := of_decide_eq_true (all_at c.more 243)
  is_NoPicture_NoPicture := of_decide_eq_true (all_at c.more 244)
  is_NoPicture_NotPlain := of_decide_eq_true (all_at c.more 245)
  is_NoPicture_ValueError := of_decide_eq_true (all_at c.more 246)
  is_NoPicture_KinError := of_decide_eq_true (all_at c.more 247)
  is_NoPairs_Known := of_decide_eq_true (all_at c.more 248)
  is_NoPairs_NoName := of_decide_eq_true (all_at c.more 249)
  is_NoPairs_NoRow := of_decide_eq_true (all_at c.more 250)
  is_NoPairs_NoBook := of_decide_eq_true (all_at c.more 251)
  is_NoPairs_NoText := of_decide_eq_true (all_at c.more 252)
  is_NoPairs_TooMuch := of_decide_eq_true (all_at c.more 253)
  is_NoPairs_InUse := of_decide_eq_true (all_at c.more 254)
  is_NoPairs_Unknown := of_decide_eq_true (all_at c.more 255)
  is_NoPairs_NoDrawing := of_decide_eq_true (all_at c.more 256)
  is_NoPairs_NoRows := of_decide_eq_true (all_at c.more 257)
  is_NoPairs_NoReading := of_decide_eq_true (all_at c.more 258)
  is_NoPairs_TooMany := of_decide_eq_true (all_at c.more 259)
  is_NoPairs_Marks := of_decide_eq_true (all_at c.more 260)
  is_NoPairs_Twice := of_decide_eq_true (all_at c.more 261)
  is_NoPairs_NoPairs := of_decide_eq_true (all_at c.more 262)
  is_NoPairs_NoPicture := of_decide_eq_true (all_at c.more 263)
  is_NoPairs_NotPlain := of_decide_eq_true (all_at c.more 264)
  is_NoPairs_ValueError := of_decide_eq_true (all_at c.more 265)
  is_NoPairs_KinError := of_decide_eq_true (all_at c.more 266)
  is_Twice_Known := of_decide_eq_true (all_at c.more 267)
  is_Twice_NoName := of_decide_eq_true (all_at c.more 268)
  is_Twice_NoRow := of_decide_eq_true (all_at c.more 269)
  is_Twice_NoBook := of_decide_eq_true (all_at c.more 270)
  is_Twice_NoText := of_decide_eq_true (all_at c.more 271)
  is_Twice_TooMuch := of_decide_eq_true (all_at c.more 272)
  is_Twice_InUse := of_decide_eq_true (all_at c.more 273)
  is_Twice_Unknown := of_decide_eq_true (all_at c.more 274)
  is_Twice_NoDrawing := of_decide_eq_true (all_at c.more 275)
  is_Twice_NoRows := of_decide_eq_true (all_at c.more 276)
  is_Twice_NoReading := of_decide_eq_true (all_at c.more 277)
  is_Twice_TooMany := of_decide_eq_true (all_at c.more 278)
  is_Twice_Marks := of_decide_eq_true (all_at c.more 279)
  is_Twice_Twice := of_decide_eq_true (all_at c.more 280)
  is_Twice_NoPairs := of_decide_eq_true (all_at c.more 281)
  is_Twice_NoPicture := of_decide_eq_true (all_at c.more 282)
  is_Twice_NotPlain := of_decide_eq_true (all_at c.more 283)
  is_Twice_ValueError := of_decide_eq_true (all_at c.more 284)
  is_Twice_KinError := of_decide_eq_true (all_at c.more 285)
  is_Marks_Known := of_decide_eq_true (all_at c.more 286)
  is_Marks_NoName := of_decide_eq_true (all_at c.more 287)
  is_Marks_NoRow := of_decide_eq_true (all_at c.more 288)
  is_Marks_NoBook := of_decide_eq_true (all_at c.more 289)
  is_Marks_NoText := of_decide_eq_true (all_at c.more 290)
  is_Marks_TooMuch := of_decide_eq_true (all_at c.more 291)
  is_Marks_InUse := of_decide_eq_true (all_at c.more 292)
  is_Marks_Unknown := of_decide_eq_true (all_at c.more 293)
  is_Marks_NoDrawing := of_decide_eq_true (all_at c.more 294)
  is_Marks_NoRows := of_decide_eq_true (all_at c.more 295)
  is_Marks_NoReading := of_decide_eq_true (all_at c.more 296)
  is_Marks_TooMany := of_decide_eq_true (all_at c.more 297)
  is_Marks_Marks := of_decide_eq_true (all_at c.more 298)
  is_Marks_Twice := of_decide_eq_true (all_at c.more 299)
  is_Marks_NoPairs := of_decide_eq_true (all_at c.more 300)
  is_Marks_NoPicture := of_decide_eq_true (all_at c.more 301)
  is_Marks_NotPlain := of_decide_eq_true (all_at c.more 302)
  is_Marks_ValueError := of_decide_eq_true (all_at c.more 303)
  is_Marks_KinError := of_decide_eq_true (all_at c.more 304)
  is_NotPlain_Known := of_decide_eq_true (all_at c.more 305)
  is_NotPlain_NoName := of_decide_eq_true (all_at c.more 306)
  is_NotPlain_NoRow := of_decide_eq_true (all_at c.more 307)
  is_NotPlain_NoBook := of_decide_eq_true (all_at c.more 308)
  is_NotPlain_NoText := of_decide_eq_true (all_at c.more 309)
  is_NotPlain_TooMuch := of_decide_eq_true (all_at c.more 310)
  is_NotPlain_InUse := of_decide_eq_true (all_at c.more 311)
  is_NotPlain_Unknown := of_decide_eq_true (all_at c.more 312)
  is_NotPlain_NoDrawing := of_decide_eq_true (all_at c.more 313)
  is_NotPlain_NoRows := of_decide_eq_true (all_at c.more 314)
  is_NotPlain_NoReading := of_decide_eq_true (all_at c.more 315)
  is_NotPlain_TooMany := of_decide_eq_true (all_at c.more 316)
  is_NotPlain_Marks := of_decide_eq_true (all_at c.more 317)
  is_NotPlain_Twice := of_decide_eq_true (all_at c.more 318)
  is_NotPlain_NoPairs := of_decide_eq_true (all_at c.more 319)
  is_NotPlain_NoPicture := of_decide_eq_true (all_at c.more 320)
  is_NotPlain_NotPlain := of_decide_eq_true (all_at c.more 321)
  is_NotPlain_ValueError := of_decide_eq_true (all_at c.more 322)
  is_NotPlain_KinError := of_decide_eq_true (all_at c.more 323)
  x_NoBook := xcB_ok (all_at c.more 324)
  xi_NoBook := xinB_ok (all_at c.more 325)
  fi_NoBook := c.t.d.def_ 7 (d := hi_NoBook) rfl
  x_NoRow := xcB_ok (all_at c.more 326)
  xi_NoRow := xinB_ok (all_at c.more 327)
  fi_NoRow := c.t.d.def_ 8 (d := hi_NoRow) rfl
  x_NoName := xcB_ok (all_at c.more 328)
  xi_NoName := xinB_ok (all_at c.more 329)
  fi_NoName := c.t.d.def_ 9 (d := hi_NoName) rfl
  x_Known := xcB_ok (all_at c.more 330)
  xi_Known := xinB_ok (all_at c.more 331)
  fi_Known := c.t.d.def_ 10 (d := hi_Known) rfl
  x_Unknown := xcB_ok (all_at c.more 332)
  xi_Unknown := xinB_ok (all_at c.more 333)
  fi_Unknown := c.t.d.def_ 11 (d := hi_Unknown) rfl
  x_InUse := xcB_ok (all_at c.more 334)
  xi_InUse := xinB_ok (all_at c.more 335)
  fi_InUse := c.t.d.def_ 12 (d := hi_InUse) rfl
  x_TooMuch := xcB_ok (all_at c.more 336)
  xi_TooMuch := xinB_ok (all_at c.more 337)
  fi_TooMuch := c.t.d.def_ 13 (d := hi_TooMuch) rfl
  x_NoText := xcB_ok (all_at c.more 338)
  xi_NoText := xinB_ok (all_at c.more 339)
  fi_NoText := c.t.d.def_ 14 (d := hi_NoText) rfl
  x_TooMany := xcB_ok (all_at c.more 340)
  xi_TooMany := xinB_ok (all_at c.more 341)
  fi_TooMany := c.t.d.def_ 15 (d := hi_TooMany) rfl
  x_NoReading := xcB_ok (all_at c.more 342)
  xi_NoReading := xinB_ok (all_at c.more 343)
  fi_NoReading := c.t.d.def_ 16 (d := hi_NoReading) rfl
  x_NoRows := xcB_ok (all_at c.more 344)
  xi_NoRows := xinB_ok (all_at c.more 345)
  fi_NoRows := c.t.d.def_ 17 (d := hi_NoRows) rfl
  x_NoDrawing := xcB_ok (all_at c.more 346)
  xi_NoDrawing := xinB_ok (all_at c.more 347)
  fi_NoDrawing := c.t.d.def_ 18 (d := hi_NoDrawing) rfl
  x_NoPicture := xcB_ok (all_at c.more 348)
  xi_NoPicture := xinB_ok (all_at c.more 349)
  fi_NoPicture := c.t.d.def_ 19 (d := hi_NoPicture) rfl
  x_NoPairs := xcB_ok (all_at c.more 350)
  xi_NoPairs := xinB_ok (all_at c.more 351)
  fi_NoPairs := c.t.d.def_ 20 (d := hi_NoPairs) rfl
  x_Twice := xcB_ok (all_at c.more 352)
  xi_Twice := xinB_ok (all_at c.more 353)
  fi_Twice := c.t.d.def_ 21 (d := hi_Twice) rfl
  x_Marks := xcB_ok (all_at c.more 354)
  xi_Marks := xinB_ok (all_at c.more 355)
  fi_Marks := c.t.d.def_ 22 (d := hi_Marks) rfl
  x_NotPlain := xcB_ok (all_at c.more 356)
  xi_NotPlain := xinB_ok (all_at c.more 357)
  fi_NotPlain := c.t.d.def_ 23 (d := hi_NotPlain) rfl
end K75
open PySem PySem.W PySem.Calls PyProof.Rows
theorem PySem.Challenge.cw_kinlines_k75_refusals_made_holds : PySem.Challenge.rw_kinlines_k75_refusals_made.Holds := by
  w_on; o_law
  refine HandSHeadRun.head_any (r := OpenLaw.row PySem.Challenge.rw_kinlines_k75_refusals_made) (q := view (OpenLaw.row PySem.Challenge.rw_kinlines_k75_refusals_made).prog [26]) (H := K75.hk) (ob := K75.ob) (M := 6000) (loose := K75.loose) (d := HandSHeadRun.topDef (OpenLaw.row PySem.Challenge.rw_kinlines_k75_refusals_made).prog 26) (kwd := []) K75.ob_eq
    (by kernel_rfl) (fun s => by kernel_rfl) K75.run (by kernel_rfl) (by kernel_rfl) (by kernel_rfl) (by rfl) (by first | assumption | decide +kernel) (by decide +kernel) ⟨rfl, rfl, rfl, rfl, rfl, by decide +kernel⟩ ?hw ?hc
  case hw => w_witness2
  case hc =>
    refine TL.walk_tl (l := PySem.Challenge.rw_kinlines_k75_refusals_made) (k := 13) (x := "_law_script") (y := "law") (sp := K75.sp_the_law) rfl (by kernel_rfl) ⟨rfl, by decide, by decide⟩ (by kernel_rfl) TL.law1_sp ?_
    intro w mg h Y G
    obtain ⟨K, KX, c⟩ := Y
    have Z := K75.zx KX G c
    obtain ⟨fd, hb, hF⟩ := K75.ok_the_law (P := (PySem.Challenge.rw_kinlines_k75_refusals_made).prog) (w := w) Z
    exact ⟨K, KX, Z.g_the_law, fd, hb, fun base _ _ => hF base⟩
