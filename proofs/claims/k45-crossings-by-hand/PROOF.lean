import PyProof.Rows.All
import Wide.All
import OpenK.AllK
import Wide.FinOn
import KE.KStateDown
import HandS.Base
import HandS.Call
import HandS.More
import HandS.ExcInit
import HandS.Head0
import HandS.Head1
import HandS.Head2
import HandS.HeadEnd
import HandS.HeadHook1
import HandS.HeadHook2
import HandS.HeadHook3
import HandS.HeadHook4
import PySem.Challenge.RW_kinlines_k45_crossings_by_hand
import Lean
import HandS.Ends
import HandS.Words
import HandS.WordsExc
import HandS.Defaults
import HandS.ForMost
import HandS.ForExc
import HandS.CallSlots
import HandS.TryMany
import HandS.TupAny
import KE.KDictKeyed
import KE.KDictPairs
import HandS.ExcInitHot
import HandS.CallLocal
import KE.KExcIs
import HandS.Style
import HandS.Deep
import HandS.Wide
import KE.DataCmp
import KE.SortData
import HandS.Conv
import HandS.IsInst
import HandS.Text
import KE.DataMinMax
import KE.SortCalls
import HandS.Strs
import HandS.Replace
import KE.KIntText
import HandS.TupSets
import HandS.Dict
import HandS.SetFor
import KE.KSortTupAny
import KE.GoesZip
import KE.GoesMore
import KE.GoesEnum
import HandS.HotCalls
import KE.KRevSl
import HandS.FStrTup
import HandS.ListItems
import PyProof.NeKinds
import KE.KDictSum
import HandS.Iter
import HandS.ReplaceList
import HandS.ReplaceLit
import HandS.DictEq
import HandS.DeepEq
import HandS.ExcValue
import KE.IntTextLaws
set_option Elab.async false
set_option linter.all false
set_option maxRecDepth 100000
set_option maxHeartbeats 4000000
namespace TL
open PySem PySem.Spec PyProof.Rows L2
def oexB (K : PySem.W.Frag) (C : Addr) : Bool := match K.lookup C with
  | some ⟨.type "type", _, .cls cd, sl⟩ => (match cd.mro, sl.toList with
    | .ref C' :: bm, [_, _, _, _, some (.builtin n), _] => C' == C && (n == "ValueError.__new__" && (cd.hasDict && (!cd.hasDel && PySem.HandSPX.refsVE bm)))
    | _, _ => false)
  | _ => false
def xcB (K : PySem.W.Frag) (C : Addr) : Bool :=
  oexB K C && (He.eqO (PySem.W.findIn K (.ref C) "__setattr__") (some (some (.builtin "object.__setattr__"))) && (decide (PySem.W.subIn K (.ref C) (.type "BaseException") = some true) && (decide (PySem.W.typeIn K (.ref C) = some (.type "type")) && (PySem.W.keepIn K (.ref C) &&
  (He.eqO (PySem.W.findIn K (.ref C) "__getattribute__") (some (some (.builtin "BaseException.__getattribute__"))) && (He.eqO (PySem.W.findIn K (.ref C) "__getattr__") (some none) && (PySem.W.hasDictIn K C && (He.eqO (PySem.W.findIn K (.ref C) "__class__") (some (some (.builtin "object.__class__"))) &&
  (decide (PySem.W.mroIn K C (.type "object") = some true) && (He.eqO (PySem.W.specialIn K (.builtin "object.__class__") "__get__") (some (some (.builtin "getset_descriptor.__get__"))) && decide (PySem.W.takesIn K (.builtin "object.__class__") = some true)))))))))))
def keB (K : PySem.W.Frag) (B : Addr) : Bool := PySem.W.readsIn K B (.type "type") && (He.eqO (PySem.W.specialIn K (.ref B) "__getattribute__") (some (some (.builtin "type.__getattribute__"))) && match PySem.W.findCls K (.ref B) (.type "type") "__init__" with
  | some (.val v) => decide (v = .builtin "ValueError.__init__")
  | _ => false)
def xinB (K : PySem.W.Frag) (C f : Addr) (fs : List Str) : Bool := He.eqO (PySem.W.findIn K (.ref C) "__init__") (some (some (.ref f))) && (decide (PySem.W.typeIn K (.ref f) = some (.type "function")) && fs.all fun x => He.eqO (PySem.W.findIn K (.ref C) x) (some none))
structure SaysZ (fa : List He.Fa) (fn : List He.DefD) (ts : List He.Tab) (ex : PySem.W.Frag → Bool) (w : World) (K : PySem.W.Frag) : Prop where
  t : He.SaysT fa fn ts w K
  more : ex K = true
/-- a method of a class of the module -/
def clsMeth (s : Stmt) (j : Nat) : Stmt := match s with
  | .ClassDef _ _ _ b _ _ _ _ _ _ _ => b.getD j (.Pass ⟨0, 0, 0, 0⟩)
  | _ => .Pass ⟨0, 0, 0, 0⟩
def refsW (o : Obj) : List Addr := match o.data with
  | .seq its _ => its.toList.flatMap He.refV
  | .dict es _ => es.toList.flatMap fun e => He.refV e.val
  | .func fd => He.refV fd.code
  | .cls cd => [cd.ns]
  | _ => []
def growW (g : Addr → Option Obj) (as : List Addr) : List Addr := as.flatMap fun a => match g a with
  | some o => refsW o
  | none => []
def levW (g : Addr → Option Obj) : Nat → List Addr → List Addr
  | 0, as => as
  | n + 1, as => as ++ levW g n (growW g as)
def asW (g : Addr → Option Obj) (n : Nat) : List Addr := (levW g n [mainGlobals]) ++ [cStatics]
def obsW (n : Nat) (fa : List He.Fa) (fn : List He.DefD) (ts : List He.Tab) (ex : PySem.W.Frag → Bool) (g : Addr → Option Obj) : He.AlX := (He.obsT fa fn ts (He.frT g (asW g n)), ex (He.frT g (asW g n)))
def hookW (n : Nat) (fa : List He.Fa) (fn : List He.DefD) (ts : List He.Tab) (ex : PySem.W.Frag → Bool) : PySem.W.Hook where
  α := He.AlX
  obs := fun s => obsW n fa fn ts ex s.heap.get?
  val := fun w => He.valX fn ts w
  says := fun w h => ∃ K : PySem.W.Frag, K.In h ∧ SaysZ fa fn ts ex w K
  of := fun _ _ e => ⟨_, He.frT_in, ⟨congrArg (fun z : He.AlX => z.1) e, congrArg (fun z : He.AlX => z.2) e⟩⟩
  keeps := fun _ _ _ ⟨K, hK, c⟩ k => ⟨K, PySem.W.Frag.In.keeps hK k, c⟩
theorem obsW_eq {n : Nat} {fa : List He.Fa} {fn : List He.DefD} {ts : List He.Tab} {ex : PySem.W.Frag → Bool} {g : Addr → Option Obj} {s : Shared} (h : ∀ a, g a = s.heap.get? a) : obsW n fa fn ts ex g = (hookW n fa fn ts ex).obs s := by
  have e : g = s.heap.get? := funext h
  rw [e] <;> rfl
abbrev kW (n : Nat) (s : PySem.W.SharedT) : PySem.W.Frag := He.frT (HandSHeadRun.getT s) (asW (HandSHeadRun.getT s) n)
section
open HandSHeadRun PySem.W PySem.Calls
noncomputable abbrev endW (r : OpenRow) (M : Nat) (w : World) (os : OsState) : Option SharedT := endF (stepQ (denQ tabQ) r.prog w) M r.prog w os
abbrev Part1 (r : OpenRow) (q : Program) (loose : List PySem.Str) (M : Nat) (w : World) : Prop := ∀ os, (endW r M w os).map (fun s => (looksF r.prog (boot_heap w.params) s.abs, seenQ q loose (importedModules r.prog.main.body) (fun s => xlAt q [] s && recOk r.toRowW.records s) s.abs)) = some (true, openGood q loose)
abbrev Part2 (r : OpenRow) (n : Nat) (fa : List He.Fa) (ts : List He.Tab) (ex : Frag → Bool) (M : Nat) (w : World) : Prop := ∀ os, (endW r M w os).map (fun s => (fa.all (fun f => f.ok (kW n s)), ts.map (fun t => He.dicW (kW n s) (t.1 (kW n s))), ex (kW n s))) = some (true, ts.map (fun t => some (He.keysIn w.params t.2)), true)
abbrev Part3 (r : OpenRow) (n : Nat) (fn : List He.DefD) (M : Nat) (w : World) : Prop := ∀ os, (endW r M w os).map (fun s => (fn.all (fun d => d.ok (kW n s)), fn.map fun d => He.fnW (kW n s) d.at_)) = some (true, fn.map He.DefD.val)
theorem run_parts {r : OpenRow} {q : Program} {n : Nat} {fa : List He.Fa} {fn : List He.DefD} {ts : List He.Tab} {ex : Frag → Bool} {M : Nat} {loose : List PySem.Str} {w : World} (h1 : Part1 r q loose M w) (h2 : Part2 r n fa ts ex M w) (h3 : Part3 r n fn M w) :
    RunEq r q (hookW n fa fn ts ex) (fun s => obsW n fa fn ts ex (getT s)) M loose w := fun os => by
  have k1 := h1 os
  have k2 := h2 os
  have k3 := h3 os
  unfold endW at k1 k2 k3
  obtain ⟨s, e, a1⟩ := Option.map_eq_some_iff.mp k1
  rw [e] at k2 k3 ⊢
  have a2 := Option.some.inj k2
  have a3 := Option.some.inj k3
  injection a1 with b1 b2
  injection a2 with b3 b4
  injection b4 with b4 b5
  injection a3 with b6 b7
  show some (looksF r.prog (boot_heap w.params) s.abs, seenQ q loose (importedModules r.prog.main.body) (fun s => xlAt q [] s && recOk r.toRowW.records s) s.abs, ((((fa.all fun f => f.ok (kW n s)) && fn.all fun d => d.ok (kW n s), fn.map fun d => He.fnW (kW n s) d.at_), ts.map fun t => He.dicW (kW n s) (t.1 (kW n s))), ex (kW n s))) = some (true, openGood q loose, (((true, fn.map He.DefD.val), ts.map fun t => some (He.keysIn w.params t.2)), true))
  rw [b1, b2, b3, b4, b5, b6, b7]
  rfl
end
end TL
namespace K45
open PySem PySem.Spec PyProof.Rows TL
open L2 hiding putF
def top (i : Nat) : Stmt := PySem.Challenge.pw_kinlines_k45_crossings_by_hand.main.body.getD i (.Pass ⟨0, 0, 0, 0⟩)
abbrev s_names_of : Stmt := top 5
abbrev s_steps_from : Stmt := top 7
abbrev s_steps_between : Stmt := top 8
abbrev s_closed_steps : Stmt := top 9
abbrev s_lowered : Stmt := top 10
abbrev s_rows_of : Stmt := top 11
abbrev s_row_by_name : Stmt := top 13
abbrev s_unions_by_rows : Stmt := top 14
abbrev s_are_just : Stmt := top 15
abbrev s_looked_drawing : Stmt := top 16
abbrev s_heights_of : Stmt := top 17
abbrev s_Kin_bar : Stmt := clsMeth (top 18) 1
abbrev s_Kin_span : Stmt := clsMeth (top 18) 2
abbrev s_Kin_crossed : Stmt := clsMeth (top 18) 3
abbrev s_Kin___init__ : Stmt := clsMeth (top 18) 0
abbrev s_crossings : Stmt := top 19
abbrev s_law_pen_of : Stmt := top 21
abbrev s_law_draw : Stmt := top 22
abbrev s_law_drawn_names : Stmt := top 23
abbrev s_law_two_couples : Stmt := top 24
abbrev s_law_uncle_and_niece : Stmt := top 25
abbrev s_the_law : Stmt := top 26
abbrev si_NoRows : Stmt := clsMeth (top 2) 0
abbrev si_NoDrawing : Stmt := clsMeth (top 3) 0

end K45
namespace K45
open PySem PySem.Spec PyProof.Rows TL
open L2 hiding putF
def tbs : List He.Tab := []
def h_names_of : He.DefD := ⟨("names_of", none), "names_of", "names_of", defArgs s_names_of, defBody s_names_of, defScope s_names_of, [], []⟩
def h_steps_from : He.DefD := ⟨("steps_from", none), "steps_from", "steps_from", defArgs s_steps_from, defBody s_steps_from, defScope s_steps_from, [], []⟩
def h_steps_between : He.DefD := ⟨("steps_between", none), "steps_between", "steps_between", defArgs s_steps_between, defBody s_steps_between, defScope s_steps_between, [], []⟩
def h_closed_steps : He.DefD := ⟨("closed_steps", none), "closed_steps", "closed_steps", defArgs s_closed_steps, defBody s_closed_steps, defScope s_closed_steps, [], []⟩
def h_lowered : He.DefD := ⟨("lowered", none), "lowered", "lowered", defArgs s_lowered, defBody s_lowered, defScope s_lowered, [], []⟩
def h_rows_of : He.DefD := ⟨("rows_of", none), "rows_of", "rows_of", defArgs s_rows_of, defBody s_rows_of, defScope s_rows_of, [], []⟩
def h_row_by_name : He.DefD := ⟨("row_by_name", none), "row_by_name", "row_by_name", defArgs s_row_by_name, defBody s_row_by_name, defScope s_row_by_name, [], []⟩
def h_unions_by_rows : He.DefD := ⟨("unions_by_rows", none), "unions_by_rows", "unions_by_rows", defArgs s_unions_by_rows, defBody s_unions_by_rows, defScope s_unions_by_rows, [], []⟩
def h_are_just : He.DefD := ⟨("are_just", none), "are_just", "are_just", defArgs s_are_just, defBody s_are_just, defScope s_are_just, [], []⟩
def h_looked_drawing : He.DefD := ⟨("looked_drawing", none), "looked_drawing", "looked_drawing", defArgs s_looked_drawing, defBody s_looked_drawing, defScope s_looked_drawing, [], []⟩
def h_heights_of : He.DefD := ⟨("heights_of", none), "heights_of", "heights_of", defArgs s_heights_of, defBody s_heights_of, defScope s_heights_of, [], []⟩
def h_Kin_bar : He.DefD := ⟨("Kin", some "bar"), "bar", "Kin.bar", defArgs s_Kin_bar, defBody s_Kin_bar, defScope s_Kin_bar, [], []⟩
def h_Kin_span : He.DefD := ⟨("Kin", some "span"), "span", "Kin.span", defArgs s_Kin_span, defBody s_Kin_span, defScope s_Kin_span, [], []⟩
def h_Kin_crossed : He.DefD := ⟨("Kin", some "crossed"), "crossed", "Kin.crossed", defArgs s_Kin_crossed, defBody s_Kin_crossed, defScope s_Kin_crossed, [], []⟩
def h_Kin___init__ : He.DefD := ⟨("Kin", some "__init__"), "__init__", "Kin.__init__", defArgs s_Kin___init__, defBody s_Kin___init__, defScope s_Kin___init__, [], []⟩
def h_crossings : He.DefD := ⟨("crossings", none), "crossings", "crossings", defArgs s_crossings, defBody s_crossings, defScope s_crossings, [], []⟩
def h_law_pen_of : He.DefD := ⟨("_law_pen_of", none), "_law_pen_of", "_law_pen_of", defArgs s_law_pen_of, defBody s_law_pen_of, defScope s_law_pen_of, [], []⟩
def h_law_draw : He.DefD := ⟨("_law_draw", none), "_law_draw", "_law_draw", defArgs s_law_draw, defBody s_law_draw, defScope s_law_draw, [], []⟩
def h_law_drawn_names : He.DefD := ⟨("_law_drawn_names", none), "_law_drawn_names", "_law_drawn_names", defArgs s_law_drawn_names, defBody s_law_drawn_names, defScope s_law_drawn_names, [], []⟩
def h_law_two_couples : He.DefD := ⟨("_law_two_couples", none), "_law_two_couples", "_law_two_couples", defArgs s_law_two_couples, defBody s_law_two_couples, defScope s_law_two_couples, [], []⟩
def h_law_uncle_and_niece : He.DefD := ⟨("_law_uncle_and_niece", none), "_law_uncle_and_niece", "_law_uncle_and_niece", defArgs s_law_uncle_and_niece, defBody s_law_uncle_and_niece, defScope s_law_uncle_and_niece, [], []⟩
def h_the_law : He.DefD := ⟨("law", none), "law", "law", defArgs s_the_law, defBody s_the_law, defScope s_the_law, [], []⟩
def hi_NoRows : He.DefD := ⟨("NoRows", some "__init__"), "__init__", "NoRows.__init__", defArgs si_NoRows, defBody si_NoRows, defScope si_NoRows, [], []⟩
def hi_NoDrawing : He.DefD := ⟨("NoDrawing", some "__init__"), "__init__", "NoDrawing.__init__", defArgs si_NoDrawing, defBody si_NoDrawing, defScope si_NoDrawing, [], []⟩
def fn : List He.DefD := [h_names_of, h_steps_from, h_steps_between, h_closed_steps, h_lowered, h_rows_of, h_row_by_name, h_unions_by_rows, h_are_just, h_looked_drawing, h_heights_of, h_Kin_bar, h_Kin_span, h_Kin_crossed, h_Kin___init__, h_crossings, h_law_pen_of, h_law_draw, h_law_drawn_names, h_law_two_couples, h_law_uncle_and_niece, h_the_law, hi_NoRows, hi_NoDrawing]
def fa : List He.Fa := [.free "abs", .free "all", .free "dict", .free "enumerate", .free "int", .free "isinstance", .free "len", .free "list", .free "max", .free "min", .free "range", .free "sorted", .free "tuple", .free "zip", .glo "names_of", .glo "steps_from", .glo "steps_between", .glo "closed_steps", .glo "lowered", .glo "rows_of", .glo "row_by_name", .glo "unions_by_rows", .glo "are_just", .glo "looked_drawing", .glo "heights_of", .glo "crossings", .glo "_law_pen_of", .glo "_law_draw", .glo "_law_drawn_names", .glo "_law_two_couples", .glo "_law_uncle_and_niece", .glo "law", .cls "Kin", .noat "Kin" "book", .noat "Kin" "rows", .noat "Kin" "folk", .noat "Kin" "child_in", .noat "Kin" "parent_in", .mkr "Kin", .glo "Kin", .meth "Kin" "bar", .meth "Kin" "span", .meth "Kin" "crossed", .glo "KinError", .glo "NoRows", .glo "NoDrawing"]
def ex (K : PySem.W.Frag) : Bool := ([keB K (He.ga K "KinError"), xcB K (He.ga K "NoRows"), xinB K (He.ga K "NoRows") (He.fAd K ("NoRows", some "__init__")) ["ring"], xcB K (He.ga K "NoDrawing"), xinB K (He.ga K "NoDrawing") (He.fAd K ("NoDrawing", some "__init__")) []] : List Bool).all id
def loose : List Str := (["KinError", "NoRows", "NoDrawing", "names_of", "steps_from", "steps_between", "closed_steps", "lowered", "rows_of", "row_by_name", "unions_by_rows", "are_just", "looked_drawing", "heights_of", "Kin", "crossings", "_law_pen_of", "_law_draw", "_law_drawn_names", "_law_two_couples", "_law_uncle_and_niece"] : List Str)
abbrev R : PySem.W.OpenRow := PySem.W.OpenLaw.row PySem.Challenge.rw_kinlines_k45_crossings_by_hand
abbrev hk : PySem.W.Hook := hookW 4 fa fn tbs ex
def ob (s : PySem.W.SharedT) : He.AlX := obsW 4 fa fn tbs ex (HandSHeadRun.getT s)
theorem ob_eq (s : PySem.W.SharedT) : ob s = hk.obs s.abs := obsW_eq (HandSHeadRun.getT_eq s)
theorem run1 (w : World) : Part1 R (PySem.W.view R.prog [26]) loose 6000 w := by
  intro os
  kernel_rfl
theorem run2 (w : World) : Part2 R 4 fa tbs ex 6000 w := by
  intro os
  kernel_rfl
theorem run3 (w : World) : Part3 R 4 fn 6000 w := by
  intro os
  kernel_rfl
theorem run (w : World) : HandSHeadRun.RunEq R (PySem.W.view R.prog [26]) hk ob 6000 loose w := run_parts (run1 w) (run2 w) (run3 w)

end K45
namespace TL
open PySem PySem.Spec PyProof.Rows L2
/-- a tracked tuple whose object is known -/
abbrev fT (o : Obj) (xs : List V) : HO := .frz o (.tup xs)
section
variable {X : Cx} {es : List Expr} {t : TA} {pos : Pos}
theorem new_tup {pins : List (Addr × Obj)} {σ : L2.St} {H : Hp} {s : Shared} {its : List Value} {xs : List V} {Q : VK} (I : Inv X pins σ H s) (r : Vals xs its) (z : xs.length ≤ sizeLine)
    (q : ∀ o : Obj, o.dict = none → Q (.ref s.heap.objs.size) (upd H s.heap.objs.size (fT o xs))) : EP X pins σ Q (.ref s.heap.objs.size) { s with heap := s.heap.push { cls := .type "tuple", data := .seq its.toArray } } := by
  have at_ : (s.heap.push { cls := .type "tuple", data := .seq its.toArray }).get? s.heap.objs.size = some { cls := .type "tuple", data := .seq its.toArray } := Heap.get?_push_size _ rfl
  exact ⟨.ref _, _, I.laid (t' := s.toks) (o := fT { cls := .type "tuple", data := .seq its.toArray } xs) (fun b u e => Heap.get?_push_of_some _ e) (Nat.le_refl _) ⟨at_, z, its, r, _, at_, rfl, 0, rfl⟩, rfl, q _ rfl⟩
def tTupF (t : TA) : L2.TE := fun σ H Q => t σ H fun xs H1 => xs.length ≤ sizeLine ∧ ∀ p o, H1 p = none → o.dict = none → Q (.ref p) (upd H1 p (fT o xs))
theorem pe_tupF {k1} (h : PA X es t) : PE X (.Tuple es k1 pos) (tTupF t) := ⟨fun pins s σ H Q I hq =>
  wpAny_Tuple_spliced (thn (h.run pos pins s σ H _ I hq) fun us s1 ⟨xs, H1, I1, r, z, q⟩ => ⟨by rw [← r.length]; exact z, new_tup I1 r z fun o d => q _ o (I1.hok.fresh (Nat.le_refl _)) d⟩)⟩
/-- t + u -/
def rCatF (K : PySem.W.Frag) : R2 := fun x y H Q => ∃ a b xs ys, x = .ref a ∧ y = .ref b ∧ SqT K H a xs ∧ SqT K H b ys ∧ xs.length + ys.length ≤ sizeLine ∧
  (xs = [] → Q (.ref b) H) ∧ (xs ≠ [] → ys = [] → Q (.ref a) H) ∧ (xs ≠ [] → ys ≠ [] → ∀ p o, H p = none → o.dict = none → Q (.ref p) (upd H p (fT o (xs ++ ys))))
theorem op_catF : OpR X (binaryOp .Add) (rCatF X.K) := by
  intro pins s σ H x y v u Q I rx ry ⟨a, b, xs, ys, e1, e2, ha, hb, hz, q0, q1, q2⟩
  subst e1 e2
  cases rx
  cases ry
  obtain ⟨is1, r1, p1, _⟩ := I.tuple ha
  obtain ⟨is2, r2, p2, _⟩ := I.tuple hb
  by_cases hx : xs = []
  · subst hx
    cases r1
    exact cat_tup0 p1 p2 ⟨.ref b, H, I, rfl, q0 rfl⟩
  · refine HT.cat_tup p1 p2 (fun z => hx (r1.nil_iff.mp z)) (fun z => ⟨.ref a, H, I, rfl, q1 hx (r2.nil_iff.mp z)⟩) (fun z => ?_) (by rw [← r1.length, ← r2.length]; exact hz)
    exact new_tup I (r1.append r2) (by rw [List.length_append]; exact hz) fun o d => q2 hx (fun w => z (r2.nil_iff.mpr w)) _ o (I.hok.fresh (Nat.le_refl _)) d
/-- t[lo:hi] -/
def rSlF (K : PySem.W.Frag) : V → Option Int → Option Int → Hp → VK → Prop := fun x lo hi H Q => ∃ a xs, x = .ref a ∧ SqT K H a xs ∧
  (HT.sIx xs.length 0 lo = 0 ∧ HT.sIx xs.length xs.length hi = xs.length → Q (.ref a) H) ∧ (¬ (HT.sIx xs.length 0 lo = 0 ∧ HT.sIx xs.length xs.length hi = xs.length) → ∀ p o, H p = none → o.dict = none → Q (.ref p) (upd H p (fT o (cutV xs lo hi))))
theorem sl_tupF : SlR X (rSlF X.K) := by
  intro pins s σ H x v vl vu lo hi sl Q I rx hs pl pu ⟨a, xs, e1, hx, q1, q2⟩
  subst e1
  cases rx
  obtain ⟨its, r, ht, hz⟩ := I.tuple hx
  have hlen : its.toArray.size = xs.length := by rw [List.size_toArray]; exact r.length.symm
  refine ⟨"tuple", _, PyProof.Rows.slot_tuple_getitem.lookup, ht.typeIs, ?_⟩
  by_cases hw : HT.sIx xs.length 0 lo = 0 ∧ HT.sIx xs.length xs.length hi = xs.length
  · exact getItem_tuple_whole ht hs pl pu (by rw [hlen]; exact hw) ⟨.ref a, H, I, rfl, q1 hw⟩
  · refine HT.getItem_tuple_cut ht hs pl pu (by rw [hlen]; exact hw) ?_ (by rw [hlen]; exact hz)
    rw [hlen]
    exact new_tup I ((r.drop (HT.sIx xs.length 0 lo)).take (HT.sIx xs.length xs.length hi - HT.sIx xs.length 0 lo)) (Nat.le_trans (cutV_length xs lo hi) hz) fun o d => q2 hw _ o (I.hok.fresh (Nat.le_refl _)) d
/-- tuple(xs) -/
theorem call_tupleF : CallR X (.type "tuple") (fun xs H Q => ∃ p ys, xs = [.ref p] ∧ ((SqL X.K H p ys ∧ ∀ l o, H l = none → o.dict = none → Q (.ref l) (upd H l (fT o ys))) ∨ (SqT X.K H p ys ∧ Q (.ref p) H))) := by
  intro pins s σ H xs us Q I r ⟨p, ys, e1, h⟩
  subst e1
  obtain ⟨u, e2, rx⟩ := L2.vals1 r
  subst e2
  cases rx
  rcases h with ⟨hq, q⟩ | ⟨hq, q⟩
  · obtain ⟨its, rr, pl, hz⟩ := I.list hq
    have hlen := rr.length
    refine call_tuple_list pl.isList (fun g kp => ?_) (by simp only [List.size_toArray] <;> omega)
    have I1 : Inv X pins σ H { s with heap := g } := I.kept (t' := s.toks) kp
    exact new_tup (s := { s with heap := g }) I1 rr hz fun o d => q _ o (I1.hok.fresh (Nat.le_refl _)) d
  · obtain ⟨its, rr, pl, hz⟩ := I.tuple hq
    exact call_tuple_same pl ⟨.ref p, H, I, rfl, q⟩
/-- a tuple whose object is known to have no dict -/
def BareT (K : PySem.W.Frag) (H : Hp) (a : Addr) (xs : List V) : Prop := (∃ o, H a = some (fT o xs) ∧ o.dict = none) ∨
  ∃ (o : Obj) (its : Array Value) (n : Nat), K.lookup a = some o ∧ o.cls = .type "tuple" ∧ o.dict = none ∧ o.data = .seq its n ∧ its.size ≤ sizeLine ∧ Vals xs its.toList
theorem BareT.sq {K : PySem.W.Frag} {H : Hp} {a : Addr} {xs : List V} (h : BareT K H a xs) : SqT K H a xs := h.elim (fun ⟨o, z, _⟩ => .inl (.inr ⟨o, z⟩)) fun ⟨o, its, n, a1, a2, _, a4⟩ => .inr ⟨o, its, n, a1, a2, a4⟩
theorem BareT.plain {pins : List (Addr × Obj)} {σ : L2.St} {H : Hp} {s : Shared} {a : Addr} {xs : List V} (I : Inv X pins σ H s) (h : BareT X.K H a xs) : ∃ its : List Value, Vals xs its ∧ PlainSeq "tuple" s.heap a its.toArray ∧ xs.length ≤ sizeLine := by
  obtain ⟨its, r, ⟨ob, hb, hc, n, hd⟩, hz⟩ := I.tuple h.sq
  refine ⟨its, r, ⟨ob, n, hb, hc, ?_, hd⟩, hz⟩
  rcases h with ⟨o, e, d⟩ | ⟨o, is2, n2, a1, a2, a3, _⟩
  · obtain ⟨g, _⟩ := I.hok a _ e
    rw [hb] at g
    cases g
    exact d
  · have g := I.kIn _ _ a1
    rw [hb] at g
    cases g
    exact a3
/-- dict(t) of a tuple of pairs -/
theorem pairs_val {pins : List (Addr × Obj)} {σ : L2.St} {H : Hp} {s : Shared} (I : Inv X pins σ H s) : ∀ {ps : List Addr} {kvs : List (Key × V)}, Paired (fun p kv => SqT X.K H p [kV kv.1, kv.2]) ps kvs →
    ∃ (prs : List (Key × Value)) (qs : List (Value × Value)), KV kvs prs ∧ prs.length = ps.length ∧ qs.length = ps.length ∧ ∀ (j : Nat) (k v : Value), qs[j]? = some (k, v) → ∃ (b : Addr) (c : Key), ps[j]? = some b ∧ prs[j]? = some (c, v) ∧ IsTup s.heap b #[k, v] ∧ keyIs c k = true
  | _, _, .nil => ⟨[], [], .nil, rfl, rfl, fun j k v e => by simp at e⟩
  | _, _, .cons (a := p) (b := kv) h t => by
    obtain ⟨prs, qs, r, hl, hm, hp⟩ := pairs_val I t
    obtain ⟨its, rv, ht, _⟩ := I.tuple h
    obtain ⟨u, y, ei, ru, ry⟩ := L2.vals2 rv
    subst ei
    refine ⟨(kv.1, y) :: prs, (u, y) :: qs, .cons ⟨rfl, ry⟩ r, by simp [hl], by simp [hm], fun j k v e => ?_⟩
    cases j with
    | zero =>
      cases Option.some.inj e
      exact ⟨p, kv.1, rfl, rfl, ht, kV_is (P := X.prog) (w := X.w) ru⟩
    | succ j =>
      obtain ⟨b, c, e1, e2, e3, e4⟩ := hp j k v (by simpa using e)
      exact ⟨b, c, by simpa using e1, by simpa using e2, e3, e4⟩
theorem call_dictT (hcalm : X.calm = true) : CallR X (.type "dict") (fun xs H Q => ∃ (a : Addr) (ps : List Addr) (kvs : List (Key × V)), xs = [.ref a] ∧ BareT X.K H a (ps.map V.ref) ∧ Paired (fun p kv => SqT X.K H p [kV kv.1, kv.2]) ps kvs ∧
    ∀ p, H p = none → Q (.ref p) (upd H p (.dK (mergeK [] kvs)))) := by
  intro pins s σ H xs us Q I r ⟨a, ps, kvs, ex, hq, hp, q⟩
  subst ex
  obtain ⟨u, eu, rx⟩ := L2.vals1 r
  subst eu
  cases rx
  obtain ⟨its, rv, pl, hz⟩ := hq.plain I
  have ei := refs_at rv
  subst ei
  rw [List.length_map] at hz
  obtain ⟨prs, qs, rel, hl, hm, hpr⟩ := pairs_val I hp
  have hk : PairItems s.heap (ps.map Value.ref).toArray (fun j => ps.getD j a) qs := ⟨by simp [hm], fun j k v e => by
    obtain ⟨b, c, e1, e2, ⟨ob, f1, f2, n, f3⟩, e4⟩ := hpr j k v e
    have gd : ps.getD j a = b := by rw [List.getD_eq_getElem?_getD, e1]; rfl
    refine ⟨?_, .inl ?_⟩
    · show (ps.map Value.ref).toArray[j]? = some (Value.ref (ps.getD j a))
      rw [gd]
      simp [e1]
    · show s.heap.IsTuple (ps.getD j a) _
      rw [gd]
      exact ⟨ob, f1, f2, n, f3⟩⟩
  refine PySem.call_dict_pairs (knd := mixKind X.prog X.w) (kvs := prs) (PairArg.tuple a _ _ qs) (I.ok.hd hcalm) ⟨pl, hk⟩ ⟨by rw [hl, hm], fun j k v e => ?_⟩ (by rw [hm]; exact hz) fun g tk hd' kp => ?_
  · obtain ⟨b, c, e1, e2, e3, e4⟩ := hpr j k v e
    exact ⟨c, e2, e4⟩
  · have hb : (s.heap.objs.size == sysModules) = false := beq_eq_false_iff_ne.mpr (Nat.ne_of_gt I.big)
    have hlen : (mergeK [] kvs).length ≤ sizeLine := Nat.le_trans (length_mergeK kvs []) (by rw [List.length_nil, Nat.zero_add, rel.length, hl]; exact hz)
    exact ⟨.ref s.heap.objs.size, upd H s.heap.objs.size (.dK (mergeK [] kvs)), I.laid (t' := tk) (fun b o e => kp b o (fun z => nomatch z) e) (Nat.le_refl _) (show ObjOk X.prog X.w _ _ _ (.dK (mergeK [] kvs)) from ⟨hlen, hb, merged [] prs, KV.merge rel .nil, hd'⟩), rfl, q _ (I.hok.fresh (Nat.le_refl _))⟩
end
end TL
namespace TL
open PySem PySem.Spec PyProof.Rows L2
/-- a sign: texts are of these alone -/
abbrev Sg := Fin 128
def txt (x : List Sg) : Str := ⟨(x.map (·.val)).toArray⟩
theorem txt_list (x : List Sg) : (txt x).cps.toList = x.map (·.val) := rfl
theorem map_val_inj : ∀ {x y : List Sg}, x.map (·.val) = y.map (·.val) → x = y
  | [], [], _ => rfl
  | [], _ :: _, h => by cases h
  | _ :: _, [], h => by cases h
  | a :: x, b :: y, h => by
    rw [List.map_cons, List.map_cons] at h
    injection h with h1 h2
    rw [Fin.ext h1, map_val_inj h2]
theorem txt_inj {x y : List Sg} (h : txt x = txt y) : x = y := map_val_inj (by rw [← txt_list, h, txt_list])
theorem txt_len (x : List Sg) : (txt x).length = x.length := by
  show (x.map (·.val)).toArray.size = x.length
  simp
theorem txt_app (x y : List Sg) : txt (x ++ y) = txt x ++ txt y := by
  show (⟨((x ++ y).map (·.val)).toArray⟩ : Str) = ⟨(x.map (·.val)).toArray ++ (y.map (·.val)).toArray⟩
  simp
/-- a value as a tree; ref: a thing that may change, told by the store -/
inductive T where
  | non
  | bl (b : Bool)
  | int (i : Int)
  | str (x : List Sg)
  | tup (xs : List T)
  | lst (xs : List T)
  | ref (a : Addr)
  | exc (c : Str) (ns : List Str) (vs : List T)
  | dct (nst : Bool) (ks vs : List T)
  | obj (c : Str) (ns : List Str) (vs : List T)
  | fn (x : Str)
  | scr (ns : List Int)
  deriving Inhabited

/-- what may change -/
inductive Cell where
  | lst (xs : List T)
  | dct (nst : Bool) (ks vs : List T)
  | ins (c : Str) (ns : List Str) (vs : List T)

abbrev Sto := Addr → Option Cell
abbrev TEnv := List (Option T)
def ups (S : Sto) (a : Addr) (c : Cell) : Sto := fun b => if b = a then some c else S b
theorem ups_same {S : Sto} {a : Addr} {c : Cell} : ups S a c a = some c := if_pos rfl
theorem ups_ne {S : Sto} {a b : Addr} {c : Cell} (h : b ≠ a) : ups S a c b = S b := if_neg h
def offs (S : Sto) (a : Addr) : Sto := fun b => if b = a then none else S b
theorem offs_same {S : Sto} {a : Addr} : offs S a a = none := if_pos rfl
theorem offs_ne {S : Sto} {a b : Addr} (h : b ≠ a) : offs S a b = S b := if_neg h

mutual
/-- a key, up to == -/
def keyOf : T → Option NestedKey
  | .non => some .none
  | .bl b => some (.num (if b = true then 1 else 0))
  | .int i => some (.num i)
  | .str x => some (.text (txt x))
  | .tup ts => (keysOf ts).map .tup
  | _ => none
def keysOf : List T → Option (List NestedKey)
  | [] => some []
  | t :: ts => match keyOf t, keysOf ts with
    | some k, some ks => some (k :: ks)
    | _, _ => none
end
def isFrz : HO → Bool
  | .frz _ _ => true
  | _ => false
/-- the written part and the world -/
structure Gd where
  P : Program
  K : PySem.W.Frag
  w : World
  /-- what is not looked at -/
  M : Addr → Prop
/-- an object of the written part -/
def StT (K : PySem.W.Frag) (a : Addr) (xs : List V) : Prop :=
  ∃ (o : Obj) (its : Array Value) (n : Nat), K.lookup a = some o ∧ o.cls = .type "tuple" ∧ o.dict = none ∧ o.data = .seq its n ∧ its.size ≤ sizeLine ∧ Vals xs its.toList
def StL (K : PySem.W.Frag) (a : Addr) (xs : List V) : Prop :=
  ∃ (o : Obj) (its : Array Value) (n : Nat), K.lookup a = some o ∧ o.cls = .type "list" ∧ o.dict = none ∧ o.data = .seq its n ∧ its.size ≤ sizeLine ∧ Vals xs its.toList
/-- tracked as u, and no cell -/
def At (M : Addr → Prop) (H : Hp) (S : Sto) (a : Addr) (u : HO) : Prop := Rd H a u ∧ S a = none ∧ ¬ M a
def TupAt (G : Gd) (H : Hp) (S : Sto) (a : Addr) (xs : List V) : Prop := (∃ o, (H a = some (fT o xs) ∧ o.dict = none) ∧ S a = none ∧ ¬ G.M a) ∨ StT G.K a xs
def LstAt (G : Gd) (H : Hp) (S : Sto) (a : Addr) (xs : List V) : Prop := H a = some (.lst xs) ∧ S a = none ∧ ¬ G.M a
/-- the law's script -/
def ScrAt (G : Gd) (H : Hp) (S : Sto) (a : Addr) (xs : List V) : Prop := (∃ o, H a = some (.frz o (.lst xs)) ∧ S a = none ∧ ¬ G.M a) ∨ StL G.K a xs
theorem ScrAt.sq {G : Gd} {H : Hp} {S : Sto} {a : Addr} {xs : List V} (h : ScrAt G H S a xs) : SqL G.K H a xs := h.elim (fun ⟨o, z, _⟩ => .inl (.inr ⟨o, z⟩)) .inr
theorem TupAt.sq {G : Gd} {H : Hp} {S : Sto} {a : Addr} {xs : List V} (h : TupAt G H S a xs) : SqT G.K H a xs := h.elim (fun ⟨o, z, _⟩ => .inl (.inr ⟨o, z.1⟩)) fun ⟨o, its, n, a1, a2, _, a4⟩ => .inr ⟨o, its, n, a1, a2, a4⟩
theorem TupAt.bare {G : Gd} {H : Hp} {S : Sto} {a : Addr} {xs : List V} (h : TupAt G H S a xs) : BareT G.K H a xs := h.elim (fun ⟨o, z, _⟩ => .inl ⟨o, z⟩) .inr
theorem LstAt.sq {G : Gd} {H : Hp} {S : Sto} {a : Addr} {xs : List V} (h : LstAt G H S a xs) : SqL G.K H a xs := SqL.of h.1
/-- the entries of a dict by tuples, as its object holds them -/
def rawN (w : World) (a : Addr) (es : List (NestedKey × Addr × V)) (h : Heap) : Prop :=
  es.length ≤ sizeLine ∧ (a == sysModules) = false ∧ (∀ e ∈ es, e.1.depth ≤ 8) ∧ (es.map (·.1)).Nodup ∧
    ∃ us : List Value, Vals (es.map (·.2.2)) us ∧ ∃ o en ep, h.get? a = some o ∧ o.ExactDict ∧ o.data = .dict en ep ∧
      en.toList = (es.zip us).map fun q => (⟨q.1.1.hash w, .ref q.1.2.1, q.2⟩ : DictEntry)
def dN (w : World) (a : Addr) (es : List (NestedKey × Addr × V)) : HO := .ext (rawN w a es)

/-- at a: an exception of the class at C, its dict (none | at d) -/
def exv (a C : Addr) (d : Option Addr) : HO := .ext fun h => ∃ (o : Obj) (vs : Array Value), h.get? a = some o ∧ L2N.Zn (.ref C) d o ∧ o.data = .fields vs

mutual
/-- the tree t lies as v -/
inductive Rep (G : Gd) (H : Hp) (S : Sto) : T → V → Prop
  | non : Rep G H S .non .non
  | bl (b : Bool) : Rep G H S (.bl b) (.bl b)
  | int (i : Int) : Rep G H S (.int i) (.int i)
  | str (x : List Sg) : Rep G H S (.str x) (.str (txt x))
  | ref (a : Addr) : Rep G H S (.ref a) (.ref a)
  | fn (x : Str) : Rep G H S (.fn x) (.ref (He.ga G.K x))
  | scr {a : Addr} {ns : List Int} : ScrAt G H S a (ns.map V.int) → Rep G H S (.scr ns) (.ref a)
  | tup {a : Addr} {xs : List V} {ts : List T} : TupAt G H S a xs → Reps G H S ts xs → Rep G H S (.tup ts) (.ref a)
  | lst {a : Addr} {xs : List V} {ts : List T} : LstAt G H S a xs → Reps G H S ts xs → Rep G H S (.lst ts) (.ref a)
  | exc0 {a : Addr} {c : Str} : At G.M H S a (exv a (He.ga G.K c) none) → Rep G H S (.exc c [] []) (.ref a)
  | exc1 {a d : Addr} {c : Str} {ns : List Str} {ts : List T} {xs : List V} : At G.M H S a (exv a (He.ga G.K c) (some d)) → At G.M H S d (.xd (ns.zip xs)) → ns.length = xs.length → Reps G H S ts xs → Rep G H S (.exc c ns ts) (.ref a)
  | dK {a : Addr} {kvs : List (Key × V)} {ks vs : List T} : At G.M H S a (.dK kvs) → Reps G H S ks (kvs.map fun p => kV p.1) → Reps G H S vs (kvs.map (·.2)) → Rep G H S (.dct false ks vs) (.ref a)
  | dN {a : Addr} {es : List (NestedKey × Addr × V)} {ks vs : List T} : At G.M H S a (dN G.w a es) → keysOf ks = some (es.map (·.1)) → Reps G H S ks (es.map fun e => V.ref e.2.1) → Reps G H S vs (es.map (·.2.2)) → Rep G H S (.dct true ks vs) (.ref a)
  | obj {a d : Addr} {c : Str} {ns : List Str} {ts : List T} {xs : List V} : (H a = some (.ins (He.ga G.K c) d (ns.zip xs)) ∧ S a = none ∧ ¬ G.M a) → ns.length = xs.length → Reps G H S ts xs → Rep G H S (.obj c ns ts) (.ref a)
inductive Reps (G : Gd) (H : Hp) (S : Sto) : List T → List V → Prop
  | nil : Reps G H S [] []
  | cons {t : T} {ts : List T} {v : V} {vs : List V} : Rep G H S t v → Reps G H S ts vs → Reps G H S (t :: ts) (v :: vs)
end
/-- a thing that may change, as it lies -/
def CellOk (G : Gd) (H : Hp) (S : Sto) (a : Addr) : Cell → Prop
  | .lst ts => ∃ xs, H a = some (.lst xs) ∧ Reps G H S ts xs
  | .dct false ks vs => ∃ kvs : List (Key × V), H a = some (.dK kvs) ∧ Reps G H S ks (kvs.map fun p => kV p.1) ∧ Reps G H S vs (kvs.map (·.2))
  | .dct true ks vs => ∃ es : List (NestedKey × Addr × V), H a = some (dN G.w a es) ∧ keysOf ks = some (es.map (·.1)) ∧ Reps G H S ks (es.map fun e => V.ref e.2.1) ∧ Reps G H S vs (es.map (·.2.2))
  | .ins c ns ts => ∃ d xs, H a = some (.ins (He.ga G.K c) d (ns.zip xs)) ∧ ns.length = xs.length ∧ Reps G H S ts xs
structure StoOk (G : Gd) (H : Hp) (S : Sto) : Prop where
  at_ : ∀ a c, S a = some c → CellOk G H S a c
  msk : ∀ a, G.M a → H a ≠ none
  sep : ∀ a, G.M a → S a = none

/-- what a loop may lock -/
def isD : HO → Bool
  | .dK _ => true
  | .dT _ => true
  | .ext _ => true
  | _ => false
def lkd : HO → Bool
  | .frz _ u => isD u
  | u => isD u
/-- what lay still lies still, but for what is not looked at -/
def ExtM (M : Addr → Prop) (S : Sto) (H : Hp) (S' : Sto) (H' : Hp) : Prop := ∀ b u, ¬ M b → S b = none → (H b = some u → lkd u = false → H' b = some u ∧ S' b = none) ∧ (Rd H b u → isD u = true → Rd H' b u ∧ S' b = none)
/-- what lay still lies still -/
def Ext (S : Sto) (H : Hp) (S' : Sto) (H' : Hp) : Prop := ∀ b u, S b = none → (H b = some u → isD u = false → H' b = some u ∧ S' b = none) ∧ (Rd H b u → isD u = true → Rd H' b u ∧ S' b = none)
section
variable {G : Gd} {H H' H2 : Hp} {S S' S2 : Sto} {M : Addr → Prop}
theorem lkd_isD {u : HO} (h : lkd u = false) : isD u = false := by
  cases u <;> first | exact h | rfl
theorem Ext.m (x : Ext S H S' H') : ExtM M S H S' H' := fun b u _ n => ⟨fun h f => (x b u n).1 h (lkd_isD f), (x b u n).2⟩
theorem Ext.refl : Ext S H S H := fun _ _ n => ⟨fun h _ => ⟨h, n⟩, fun h _ => ⟨h, n⟩⟩
theorem Ext.trans (x : Ext S H S' H') (y : Ext S' H' S2 H2) : Ext S H S2 H2 := fun b u n =>
  ⟨fun h f => let z := (x b u n).1 h f; (y b u z.2).1 z.1 f, fun h f => let z := (x b u n).2 h f; (y b u z.2).2 z.1 f⟩
theorem At.extM {a : Addr} {u : HO} (h : At M H S a u) (x : ExtM M S H S' H') (f : isFrz u = false := by rfl) : At M H' S' a u := by
  obtain ⟨h1, h2, h3⟩ := h
  cases hd : isD u with
  | true =>
    have w := (x a u h3 h2).2 h1 hd
    exact ⟨w.1, w.2, h3⟩
  | false =>
    rcases h1 with z | ⟨o, z⟩
    · have k : lkd u = false := by
        cases u <;> first | exact hd | cases f
      have w := (x a u h3 h2).1 z k
      exact ⟨.inl w.1, w.2, h3⟩
    · have w := (x a (.frz o u) h3 h2).1 z hd
      exact ⟨.inr ⟨o, w.1⟩, w.2, h3⟩
theorem TupAt.extM {a : Addr} {xs : List V} (h : TupAt G H S a xs) (x : ExtM G.M S H S' H') : TupAt G H' S' a xs := h.elim (fun ⟨o, z, s, m⟩ => let w := (x a _ m s).1 z.1 rfl; .inl ⟨o, ⟨w.1, z.2⟩, w.2, m⟩) .inr
theorem LstAt.extM {a : Addr} {xs : List V} (h : LstAt G H S a xs) (x : ExtM G.M S H S' H') : LstAt G H' S' a xs := let w := (x a _ h.2.2 h.2.1).1 h.1 rfl; ⟨w.1, w.2, h.2.2⟩
theorem At.ext {a : Addr} {u : HO} (h : At M H S a u) (x : Ext S H S' H') (f : isFrz u = false := by rfl) : At M H' S' a u := h.extM x.m f
theorem TupAt.ext {a : Addr} {xs : List V} (h : TupAt G H S a xs) (x : Ext S H S' H') : TupAt G H' S' a xs := h.extM x.m
theorem LstAt.ext {a : Addr} {xs : List V} (h : LstAt G H S a xs) (x : Ext S H S' H') : LstAt G H' S' a xs := h.extM x.m
theorem Ext.exact {a : Addr} {u : HO} (x : Ext S H S' H') (h : H a = some u) (n : S a = none) (k : isD u = false := by rfl) : H' a = some u ∧ S' a = none := (x a u n).1 h k
mutual
theorem Rep.extM (x : ExtM G.M S H S' H') : ∀ (t : T) (v : V), Rep G H S t v → Rep G H' S' t v
  | .non, _, h => by cases h; exact .non
  | .bl _, _, h => by cases h; exact .bl _
  | .int _, _, h => by cases h; exact .int _
  | .str _, _, h => by cases h; exact .str _
  | .ref _, _, h => by cases h; exact .ref _
  | .fn _, _, h => by cases h; exact .fn _
  | .scr _, _, h => by
    cases h with
    | scr h1 => exact .scr (h1.imp (fun ⟨o, z1, z2, z3⟩ => ⟨o, ((x _ _ z3 z2).1 z1 rfl).1, ((x _ _ z3 z2).1 z1 rfl).2, z3⟩) id)
  | .tup ts, _, h => by
    cases h with
    | tup h1 h2 => exact .tup (h1.extM x) (Reps.extM x ts _ h2)
  | .lst ts, _, h => by
    cases h with
    | lst h1 h2 => exact .lst (h1.extM x) (Reps.extM x ts _ h2)
  | .exc c ns ts, _, h => by
    cases h with
    | exc0 h1 => exact .exc0 (h1.extM x)
    | exc1 h1 h2 h3 h4 => exact .exc1 (h1.extM x) (h2.extM x) h3 (Reps.extM x ts _ h4)
  | .dct b ks vs, _, h => by
    cases h with
    | dK h1 h2 h3 => exact .dK (h1.extM x) (Reps.extM x ks _ h2) (Reps.extM x vs _ h3)
    | dN h1 h2 h3 h4 => exact .dN (h1.extM x) h2 (Reps.extM x ks _ h3) (Reps.extM x vs _ h4)
  | .obj c ns ts, _, h => by
    cases h with
    | obj h1 h2 h3 =>
      have w := (x _ _ h1.2.2 h1.2.1).1 h1.1 rfl
      exact .obj ⟨w.1, w.2, h1.2.2⟩ h2 (Reps.extM x ts _ h3)
theorem Reps.extM (x : ExtM G.M S H S' H') : ∀ (ts : List T) (vs : List V), Reps G H S ts vs → Reps G H' S' ts vs
  | [], _, h => by cases h; exact .nil
  | t :: ts, _, h => by
    cases h with
    | cons h1 h2 => exact .cons (Rep.extM x t _ h1) (Reps.extM x ts _ h2)
end
theorem Rep.ext (x : Ext S H S' H') (t : T) (v : V) (h : Rep G H S t v) : Rep G H' S' t v := Rep.extM x.m t v h
theorem Reps.ext (x : Ext S H S' H') (t : List T) (v : List V) (h : Reps G H S t v) : Reps G H' S' t v := Reps.extM x.m t v h
theorem CellOk.extM {a : Addr} {c : Cell} (h : CellOk G H S a c) (x : ExtM G.M S H S' H') (e : H' a = H a) : CellOk G H' S' a c := by
  cases c with
  | lst ts =>
    obtain ⟨xs, h1, h2⟩ := h
    exact ⟨xs, e.trans h1, Reps.extM x _ _ h2⟩
  | dct b ks vs =>
    cases b with
    | false =>
      obtain ⟨kvs, h1, h2, h3⟩ := h
      exact ⟨kvs, e.trans h1, Reps.extM x _ _ h2, Reps.extM x _ _ h3⟩
    | true =>
      obtain ⟨es, h1, h2, h3, h4⟩ := h
      exact ⟨es, e.trans h1, h2, Reps.extM x _ _ h3, Reps.extM x _ _ h4⟩
  | ins c ns ts =>
    obtain ⟨d, xs, h1, h2, h3⟩ := h
    exact ⟨d, xs, e.trans h1, h2, Reps.extM x _ _ h3⟩
theorem CellOk.ext {a : Addr} {c : Cell} (h : CellOk G H S a c) (x : Ext S H S' H') (e : H' a = H a) : CellOk G H' S' a c := h.extM x.m e
theorem CellOk.there {a : Addr} {c : Cell} (h : CellOk G H S a c) : ∃ o, H a = some o := by
  cases c with
  | lst ts => obtain ⟨xs, h1, _⟩ := h; exact ⟨_, h1⟩
  | dct b ks vs =>
    cases b with
    | false => obtain ⟨kvs, h1, _⟩ := h; exact ⟨_, h1⟩
    | true => obtain ⟨es, h1, _⟩ := h; exact ⟨_, h1⟩
  | ins c ns ts => obtain ⟨d, xs, h1, _⟩ := h; exact ⟨_, h1⟩
theorem StoOk.free (h : StoOk G H S) {a : Addr} (n : H a = none) : S a = none := by
  cases e : S a with
  | none => rfl
  | some c =>
    obtain ⟨o, q⟩ := (h.at_ a c e).there
    rw [n] at q
    cases q
theorem StoOk.nom (h : StoOk G H S) {a : Addr} (n : H a = none) : ¬ G.M a := fun m => h.msk a m n
theorem upd_some {p a : Addr} {o : HO} (h : H a ≠ none) : upd H p o a ≠ none := fun z => by
  by_cases e : a = p
  · subst e
    rw [upd_same] at z
    cases z
  · rw [upd_ne e] at z
    exact h z
theorem Rd.ne {p b : Addr} {u : HO} (n : H p = none) (h : Rd H b u) : b ≠ p := fun e => by
  subst e
  rcases h with h | ⟨_, h⟩ <;> rw [n] at h <;> cases h
theorem Rd.upd {p b : Addr} {u o : HO} (ne : b ≠ p) (h : Rd H b u) : Rd (upd H p o) b u := by
  rcases h with h | ⟨q, h⟩
  · exact .inl ((upd_ne ne).trans h)
  · exact .inr ⟨q, (upd_ne ne).trans h⟩
/-- a new object that no cell is -/
theorem Ext.new {p : Addr} {o : HO} (n : H p = none) : Ext S H S (upd H p o) := fun b u k =>
  ⟨fun h _ => ⟨(upd_ne (ne_of_none h n)).trans h, k⟩, fun h _ => ⟨Rd.upd (Rd.ne n h) h, k⟩⟩
theorem StoOk.new {p : Addr} {o : HO} (h : StoOk G H S) (n : H p = none) : StoOk G (upd H p o) S := ⟨fun a c e =>
  (h.at_ a c e).ext (Ext.new n) (upd_ne fun z => by
    subst z
    obtain ⟨o, q⟩ := (h.at_ _ c e).there
    rw [n] at q
    cases q), fun a m => upd_some (h.msk a m), h.sep⟩
/-- a cell written, or a new one -/
theorem Ext.cell {p : Addr} {o : HO} {c : Cell} (n : H p = none ∨ ∃ c, S p = some c) : Ext S H (ups S p c) (upd H p o) := fun b u k => by
  have ne : ∀ {u}, Rd H b u → b ≠ p := fun h e => by
    subst e
    rcases n with n | ⟨c, n⟩
    · exact Rd.ne n h rfl
    · rw [n] at k; cases k
  exact ⟨fun h _ => ⟨(upd_ne (ne (.inl h))).trans h, (ups_ne (ne (.inl h))).trans k⟩, fun h _ => ⟨Rd.upd (ne h) h, (ups_ne (ne h)).trans k⟩⟩
theorem StoOk.cell {p : Addr} {o : HO} {c : Cell} (h : StoOk G H S) (n : H p = none ∨ ∃ c, S p = some c) (k : CellOk G (upd H p o) (ups S p c) p c) : StoOk G (upd H p o) (ups S p c) := ⟨fun a d e => by
  by_cases q : a = p
  · subst q
    rw [ups_same] at e
    cases e
    exact k
  · rw [ups_ne q] at e
    exact (h.at_ a d e).ext (Ext.cell n) (upd_ne q), fun a m => upd_some (h.msk a m), fun a m => by
  have q : a ≠ p := fun e => by
    subst e
    rcases n with n | ⟨c, n⟩
    · exact h.nom n m
    · rw [h.sep _ m] at n
      cases n
  rw [ups_ne q]
  exact h.sep a m⟩
/-- a cell given up: it stands from now on -/
theorem Ext.drop (h : ∀ a, S a = none → S' a = none) : Ext S H S' H := fun b _ n => ⟨fun r _ => ⟨r, h b n⟩, fun r _ => ⟨r, h b n⟩⟩
theorem StoOk.drop (h : StoOk G H S) (k : ∀ a c, S' a = some c → S a = some c) : StoOk G H S' := ⟨fun a c e =>
  (h.at_ a c (k a c e)).ext (Ext.drop fun b n => by
    cases q : S' b with
    | none => rfl
    | some d => rw [k b d q] at n; cases n) rfl, h.msk, fun a m => by
  cases q : S' a with
  | none => rfl
  | some d =>
    have z := k a d q
    rw [h.sep a m] at z
    cases z⟩
/-- a thing that is not looked at is written -/
theorem ExtM.at {p : Addr} {o : HO} (h : M p) : ExtM M S H S (upd H p o) := fun b u nb k => by
  have ne : b ≠ p := fun e => nb (e ▸ h)
  exact ⟨fun h _ => ⟨(upd_ne ne).trans h, k⟩, fun h _ => ⟨Rd.upd ne h, k⟩⟩
theorem Reps.length : ∀ {ts : List T} {vs : List V}, Reps G H S ts vs → ts.length = vs.length
  | [], _, h => by cases h; rfl
  | _ :: _, _, h => by
    cases h with
    | cons _ h2 => rw [List.length_cons, List.length_cons, Reps.length h2]
theorem Reps.append : ∀ {ts us : List T} {vs ws : List V}, Reps G H S ts vs → Reps G H S us ws → Reps G H S (ts ++ us) (vs ++ ws)
  | [], _, _, _, h, h2 => by cases h; exact h2
  | _ :: _, _, _, _, h, h2 => by
    cases h with
    | cons q1 q2 => exact .cons q1 (Reps.append q2 h2)
theorem Reps.get : ∀ {ts : List T} {vs : List V} {i : Nat} {t : T}, Reps G H S ts vs → ts[i]? = some t → ∃ v, vs[i]? = some v ∧ Rep G H S t v
  | [], _, _, _, _, e => by simp at e
  | _ :: _, _, 0, _, h, e => by
    cases h with
    | cons q1 _ =>
      simp at e
      subst e
      exact ⟨_, rfl, q1⟩
  | _ :: _, _, i + 1, _, h, e => by
    cases h with
    | cons _ q2 =>
      obtain ⟨v, h1, h2⟩ := Reps.get (i := i) q2 (by simpa using e)
      exact ⟨v, by simpa using h1, h2⟩
theorem Reps.set {t : T} {v : V} (r : Rep G H S t v) : ∀ {ts : List T} {vs : List V} (i : Nat), Reps G H S ts vs → Reps G H S (ts.set i t) (vs.set i v)
  | [], _, _, h => by cases h; exact .nil
  | _ :: _, _, 0, h => by
    cases h with
    | cons _ q2 => exact .cons r q2
  | _ :: _, _, i + 1, h => by
    cases h with
    | cons q1 q2 => exact .cons q1 (Reps.set r i q2)
theorem Reps.take : ∀ {ts : List T} {vs : List V} (n : Nat), Reps G H S ts vs → Reps G H S (ts.take n) (vs.take n)
  | _, _, 0, _ => .nil
  | [], _, _ + 1, h => by cases h; exact .nil
  | _ :: _, _, n + 1, h => by
    cases h with
    | cons q1 q2 => exact .cons q1 (Reps.take n q2)
theorem Reps.drop : ∀ {ts : List T} {vs : List V} (n : Nat), Reps G H S ts vs → Reps G H S (ts.drop n) (vs.drop n)
  | _, _, 0, h => h
  | [], _, _ + 1, h => by cases h; exact .nil
  | _ :: _, _, n + 1, h => by
    cases h with
    | cons _ q2 => exact Reps.drop n q2
end
abbrev Gd.mask (G : Gd) (M : Addr → Prop) : Gd := { G with M := M }
section
variable {G : Gd} {H : Hp} {S : Sto} {M : Addr → Prop}
theorem At.mask {a : Addr} {u : HO} (k : ∀ a u, Rd H a u → ¬ G.M a → ¬ M a) (h : At G.M H S a u) : At (G.mask M).M H S a u := ⟨h.1, h.2.1, k a u h.1 h.2.2⟩
mutual
theorem Rep.mask (k : ∀ a u, Rd H a u → ¬ G.M a → ¬ M a) : ∀ (t : T) (v : V), Rep G H S t v → Rep (G.mask M) H S t v
  | .non, _, h => by cases h; exact .non
  | .bl _, _, h => by cases h; exact .bl _
  | .int _, _, h => by cases h; exact .int _
  | .str _, _, h => by cases h; exact .str _
  | .ref _, _, h => by cases h; exact .ref _
  | .fn _, _, h => by cases h; exact .fn _
  | .scr _, _, h => by
    cases h with
    | scr h1 => exact .scr (h1.imp (fun ⟨o, z1, z2, z3⟩ => ⟨o, z1, z2, k _ _ (.inl z1) z3⟩) id)
  | .tup ts, _, h => by
    cases h with
    | tup h1 h2 => exact .tup (h1.elim (fun ⟨o, z, s, m⟩ => .inl ⟨o, z, s, k _ _ (.inl z.1) m⟩) .inr) (Reps.mask k ts _ h2)
  | .lst ts, _, h => by
    cases h with
    | lst h1 h2 => exact .lst ⟨h1.1, h1.2.1, k _ _ (.inl h1.1) h1.2.2⟩ (Reps.mask k ts _ h2)
  | .exc c ns ts, _, h => by
    cases h with
    | exc0 h1 => exact .exc0 (h1.mask k)
    | exc1 h1 h2 h3 h4 => exact .exc1 (h1.mask k) (h2.mask k) h3 (Reps.mask k ts _ h4)
  | .dct b ks vs, _, h => by
    cases h with
    | dK h1 h2 h3 => exact .dK (h1.mask k) (Reps.mask k ks _ h2) (Reps.mask k vs _ h3)
    | dN h1 h2 h3 h4 => exact .dN (h1.mask k) h2 (Reps.mask k ks _ h3) (Reps.mask k vs _ h4)
  | .obj c ns ts, _, h => by
    cases h with
    | obj h1 h2 h3 => exact .obj ⟨h1.1, h1.2.1, k _ _ (.inl h1.1) h1.2.2⟩ h2 (Reps.mask k ts _ h3)
theorem Reps.mask (k : ∀ a u, Rd H a u → ¬ G.M a → ¬ M a) : ∀ (ts : List T) (vs : List V), Reps G H S ts vs → Reps (G.mask M) H S ts vs
  | [], _, h => by cases h; exact .nil
  | t :: ts, _, h => by
    cases h with
    | cons h1 h2 => exact .cons (Rep.mask k t _ h1) (Reps.mask k ts _ h2)
end
theorem CellOk.mask (k : ∀ a u, Rd H a u → ¬ G.M a → ¬ M a) {a : Addr} {c : Cell} (q : CellOk G H S a c) : CellOk (G.mask M) H S a c := by
  cases c with
  | lst ts =>
    obtain ⟨xs, h1, h2⟩ := q
    exact ⟨xs, h1, Reps.mask k _ _ h2⟩
  | dct b ks vs =>
    cases b with
    | false =>
      obtain ⟨kvs, h1, h2, h3⟩ := q
      exact ⟨kvs, h1, Reps.mask k _ _ h2, Reps.mask k _ _ h3⟩
    | true =>
      obtain ⟨es, h1, h2, h3, h4⟩ := q
      exact ⟨es, h1, h2, Reps.mask k _ _ h3, Reps.mask k _ _ h4⟩
  | ins c ns ts =>
    obtain ⟨d, xs, h1, h2, h3⟩ := q
    exact ⟨d, xs, h1, h2, Reps.mask k _ _ h3⟩
/-- the mask put on a new object, and taken off -/
theorem StoOk.putOn {D : Addr} {o : HO} (h : StoOk G H S) (n : H D = none) : StoOk (G.mask fun a => G.M a ∨ a = D) (upd H D o) S := by
  have k : ∀ a u, Rd H a u → ¬ G.M a → ¬ (G.M a ∨ a = D) := fun a u r m z => z.elim m fun e => Rd.ne n r e
  refine ⟨fun a c e => ((h.at_ a c e).mask k).ext (Ext.new n) (upd_ne fun z => ?_), fun a m => ?_, fun a m => ?_⟩
  · subst z
    rw [h.free n] at e
    cases e
  · rcases m with m | m
    · exact upd_some (h.msk a m)
    · rw [m, upd_same]
      exact fun z => nomatch z
  · rcases m with m | m
    · exact h.sep a m
    · rw [m]
      exact h.free n
theorem StoOk.takeOff {M' : Addr → Prop} (h : StoOk (G.mask M') H S) (k : ∀ a, G.M a → M' a) : StoOk G H S :=
  ⟨fun a c e => (h.at_ a c e).mask (M := G.M) fun a _ _ n m => n (k a m), fun a m => h.msk a (k a m), fun a m => h.sep a (k a m)⟩
theorem Reps.takeOff {M' : Addr → Prop} {ts : List T} {vs : List V} (h : Reps (G.mask M') H S ts vs) (k : ∀ a, G.M a → M' a) : Reps G H S ts vs := Reps.mask (G := G.mask M') (M := G.M) (fun a _ _ n m => n (k a m)) _ _ h
theorem Rep.takeOff {M' : Addr → Prop} {t : T} {v : V} (h : Rep (G.mask M') H S t v) (k : ∀ a, G.M a → M' a) : Rep G H S t v := Rep.mask (G := G.mask M') (M := G.M) (fun a _ _ n m => n (k a m)) _ _ h
/-- a masked object is written -/
theorem StoOk.at {p : Addr} {o : HO} (h : StoOk G H S) (m : G.M p) (n : S p = none) : StoOk G (upd H p o) S := ⟨fun a c e =>
  (h.at_ a c e).extM (ExtM.at m) (upd_ne fun z => by subst z; rw [n] at e; cases e), fun a m => upd_some (h.msk a m), h.sep⟩
end
end TL
namespace TL
open PySem PySem.Spec PyProof.Rows L2
abbrev TTE := TEnv → Sto → (T → Sto → Prop) → (T → Sto → Prop) → Prop
abbrev TTA := TEnv → Sto → (List T → Sto → Prop) → (T → Sto → Prop) → Prop
abbrev TTB := TEnv → Sto → (Bool → Sto → Prop) → (T → Sto → Prop) → Prop
structure TD where
  nx : TEnv → Sto → Prop
  rt : T → Sto → Prop
  bk : TEnv → Sto → Prop := fun _ _ => False
  ct : TEnv → Sto → Prop := fun _ _ => False
abbrev TTS := TD → TEnv → Sto → (T → TEnv → Sto → Prop) → Prop

abbrev gdOf (X : Cx) (M : Addr → Prop) : Gd := ⟨X.prog, X.K, X.w, M⟩
def EnvR (G : Gd) (H : Hp) (S : Sto) (σ : L2.St) (τ : TEnv) : Prop := σ.length = τ.length ∧ ∀ (i : Nat) (t : T), τ[i]? = some (some t) → ∃ v, σ[i]? = some (some v) ∧ Rep G H S t v
/-- a state and its trees; S0, H0: at the def's entry -/
structure Rel (G : Gd) (S0 : Sto) (H0 : Hp) (σ : L2.St) (H : Hp) (τ : TEnv) (S : Sto) : Prop where
  env : EnvR G H S σ τ
  sto : StoOk G H S
  ext : Ext S0 H0 S H
/-- an exception that flies -/
def ExcIs (G : Gd) (H : Hp) (S : Sto) (x : T) (cls : Value) (d : Option Addr) : Prop :=
  ∃ c ns ts, x = .exc c ns ts ∧ cls = .ref (He.ga G.K c) ∧ ((ns = [] ∧ ts = [] ∧ d = none) ∨ ∃ da xs, d = some da ∧ At G.M H S da (.xd (ns.zip xs)) ∧ ns.length = xs.length ∧ Reps G H S ts xs)
def wOf (X : Cx) (M : Addr → Prop) (S0 : Sto) (H0 : Hp) (E : T → TEnv → Sto → Prop) : WX := fun cls d σ H => ∃ τ S x, Rel (gdOf X M) S0 H0 σ H τ S ∧ ExcIs (gdOf X M) H S x cls d ∧ E x τ S

abbrev Takes (X : Cx) (W : WX) : Prop := L2N.Takes X W
theorem Takes.imp {X : Cx} {W W' : WX} (t : Takes X W) (h : ∀ c d σ H, W' c d σ H → W c d σ H) : Takes X W' := L2N.Takes.imp t h
theorem takes0 {X : Cx} : Takes X (fun _ _ _ _ => False) := fun _ _ x => by
  obtain ⟨_, _, _, _, _, _, _, _, _, _, _, _, _, _, _, _, z⟩ := x
  exact z.elim

section
variable {G : Gd} {S0 S S' : Sto} {H0 H H' : Hp} {σ : L2.St} {τ : TEnv}
theorem EnvR.ext (h : EnvR G H S σ τ) (x : Ext S H S' H') : EnvR G H' S' σ τ := ⟨h.1, fun i t e => let ⟨v, h1, h2⟩ := h.2 i t e; ⟨v, h1, Rep.ext x t v h2⟩⟩
theorem Rel.step (r : Rel G S0 H0 σ H τ S) (h : StoOk G H' S') (x : Ext S H S' H') : Rel G S0 H0 σ H' τ S' := ⟨r.env.ext x, h, r.ext.trans x⟩
theorem Rel.set {i : Nat} {t : T} {v : V} (r : Rel G S0 H0 σ H τ S) (h : Rep G H S t v) : Rel G S0 H0 (σ.set i (some v)) H (τ.set i (some t)) S := by
  refine ⟨⟨by rw [List.length_set, List.length_set]; exact r.env.1, fun j u e => ?_⟩, r.sto, r.ext⟩
  have l := r.env.1
  by_cases hj : i = j
  · subst hj
    have hi : i < τ.length := by
      have z := (List.getElem?_eq_some_iff.mp e).1
      rwa [List.length_set] at z
    rw [List.getElem?_set_self hi] at e
    cases e
    exact ⟨v, List.getElem?_set_self (by omega), h⟩
  · rw [List.getElem?_set_ne hj] at e
    obtain ⟨w, h1, h2⟩ := r.env.2 j u e
    exact ⟨w, by rw [List.getElem?_set_ne hj]; exact h1, h2⟩
end
def LE (X : Cx) (M : Addr → Prop) (S0 : Sto) (H0 : Hp) (t : TTE) (E : T → TEnv → Sto → Prop) : L2.TE := fun σ H Q => ∃ τ S Qt, Rel (gdOf X M) S0 H0 σ H τ S ∧ t τ S Qt (fun x S' => E x τ S') ∧
  ∀ z S' v H', Qt z S' → StoOk (gdOf X M) H' S' → Ext S H S' H' → Rep (gdOf X M) H' S' z v → Q v H'
def LB (X : Cx) (M : Addr → Prop) (S0 : Sto) (H0 : Hp) (t : TTB) (E : T → TEnv → Sto → Prop) : L2.TT := fun σ H Q => ∃ τ S Qt, Rel (gdOf X M) S0 H0 σ H τ S ∧ t τ S Qt (fun x S' => E x τ S') ∧
  ∀ b S' H', Qt b S' → StoOk (gdOf X M) H' S' → Ext S H S' H' → Q b H'
def LA (X : Cx) (M : Addr → Prop) (S0 : Sto) (H0 : Hp) (t : TTA) (E : T → TEnv → Sto → Prop) : L2.TA := fun σ H Q => ∃ τ S Qt, Rel (gdOf X M) S0 H0 σ H τ S ∧ t τ S Qt (fun x S' => E x τ S') ∧
  ∀ zs S' vs H', Qt zs S' → StoOk (gdOf X M) H' S' → Ext S H S' H' → Reps (gdOf X M) H' S' zs vs → Q vs H'
def LS (X : Cx) (M : Addr → Prop) (S0 : Sto) (H0 : Hp) (t : TTS) (E : T → TEnv → Sto → Prop) : L2.TS := fun D σ H => ∃ τ S B, Rel (gdOf X M) S0 H0 σ H τ S ∧ t B τ S E ∧
  (∀ σ' H' τ' S', Rel (gdOf X M) S0 H0 σ' H' τ' S' → Ext S H S' H' → B.nx τ' S' → D.nx σ' H') ∧ (∀ z S' v H', StoOk (gdOf X M) H' S' → Ext S H S' H' → Rep (gdOf X M) H' S' z v → B.rt z S' → D.rt v H') ∧
  (∀ σ' H' τ' S', Rel (gdOf X M) S0 H0 σ' H' τ' S' → Ext S H S' H' → B.bk τ' S' → D.bk σ' H') ∧ (∀ σ' H' τ' S', Rel (gdOf X M) S0 H0 σ' H' τ' S' → Ext S H S' H' → B.ct τ' S' → D.ct σ' H')

/-- e reads as t -/
def TE (X : Cx) (e : Expr) (t : TTE) : Prop := ∀ M S0 H0 E, Takes X (wOf X M S0 H0 E) → PE X e (LE X M S0 H0 t E)
def TB (X : Cx) (e : Expr) (t : TTB) : Prop := ∀ M S0 H0 E, Takes X (wOf X M S0 H0 E) → PT X e (LB X M S0 H0 t E)
def TW (X : Cx) (e : Expr) (t : TTB) : Prop := ∀ M S0 H0 E, Takes X (wOf X M S0 H0 E) → PW X e (LB X M S0 H0 t E)
def TA (X : Cx) (es : List Expr) (t : TTA) : Prop := ∀ M S0 H0 E, Takes X (wOf X M S0 H0 E) → PA X es (LA X M S0 H0 t E)
def TS (X : Cx) (s : Stmt) (t : TTS) : Prop := ∀ M S0 H0 E, Takes X (wOf X M S0 H0 E) → PS X s (LS X M S0 H0 t E)
def TSs (X : Cx) (s : List Stmt) (t : TTS) : Prop := ∀ M S0 H0 E, Takes X (wOf X M S0 H0 E) → PSs X s (LS X M S0 H0 t E)

theorem _root_.L2.PE.weak {X : Cx} {e : Expr} {t u : L2.TE} (h : PE X e t) (k : ∀ σ H Q, u σ H Q → t σ H Q) : PE X e u := ⟨fun pins s σ H Q I q => h.run pins s σ H Q I (k _ _ _ q)⟩
theorem _root_.L2.PT.weak {X : Cx} {e : Expr} {t u : L2.TT} (h : PT X e t) (k : ∀ σ H Q, u σ H Q → t σ H Q) : PT X e u := ⟨fun pins s σ H Q I q => h.run pins s σ H Q I (k _ _ _ q)⟩
theorem _root_.L2.PW.weak {X : Cx} {e : Expr} {t u : L2.TT} (h : PW X e t) (k : ∀ σ H Q, u σ H Q → t σ H Q) : PW X e u := ⟨fun wh pins s σ H Q I q => h.run wh pins s σ H Q I (k _ _ _ q)⟩
theorem _root_.L2.PA.weak {X : Cx} {es : List Expr} {t u : L2.TA} (h : PA X es t) (k : ∀ σ H Q, u σ H Q → t σ H Q) : PA X es u := ⟨fun pos pins s σ H Q I q => h.run pos pins s σ H Q I (k _ _ _ q)⟩
theorem _root_.L2.PS.weak {X : Cx} {s : Stmt} {t u : L2.TS} (h : PS X s t) (k : ∀ D σ H, u D σ H → t D σ H) : PS X s u := ⟨fun pins s σ H D I q => h.run pins s σ H D I (k _ _ _ q)⟩
theorem _root_.L2.PSs.weak {X : Cx} {s : List Stmt} {t u : L2.TS} (h : PSs X s t) (k : ∀ D σ H, u D σ H → t D σ H) : PSs X s u := ⟨fun pins s σ H D I q => h.run pins s σ H D I (k _ _ _ q)⟩

def cVar (i : Nat) : TTE := fun τ S Q _ => ∃ t, τ[i]? = some (some t) ∧ Q t S
def cC (t : T) : TTE := fun _ S Q _ => Q t S
def cOp (op : Sto → T → T → Option T) (a b : TTE) : TTE := fun τ S Q E => a τ S (fun x S1 => b τ S1 (fun y S2 => ∃ z, op S2 x y = some z ∧ Q z S2) E) E
def cUn (op : Sto → T → Option T) (a : TTE) : TTE := fun τ S Q E => a τ S (fun x S1 => ∃ z, op S1 x = some z ∧ Q z S1) E
def cIf (c : TTB) (a b : TTE) : TTE := fun τ S Q E => c τ S (fun k S1 => if k = true then a τ S1 Q E else b τ S1 Q E) E
def cNil : TTA := fun _ S Q _ => Q [] S
def cCons (a : TTE) (r : TTA) : TTA := fun τ S Q E => a τ S (fun x S1 => r τ S1 (fun xs S2 => Q (x :: xs) S2) E) E
def cTup (a : TTA) : TTE := fun τ S Q E => a τ S (fun xs S1 => xs.length ≤ sizeLine ∧ Q (.tup xs) S1) E
def cLst (a : TTA) : TTE := fun τ S Q E => a τ S (fun xs S1 => xs.length ≤ sizeLine ∧ Q (.lst xs) S1) E
def cLstM (a : TTA) : TTE := fun τ S Q E => a τ S (fun xs S1 => xs.length ≤ sizeLine ∧ ∀ p, S1 p = none → Q (.ref p) (ups S1 p (.lst xs))) E
def bVal (a : TTE) : TTB := fun τ S Q E => a τ S (fun x S1 => ∃ b, x = .bl b ∧ Q b S1) E
def bAnd (a b : TTB) : TTB := fun τ S Q E => a τ S (fun k S1 => if k = true then b τ S1 Q E else Q false S1) E
def bOr (a b : TTB) : TTB := fun τ S Q E => a τ S (fun k S1 => if k = true then Q true S1 else b τ S1 Q E) E
def bNot (a : TTB) : TTB := fun τ S Q E => a τ S (fun k S1 => Q (!k) S1) E
/-- and, or, not of truths as values -/
def cAnd (a b : TTE) : TTE := fun τ S Q E => a τ S (fun x S1 => ∃ k, x = .bl k ∧ if k = true then b τ S1 Q E else Q (.bl false) S1) E
def cOr (a b : TTE) : TTE := fun τ S Q E => a τ S (fun x S1 => ∃ k, x = .bl k ∧ if k = true then Q (.bl true) S1 else b τ S1 Q E) E
def cNot (a : TTE) : TTE := fun τ S Q E => a τ S (fun x S1 => ∃ k, x = .bl k ∧ Q (.bl (!k)) S1) E

section
variable {X : Cx} {S0 : Sto} {H0 : Hp} {e a b : Expr} {es : List Expr} {ta tb : TTE} {tA tB : TTB} {tr : TTA} {pos : Pos}
theorem te_var {i : Nat} {x : Str} (hN : X.N[i]? = some x) (hv : Vis X.env.scope x) (hd : (x == ("__debug__" : Str)) = false := by decide) (hcd : (x == ("__classdict__" : Str)) = false := by decide) : TE X (.Name x pos) (cVar i) := fun M S0 H0 E tk =>
  (pe_var hN hv hd hcd).weak fun σ H Q ⟨τ, S, Qt, r, ⟨t, e, h⟩, k⟩ => let ⟨v, h1, h2⟩ := r.env.2 i t e; ⟨v, h1, k t S v H h r.sto Ext.refl h2⟩
theorem te_const {t : T} {v : V} (h : PE X e (tC v)) (hr : ∀ M H S, Rep (gdOf X M) H S t v) : TE X e (cC t) := fun M S0 H0 E tk =>
  h.weak fun σ H Q ⟨τ, S, Qt, r, h, k⟩ => k t S v H h r.sto Ext.refl (hr M H S)
theorem te_int {i j} : TE X (.Constant (.int i) j pos) (cC (.int i)) := te_const pe_int fun _ _ _ => .int i
theorem te_bl {i j} : TE X (.Constant (.bool i) j pos) (cC (.bl i)) := te_const pe_bl fun _ _ _ => .bl i
theorem te_non {j} : TE X (.Constant .none j pos) (cC .non) := te_const pe_non fun _ _ _ => .non
/-- a written text's signs -/
def q (s : Str) : List Sg := s.cps.toList.map fun c => ⟨c % 128, Nat.mod_lt _ (by decide)⟩
theorem te_str {x : Str} {j} (h : txt (q x) = x := by decide +kernel) : TE X (.Constant (.str x) j pos) (cC (.str (q x))) := te_const pe_str fun M H S => by
  have r := Rep.str (G := gdOf X M) (H := H) (S := S) (q x)
  rw [h] at r
  exact r

/-- an operation on trees -/
def OpT (X : Cx) (f : Value → Value → Sem Value) (op : Sto → T → T → Option T) : Prop :=
  OpR X f fun x y H Q => ∃ M S tx ty t, StoOk (gdOf X M) H S ∧ Rep (gdOf X M) H S tx x ∧ Rep (gdOf X M) H S ty y ∧ op S tx ty = some t ∧ ∀ v H', StoOk (gdOf X M) H' S → Ext S H S H' → Rep (gdOf X M) H' S t v → Q v H'
def UnT (X : Cx) (f : Value → Sem Value) (op : Sto → T → Option T) : Prop :=
  UnR X f fun x H Q => ∃ M S tx t, StoOk (gdOf X M) H S ∧ Rep (gdOf X M) H S tx x ∧ op S tx = some t ∧ ∀ v H', StoOk (gdOf X M) H' S → Ext S H S H' → Rep (gdOf X M) H' S t v → Q v H'
/-- two expressions in a row -/
theorem two {r : R2} {M : Addr → Prop} {op : Sto → T → T → Option T} {E : T → TEnv → Sto → Prop} {σ : L2.St} {H : Hp} {Q : VK}
    (hr : ∀ x y H Q, (∃ M S tx ty t, StoOk (gdOf X M) H S ∧ Rep (gdOf X M) H S tx x ∧ Rep (gdOf X M) H S ty y ∧ op S tx ty = some t ∧ ∀ v H', StoOk (gdOf X M) H' S → Ext S H S H' → Rep (gdOf X M) H' S t v → Q v H') → r x y H Q)
    (h : LE X M S0 H0 (cOp op ta tb) E σ H Q) : tOp r (LE X M S0 H0 ta E) (LE X M S0 H0 tb E) σ H Q := by
  obtain ⟨τ, S, Qt, rel, h, k⟩ := h
  refine ⟨τ, S, _, rel, h, fun zx S1 x H1 hb o1 x1 r1 => ⟨τ, S1, _, rel.step o1 x1, hb, fun zy S2 y H2 hz o2 x2 r2 => hr _ _ _ _ ?_⟩⟩
  obtain ⟨z, e, hq⟩ := hz
  exact ⟨M, S2, zx, zy, z, o2, Rep.ext x2 _ _ r1, r2, e, fun v H' o3 x3 r3 => k z S2 v H' hq o3 ((x1.trans x2).trans x3) r3⟩
theorem te_bin {op : Operator} {f : Sto → T → T → Option T} (ho : OpT X (binaryOp op) f) (ha : TE X a ta) (hb : TE X b tb) : TE X (.BinOp a op b pos) (cOp f ta tb) := fun M S0 H0 E tk =>
  (pe_op ho (ha M S0 H0 E tk) (hb M S0 H0 E tk)).weak fun _ _ _ h => two (fun _ _ _ _ z => z) h
theorem te_cmp {op : CmpOp} {f : Sto → T → T → Option T} (ho : OpT X (compareOp op) f) (ha : TE X a ta) (hb : TE X b tb) (hm : behindInMarks op b = false) : TE X (.Compare a [op] [b] pos) (cOp f ta tb) := fun M S0 H0 E tk =>
  (pe_cmpR ho (ha M S0 H0 E tk) (hb M S0 H0 E tk) hm).weak fun _ _ _ h => two (fun _ _ _ _ z => z) h
theorem te_un {op : UnaryOp} {f : Sto → T → Option T} (ho : UnT X (unaryOp op) f) (ha : TE X a ta) : TE X (.UnaryOp op a pos) (cUn f ta) := fun M S0 H0 E tk =>
  (pe_un ho (ha M S0 H0 E tk)).weak fun σ H Q ⟨τ, S, Qt, rel, h, k⟩ => ⟨τ, S, _, rel, h, fun zx S1 x H1 ⟨z, e, hq⟩ o1 x1 r1 => ⟨M, S1, zx, z, o1, r1, e, fun v H' o3 x3 r3 => k z S1 v H' hq o3 (x1.trans x3) r3⟩⟩
/-- a truth as a test -/
theorem tb_val (ha : TE X a ta) (he : ∀ whole, isTrue a X.env whole = (do let v ← whole; standAt a.pos; holding [v] (truthy v)) := by intro _; rfl) : TB X a (bVal ta) := fun M S0 H0 E tk =>
  (pt_val (ha M S0 H0 E tk) he).weak fun σ H Q ⟨τ, S, Qt, rel, h, k⟩ => ⟨τ, S, _, rel, h, fun zx S1 x H1 ⟨b, e, hq⟩ o1 x1 r1 => by
    subst e
    cases r1
    exact ⟨b, rfl, k b S1 H1 hq o1 x1⟩⟩
theorem tb_cmp {op : CmpOp} {f : Sto → T → T → Option T} (ho : OpT X (compareOp op) f) (ha : TE X a ta) (hb : TE X b tb) (hm : behindInMarks op b = false) : TB X (.Compare a [op] [b] pos) (bVal (cOp f ta tb)) := fun M S0 H0 E tk =>
  (pt_cmpR ho (ha M S0 H0 E tk) (hb M S0 H0 E tk) hm).weak fun σ H Q ⟨τ, S, Qt, rel, h, k⟩ => two (S0 := S0) (H0 := H0) (fun _ _ _ _ z => z) ⟨τ, S, _, rel, h, fun zx S1 x H1 ⟨b, e, hq⟩ o1 x1 r1 => by
    subst e
    cases r1
    exact ⟨b, rfl, k b S1 H1 hq o1 x1⟩⟩
theorem TW.toB (h : TW X a tA) : TB X a tA := fun M S0 H0 E tk => (h M S0 H0 E tk).pt
theorem tw_and1 (ha : TB X a tA) : TW X (.BoolOp .And [a] pos) tA := fun M S0 H0 E tk => pw_and1 (ha M S0 H0 E tk)
theorem tw_or1 (ha : TB X a tA) : TW X (.BoolOp .Or [a] pos) tA := fun M S0 H0 E tk => pw_or1 (ha M S0 H0 E tk)
theorem tw_and {rest : List Expr} (ha : TB X a tA) (hb : TW X (.BoolOp .And (b :: rest) pos) tB) : TW X (.BoolOp .And (a :: b :: rest) pos) (bAnd tA tB) := fun M S0 H0 E tk =>
  (pw_and (ha M S0 H0 E tk) (hb M S0 H0 E tk)).weak fun σ H Q ⟨τ, S, Qt, rel, h, k⟩ => ⟨τ, S, _, rel, h, fun c S1 H1 hq o1 x1 => by
    cases c with
    | true => exact ⟨τ, S1, _, rel.step o1 x1, hq, fun d S2 H2 hq2 o2 x2 => k d S2 H2 hq2 o2 (x1.trans x2)⟩
    | false => exact k false S1 H1 hq o1 x1⟩
theorem tw_or {rest : List Expr} (ha : TB X a tA) (hb : TW X (.BoolOp .Or (b :: rest) pos) tB) : TW X (.BoolOp .Or (a :: b :: rest) pos) (bOr tA tB) := fun M S0 H0 E tk =>
  (pw_or (ha M S0 H0 E tk) (hb M S0 H0 E tk)).weak fun σ H Q ⟨τ, S, Qt, rel, h, k⟩ => ⟨τ, S, _, rel, h, fun c S1 H1 hq o1 x1 => by
    cases c with
    | false => exact ⟨τ, S1, _, rel.step o1 x1, hq, fun d S2 H2 hq2 o2 x2 => k d S2 H2 hq2 o2 (x1.trans x2)⟩
    | true => exact k true S1 H1 hq o1 x1⟩
theorem tb_not (ha : TB X a tA) : TB X (.UnaryOp .Not a pos) (bNot tA) := fun M S0 H0 E tk =>
  (pt_not (ha M S0 H0 E tk)).weak fun σ H Q ⟨τ, S, Qt, rel, h, k⟩ => ⟨τ, S, _, rel, h, fun c S1 H1 hq o1 x1 => k (!c) S1 H1 hq o1 x1⟩
theorem ta_nil : TA X [] cNil := fun M S0 H0 E tk => pa_nil.weak fun σ H Q ⟨τ, S, Qt, rel, h, k⟩ => k [] S [] H h rel.sto Ext.refl .nil
theorem ta_cons (ha : TE X e ta) (hr : TA X es tr) (hs : starEach (e :: es) X.env = (false, eval e X.env) :: starEach es X.env := by rfl) : TA X (e :: es) (cCons ta tr) := fun M S0 H0 E tk =>
  (pa_cons (ha M S0 H0 E tk) (hr M S0 H0 E tk) hs).weak fun σ H Q ⟨τ, S, Qt, rel, h, k⟩ => ⟨τ, S, _, rel, h, fun z S1 v H1 hq o1 x1 r1 =>
    ⟨τ, S1, _, rel.step o1 x1, hq, fun zs S2 vs H2 hq2 o2 x2 r2 => k (z :: zs) S2 (v :: vs) H2 hq2 o2 (x1.trans x2) (.cons (Rep.ext x2 _ _ r1) r2)⟩⟩
theorem te_tup {k} (h : TA X es tr) : TE X (.Tuple es k pos) (cTup tr) := fun M S0 H0 E tk =>
  (pe_tupF (h M S0 H0 E tk)).weak fun σ H Q ⟨τ, S, Qt, rel, h, k⟩ => ⟨τ, S, _, rel, h, fun zs S1 vs H1 ⟨hl, hq⟩ o1 x1 r1 =>
    ⟨by rw [← r1.length]; exact hl, fun p o n d => k (.tup zs) S1 (.ref p) _ hq (o1.new n) (x1.trans (Ext.new n)) (.tup (.inl ⟨o, ⟨upd_same, d⟩, o1.free n, o1.nom n⟩) (Reps.ext (Ext.new n) _ _ r1))⟩⟩
theorem te_lst (h : TA X es tr) : TE X (.List es pos) (cLst tr) := fun M S0 H0 E tk =>
  (pe_lst (h M S0 H0 E tk)).weak fun σ H Q ⟨τ, S, Qt, rel, h, k⟩ => ⟨τ, S, _, rel, h, fun zs S1 vs H1 ⟨hl, hq⟩ o1 x1 r1 =>
    ⟨by rw [← r1.length]; exact hl, fun p n => k (.lst zs) S1 (.ref p) _ hq (o1.new n) (x1.trans (Ext.new n)) (.lst ⟨upd_same, o1.free n, o1.nom n⟩ (Reps.ext (Ext.new n) _ _ r1))⟩⟩
theorem te_lstM (h : TA X es tr) : TE X (.List es pos) (cLstM tr) := fun M S0 H0 E tk =>
  (pe_lst (h M S0 H0 E tk)).weak fun σ H Q ⟨τ, S, Qt, rel, h, k⟩ => ⟨τ, S, _, rel, h, fun zs S1 vs H1 ⟨hl, hq⟩ o1 x1 r1 =>
    ⟨by rw [← r1.length]; exact hl, fun p n => k (.ref p) (ups S1 p (.lst zs)) (.ref p) _ (hq p (o1.free n)) (o1.cell (.inl n) ⟨vs, upd_same, Reps.ext (Ext.cell (.inl n)) _ _ r1⟩) (x1.trans (Ext.cell (.inl n))) (.ref p)⟩⟩
end
end TL
namespace TL
open PySem PySem.Spec PyProof.Rows L2
abbrev TTG := T → TEnv → Sto → (TEnv → Sto → Prop) → Prop
abbrev TTGs := List T → TEnv → Sto → (TEnv → Sto → Prop) → Prop
def LG (X : Cx) (M : Addr → Prop) (vs : List Nat) (S0 : Sto) (H0 : Hp) (g : TTG) : L2.TG := fun v σ H Q => ∃ τ S z Qt, Rel (gdOf X M) S0 H0 σ H τ S ∧ Rep (gdOf X M) H S z v ∧ g z τ S Qt ∧
  ∀ σ' H' τ' S', Rel (gdOf X M) S0 H0 σ' H' τ' S' → Ext S H S' H' → wipe σ' vs = wipe σ vs → Qt τ' S' → Q σ' H'
def LGs (X : Cx) (M : Addr → Prop) (vs : List Nat) (S0 : Sto) (H0 : Hp) (g : TTGs) : L2.TGs := fun xs σ H Q => ∃ τ S zs Qt, Rel (gdOf X M) S0 H0 σ H τ S ∧ Reps (gdOf X M) H S zs xs ∧ g zs τ S Qt ∧
  ∀ σ' H' τ' S', Rel (gdOf X M) S0 H0 σ' H' τ' S' → Ext S H S' H' → wipe σ' vs = wipe σ vs → Qt τ' S' → Q σ' H'
/-- a target; vs: the names that it may store -/
def TGt (X : Cx) (vs : List Nat) (e : Expr) (g : TTG) : Prop := ∀ M S0 H0 E, Takes X (wOf X M S0 H0 E) → PG X e (LG X M vs S0 H0 g)
def TGts (X : Cx) (vs : List Nat) (es : List Expr) (g : TTGs) : Prop := ∀ M S0 H0 E, Takes X (wOf X M S0 H0 E) → PGs X es (LGs X M vs S0 H0 g)
theorem _root_.L2.PG.weak {X : Cx} {e : Expr} {t u : L2.TG} (h : PG X e t) (k : ∀ v σ H Q, u v σ H Q → t v σ H Q) : PG X e u := ⟨fun pins s σ H v w Q I r q => h.run pins s σ H v w Q I r (k _ _ _ _ q)⟩
theorem _root_.L2.PGs.weak {X : Cx} {es : List Expr} {t u : L2.TGs} (h : PGs X es t) (k : ∀ v σ H Q, u v σ H Q → t v σ H Q) : PGs X es u := ⟨fun pins s σ H v w Q I r q => h.run pins s σ H v w Q I r (k _ _ _ _ q)⟩
theorem wipe_at {σ : L2.St} {i : Nat} : ∀ (vs : List Nat), (wipe σ vs)[i]? = if i ∈ vs then (σ[i]?).map (fun _ => none) else σ[i]?
  | [] => by simp [wipe]
  | v :: vs => by
    unfold wipe
    by_cases h : v = i
    · subst h
      rw [List.getElem?_set_self', wipe_at vs]
      by_cases hm : v ∈ vs
      · simp [hm]
        cases σ[v]? <;> rfl
      · simp [hm]
        rfl
    · rw [List.getElem?_set_ne h, wipe_at vs]
      have h' : ¬ i = v := fun e => h e.symm
      simp [h']
theorem wipe_set {σ : L2.St} {i : Nat} {x : Option V} (vs : List Nat) (h : i ∈ vs) : wipe (σ.set i x) vs = wipe σ vs := by
  apply List.ext_getElem?
  intro j
  rw [wipe_at, wipe_at]
  by_cases e : i = j
  · subst e
    rw [if_pos h, if_pos h, List.getElem?_set_self']
    cases σ[i]? <;> rfl
  · rw [List.getElem?_set_ne e]
def gN (i : Nat) : TTG := fun z τ S Q => Q (τ.set i (some z)) S
def gT (g : TTGs) : TTG := fun z τ S Q => ∃ zs, z = .tup zs ∧ g zs τ S Q
def gL (g : TTGs) : TTG := fun z τ S Q => ∃ zs, z = .lst zs ∧ g zs τ S Q
def gZ : TTGs := fun zs τ S Q => zs = [] ∧ Q τ S
def gC (g : TTG) (r : TTGs) : TTGs := fun zs τ S Q => ∃ z ys, zs = z :: ys ∧ g z τ S fun τ' S' => r ys τ' S' Q
section
variable {X : Cx} {vs : List Nat} {e : Expr} {es : List Expr} {g : TTG} {r : TTGs} {pos : Pos}
theorem tg_name {i : Nat} {x : Str} (hi : i ∈ vs) (hN : X.N.Nodup) (hx : X.N[i]? = some x) (hl : Loc X.env.scope x) (hf : X.fn x = true ∨ X.env.scope.names.lookup x = some .local := by first | exact .inl rfl | exact .inr rfl | assumption) : TGt X vs (.Name x pos) (gN i) := fun M S0 H0 E tk =>
  (pg_name hN hx hl hf).weak fun v σ H Q ⟨τ, S, z, Qt, rel, hz, h, k⟩ => k _ _ _ _ (rel.set hz) Ext.refl (wipe_set vs hi) h
theorem tgs_nil : TGts X vs [] gZ := fun M S0 H0 E tk => pgs_nil.weak fun v σ H Q ⟨τ, S, z, Qt, rel, hz, ⟨h0, h⟩, k⟩ => by
  subst h0
  cases hz
  exact ⟨rfl, k _ _ _ _ rel Ext.refl rfl h⟩
theorem tgs_cons (h1 : TGt X vs e g) (h2 : TGts X vs es r) (hs : (assignEach (e :: es) X.env).map (·.2) = assign e X.env :: (assignEach es X.env).map (·.2) := by rfl) : TGts X vs (e :: es) (gC g r) := fun M S0 H0 E tk =>
  (pgs_cons (h1 M S0 H0 E tk) (h2 M S0 H0 E tk) hs).weak fun v σ H Q ⟨τ, S, z, Qt, rel, hz, ⟨y, ys, h0, h⟩, k⟩ => by
    subst h0
    cases hz with
    | cons a b =>
      exact ⟨_, _, rfl, τ, S, y, _, rel, a, h, fun σ1 H1 τ1 S1 rel1 x1 w1 q1 => ⟨τ1, S1, ys, _, rel1, Reps.ext x1 _ _ b, q1, fun σ2 H2 τ2 S2 rel2 x2 w2 q2 => k _ _ _ _ rel2 (x1.trans x2) (w2.trans w1) q2⟩⟩
theorem tg_tup {k : Nat} {n : Nat} (hc : X.calm = true) (h : TGts X vs es r) (hn : (assignEach es X.env).length = n := by rfl) (hst : (assignEach es X.env).findIdx? (·.1) = none := by rfl)
    (hr : ∀ zs τ S Q, r zs τ S Q → zs.length = n := by intro zs τ S Q z; obtain ⟨_, _, rfl, z⟩ := z; first | (obtain ⟨rfl, _⟩ := z; rfl) | skip) : TGt X vs (.Tuple es k pos) (gT r) := fun M S0 H0 E tk =>
  (pg_tup hc (h M S0 H0 E tk) hn hst).weak fun v σ H Q ⟨τ, S, z, Qt, rel, hz, ⟨zs, h0, h⟩, k⟩ => by
    subst h0
    cases hz with
    | tup a b => exact ⟨_, _, rfl, a.sq, by rw [← b.length]; exact hr _ _ _ _ h, τ, S, zs, _, rel, b, h, k⟩
/-- how many things a row of targets takes -/
def takes (r : TTGs) (n : Nat) : Prop := ∀ zs τ S Q, r zs τ S Q → zs.length = n
theorem takes_z : takes gZ 0 := fun zs τ S Q h => by rw [h.1]; rfl
theorem takes_c {n : Nat} (h : ∀ zs τ S Q, r zs τ S Q → zs.length = n) : takes (gC (gN i) r) (n + 1) := fun zs τ S Q ⟨z, ys, e, q⟩ => by rw [e, List.length_cons, h _ _ _ _ q]
end
def cSkip : TTS := fun D τ S _ => D.nx τ S
def cSeq (t u : TTS) : TTS := fun D τ S E => t { D with nx := fun τ' S' => u D τ' S' E } τ S E
def cAsg (e : TTE) (g : TTG) : TTS := fun D τ S E => e τ S (fun z S' => g z τ S' D.nx) (fun x S' => E x τ S')
def cSet (i : Nat) (e : TTE) : TTS := fun D τ S E => e τ S (fun z S' => D.nx (τ.set i (some z)) S') (fun x S' => E x τ S')
def cRet (e : TTE) : TTS := fun D τ S E => e τ S D.rt (fun x S' => E x τ S')
def cRetN : TTS := fun D _ S _ => D.rt .non S
def cDo (e : TTE) : TTS := fun D τ S E => e τ S (fun _ S' => D.nx τ S') (fun x S' => E x τ S')
def cIfS (c : TTB) (a b : TTS) : TTS := fun D τ S E => c τ S (fun k S' => if k = true then a D τ S' E else b D τ S' E) (fun x S' => E x τ S')
def cPar2 (i j : Nat) (a b : TTE) : TTS := fun D τ S E => a τ S (fun x S1 => b τ S1 (fun y S2 => D.nx ((τ.set i (some x)).set j (some y)) S2) (fun x S' => E x τ S')) (fun x S' => E x τ S')
def cPar3 (i j l : Nat) (a b c : TTE) : TTS := fun D τ S E => a τ S (fun x S1 => b τ S1 (fun y S2 => c τ S2 (fun z S3 => D.nx (((τ.set i (some x)).set j (some y)).set l (some z)) S3) (fun x S' => E x τ S')) (fun x S' => E x τ S')) (fun x S' => E x τ S')
def cBrk : TTS := fun D τ S _ => D.bk τ S
def cCont : TTS := fun D τ S _ => D.ct τ S
def cWhile (c : TTB) (b : TTS) : TTS := fun D τ S E => ∃ W : Nat → TEnv → Sto → Prop, (∃ m, W m τ S) ∧ ∀ m τ S, W m τ S →
  c τ S (fun k S' => if k = true then b { D with nx := fun τ' S' => ∃ m', m' < m ∧ W m' τ' S', ct := fun τ' S' => ∃ m', m' < m ∧ W m' τ' S', bk := D.nx } τ S' E else D.nx τ S') (fun x S' => E x τ S')
section
variable {X : Cx} {st : Stmt} {rest body orelse : List Stmt} {t u : TTS} {e tg : Expr} {te ta tb tc : TTE} {tB : TTB} {g : TTG} {vs : List Nat} {pos : Pos}
theorem tss_nil : TSs X [] cSkip := fun M S0 H0 E tk => pss_nil.weak fun D σ H ⟨τ, S, B, rel, h, k, _⟩ => k _ _ _ _ rel Ext.refl h
theorem tss_cons (h : TS X st t) (hr : TSs X rest u) : TSs X (st :: rest) (cSeq t u) := fun M S0 H0 E tk =>
  (pss_cons (h M S0 H0 E tk) (hr M S0 H0 E tk)).weak fun D σ H ⟨τ, S, B, rel, h, k1, k2, k3, k4⟩ => ⟨τ, S, _, rel, h,
    fun σ1 H1 τ1 S1 rel1 x1 q => ⟨τ1, S1, B, rel1, q, fun σ2 H2 τ2 S2 rel2 x2 q2 => k1 _ _ _ _ rel2 (x1.trans x2) q2, fun z S2 v H2 o2 x2 r2 q2 => k2 z S2 v H2 o2 (x1.trans x2) r2 q2,
      fun σ2 H2 τ2 S2 rel2 x2 q2 => k3 _ _ _ _ rel2 (x1.trans x2) q2, fun σ2 H2 τ2 S2 rel2 x2 q2 => k4 _ _ _ _ rel2 (x1.trans x2) q2⟩, k2, k3, k4⟩
theorem ts_pass : TS X (.Pass pos) cSkip := fun M S0 H0 E tk => ps_pass.weak fun D σ H ⟨τ, S, B, rel, h, k, _⟩ => k _ _ _ _ rel Ext.refl h
theorem ts_ret (h : TE X e te) : TS X (.Return (some e) pos) (cRet te) := fun M S0 H0 E tk => (ps_ret (h M S0 H0 E tk)).weak fun D σ H ⟨τ, S, B, rel, q, _, k, _⟩ =>
  ⟨τ, S, _, rel, q, fun z S1 v H1 hq o1 x1 r1 => k z S1 v H1 o1 x1 r1 hq⟩
theorem ts_do (h : TE X e te) (hs : swapsWith e none pos.line X.env = pure false := by rfl) : TS X (.Expr e pos) (cDo te) := fun M S0 H0 E tk => (ps_expr (h M S0 H0 E tk) hs).weak fun D σ H ⟨τ, S, B, rel, q, k, _⟩ =>
  ⟨τ, S, _, rel, q, fun z S1 v H1 hq o1 x1 r1 => k _ _ _ _ (rel.step o1 x1) x1 hq⟩
theorem ts_if {c : Expr} {a b : List Stmt} (hc : TB X c tB) (ha : TSs X a t) (hb : TSs X b u) : TS X (.If c a b pos) (cIfS tB t u) := fun M S0 H0 E tk => (ps_if (hc M S0 H0 E tk) (ha M S0 H0 E tk) (hb M S0 H0 E tk)).weak fun D σ H ⟨τ, S, B, rel, q, k1, k2, k3, k4⟩ =>
  ⟨τ, S, _, rel, q, fun c S1 H1 hq o1 x1 => by
    have fin : ∀ t : TTS, t B τ S1 E → LS X M S0 H0 t E D σ H1 := fun t h => ⟨τ, S1, B, rel.step o1 x1, h, fun σ2 H2 τ2 S2 rel2 x2 q2 => k1 _ _ _ _ rel2 (x1.trans x2) q2, fun z S2 v H2 o2 x2 r2 q2 => k2 z S2 v H2 o2 (x1.trans x2) r2 q2,
      fun σ2 H2 τ2 S2 rel2 x2 q2 => k3 _ _ _ _ rel2 (x1.trans x2) q2, fun σ2 H2 τ2 S2 rel2 x2 q2 => k4 _ _ _ _ rel2 (x1.trans x2) q2⟩
    cases c with
    | true => exact fin t hq
    | false => exact fin u hq⟩
theorem ts_set {i : Nat} {x : Str} {pos' : Pos} (hN : X.N.Nodup) (hi : X.N[i]? = some x) (hx : Loc X.env.scope x) (he : TE X e te) (hs : swapsWith e (some (.Name x pos')) pos.line X.env = pure false := by rfl) (hf : X.fn x = true ∨ X.env.scope.names.lookup x = some .local := by first | exact .inl rfl | exact .inr rfl | assumption) :
    TS X (.Assign [.Name x pos'] e pos) (cSet i te) := fun M S0 H0 E tk => (ps_set hN hi hx (he M S0 H0 E tk) hs hf).weak fun D σ H ⟨τ, S, B, rel, q, k, _⟩ =>
  ⟨τ, S, _, rel, q, fun z S1 v H1 hq o1 x1 r1 => k _ _ _ _ ((rel.step o1 x1).set r1) x1 hq⟩
theorem ts_asg (he : TE X e te) (hg : TGt X vs tg g) (hs : swapsWithSole [tg] e pos.line X.env = pure false := by rfl) (hw : swappedStores [tg] e X.env = pure none := by rfl)
    (h1 : (assignEach [tg] X.env).map (·.2) = [assign tg X.env] := by rfl) : TS X (.Assign [tg] e pos) (cAsg te g) := fun M S0 H0 E tk => (ps_asg (he M S0 H0 E tk) (hg M S0 H0 E tk) hs hw h1).weak fun D σ H ⟨τ, S, B, rel, q, k, _⟩ =>
  ⟨τ, S, _, rel, q, fun z S1 v H1 hq o1 x1 r1 => ⟨τ, S1, z, _, rel.step o1 x1, r1, hq, fun σ2 H2 τ2 S2 rel2 x2 _ q2 => k _ _ _ _ rel2 (x1.trans x2) q2⟩⟩
theorem ts_while {c : Expr} (hp : PassesOwn (model X.prog X.w) X.A X.env X.xe) (hc : TB X c tB) (hb : TSs X body t) : TS X (.While c body [] pos) (cWhile tB t) := fun M S0 H0 E tk => (ps_while hp (hc M S0 H0 E tk) (hb M S0 H0 E tk)).weak fun D σ H ⟨τ, S, B, rel, ⟨W, ⟨m0, w0⟩, turn⟩, k1, k2, k3, k4⟩ => by
  let W' : Nat → L2.St → Hp → Prop := fun m σ' H' => ∃ τ' S', Rel (gdOf X M) S0 H0 σ' H' τ' S' ∧ Ext S H S' H' ∧ W m τ' S'
  refine ⟨W', ⟨m0, τ, S, rel, Ext.refl, w0⟩, ?_⟩
  rintro m σ1 H1 ⟨τ1, S1, rel1, x1, w1⟩
  refine ⟨τ1, S1, _, rel1, turn m τ1 S1 w1, fun k S2 H2 hq o2 x2 => ?_⟩
  cases k with
  | true =>
    refine ⟨fun σ' H' => ∃ m', m' < m ∧ W' m' σ' H', fun _ _ z => z, τ1, S2, _, rel1.step o2 x2, hq, ?_, fun z S3 v H3 o3 x3 r3 q3 => k2 z S3 v H3 o3 ((x1.trans x2).trans x3) r3 q3, fun σ3 H3 τ3 S3 rel3 x3 q3 => k1 _ _ _ _ rel3 ((x1.trans x2).trans x3) q3, ?_⟩
    · rintro σ3 H3 τ3 S3 rel3 x3 ⟨m', hm, q3⟩
      exact ⟨m', hm, τ3, S3, rel3, (x1.trans x2).trans x3, q3⟩
    · rintro σ3 H3 τ3 S3 rel3 x3 ⟨m', hm, q3⟩
      exact ⟨m', hm, τ3, S3, rel3, (x1.trans x2).trans x3, q3⟩
  | false => exact k1 _ _ _ _ (rel1.step o2 x2) (x1.trans x2) hq
end
end TL
namespace TL
open PySem PySem.Spec PyProof.Rows L2
/-- the iterator J hands out the trees xs while gd holds of the store -/
structure Wks (G : Gd) (J : It) (xs : List T) (gd : Sto → Prop) (S1 : Sto) (H1 : Hp) : Prop where
  go : ∀ (M' : Addr → Prop) S H i z, (∀ a, M' a → ¬ G.M a → H1 a = none) → StoOk (G.mask M') H S → Ext S1 H1 S H → gd S → xs[i]? = some z → J.go i H ∧ ∀ x H', J.yld i H x H' → StoOk (G.mask M') H' S ∧ Ext S H S H' ∧ Rep (G.mask M') H' S z x
  stop : ∀ (M' : Addr → Prop) S H, StoOk (G.mask M') H S → Ext S1 H1 S H → gd S → J.stop xs.length H
abbrev TTI := TEnv → Sto → (List T → (Sto → Prop) → Sto → Prop) → (T → Sto → Prop) → Prop
def LI (X : Cx) (M : Addr → Prop) (S0 : Sto) (H0 : Hp) (t : TTI) (E : T → TEnv → Sto → Prop) : L2.TI := fun σ H R => ∃ τ S Qt, Rel (gdOf X M) S0 H0 σ H τ S ∧ t τ S Qt (fun x S' => E x τ S') ∧
  ∀ xs gd S' J H', Qt xs gd S' → StoOk (gdOf X M) H' S' → Ext S H S' H' → Wks (gdOf X M) J xs gd S' H' → R J H'
def TI (X : Cx) (tg e : Expr) (t : TTI) : Prop := ∀ M S0 H0 E, Takes X (wOf X M S0 H0 E) → PI X tg e (LI X M S0 H0 t E)

def yes : Sto → Prop := fun _ => True
def items (S : Sto) : T → Option (List T × (Sto → Prop))
  | .tup xs => some (xs, yes)
  | .lst xs => some (xs, yes)
  | .str x => some (x.map (fun c => .str [c]), yes)
  | .ref a => match S a with
    | some (.lst xs) => some (xs, fun S' => S' a = some (.lst xs))
    | _ => none
  | _ => none
section
variable {X : Cx} {tg e : Expr}
def iAny (K : PySem.W.Frag) (tl : L2.TE) : L2.TI := fun σ H R => tl σ H fun x H1 => (∃ a xs, x = .ref a ∧ SqL K H1 a xs ∧ R (Itl K a) H1) ∨ (∃ a xs, x = .ref a ∧ SqT K H1 a xs ∧ R (Itt K a) H1) ∨ ∃ y, x = .str y ∧ R (Its y) H1
theorem pi_any {tl : L2.TE} (hl : PE X e tl) : PI X tg e (iAny X.K tl) := by
  constructor
  intro pins s σ H R I h
  refine thn (hl.run pins s σ H _ I h) fun v s1 q1 => ?_
  obtain ⟨x, H1, I1, r1, q1⟩ := q1
  rcases q1 with ⟨a, xs, rfl, hq, q⟩ | ⟨a, xs, rfl, hq, q⟩ | ⟨y, rfl, q⟩
  · obtain rfl : v = .ref a := r1
    obtain ⟨its, _, p, _⟩ := I1.list hq
    exact wpAny_pyIter_list p.isList (pi_one (tk := s1.toks) I1 _ (turn_list a _) ⟨_, Heap.get?_push_size _ rfl, rfl, rfl⟩ q)
  · obtain rfl : v = .ref a := r1
    obtain ⟨its, _, p, _⟩ := I1.tuple hq
    exact wpAny_pyIter_tuple p (pi_one (tk := s1.toks) I1 _ (turn_tuple a _) ⟨_, Heap.get?_push_size _ rfl, rfl, rfl⟩ q)
  · obtain ⟨t, rfl⟩ := r1
    cases ha : y.cps.all (· < 128) with
    | false => exact wpAny_pyIter_wide ha (pi_one (tk := s1.toks) I1 _ (turn_str _ y t "str_iterator" (Or.inr rfl)) ⟨_, Heap.get?_push_size _ rfl, rfl, rfl⟩ q)
    | true => exact wpAny_pyIter_ascii ha (pi_one (tk := s1.toks) I1 _ (turn_str _ y t "str_ascii_iterator" (Or.inl rfl)) ⟨_, Heap.get?_push_size _ rfl, rfl, rfl⟩ q)
end
section
variable {G : Gd} {S1 : Sto} {H1 : Hp}
theorem newK {M' : Addr → Prop} (k : ∀ a, M' a → ¬ G.M a → H1 a = none) : ∀ a u, Rd H1 a u → ¬ G.M a → ¬ M' a := fun a u r m z => by
  have n := k a z m
  rcases r with r | ⟨_, r⟩ <;> rw [n] at r <;> cases r
theorem wks_list {a : Addr} {ws : List V} {ts : List T} (h : LstAt G H1 S1 a ws) (r : Reps G H1 S1 ts ws) : Wks G (Itl G.K a) ts yes S1 H1 where
  go := fun M' S H i z nk o x _ hz => by
    have q := (h.ext x).sq
    obtain ⟨v, h1, h2⟩ := (Reps.ext x _ _ (Reps.mask (newK nk) _ _ r)).get hz
    refine ⟨⟨ws, v, q, h1⟩, ?_⟩
    rintro y H' ⟨rfl, hy⟩
    obtain rfl : v = y := Option.some.inj (h1.symm.trans (hy ws q))
    exact ⟨o, Ext.refl, h2⟩
  stop := fun M' S H o x _ => ⟨ws, (h.ext x).sq, by rw [r.length]; exact Nat.le_refl _⟩
theorem wks_tup {a : Addr} {ws : List V} {ts : List T} (h : TupAt G H1 S1 a ws) (r : Reps G H1 S1 ts ws) : Wks G (Itt G.K a) ts yes S1 H1 where
  go := fun M' S H i z nk o x _ hz => by
    have q := (h.ext x).sq
    obtain ⟨v, h1, h2⟩ := (Reps.ext x _ _ (Reps.mask (newK nk) _ _ r)).get hz
    refine ⟨⟨ws, v, q, h1⟩, ?_⟩
    rintro y H' ⟨rfl, hy⟩
    obtain rfl : v = y := Option.some.inj (h1.symm.trans (hy ws q))
    exact ⟨o, Ext.refl, h2⟩
  stop := fun M' S H o x _ => ⟨ws, (h.ext x).sq, by rw [r.length]; exact Nat.le_refl _⟩
theorem wks_cell {a : Addr} {ts : List T} : Wks G (Itl G.K a) ts (fun S' => S' a = some (.lst ts)) S1 H1 where
  go := fun M' S H i z nk o x hg hz => by
    obtain ⟨ws, hw, r⟩ := o.at_ a _ hg
    obtain ⟨v, h1, h2⟩ := r.get hz
    have q : SqL G.K H a ws := SqL.of hw
    refine ⟨⟨ws, v, q, h1⟩, ?_⟩
    rintro y H' ⟨rfl, hy⟩
    obtain rfl : v = y := Option.some.inj (h1.symm.trans (hy ws q))
    exact ⟨o, Ext.refl, h2⟩
  stop := fun M' S H o x hg => by
    obtain ⟨ws, hw, r⟩ := o.at_ a _ hg
    exact ⟨ws, SqL.of hw, by rw [r.length]; exact Nat.le_refl _⟩
theorem wks_str {x : List Sg} : Wks G (Its (txt x)) (x.map fun c => T.str [c]) yes S1 H1 where
  go := fun M' S H i z nk o _ _ hz => by
    rw [List.getElem?_map] at hz
    cases hc : x[i]? with
    | none => rw [hc] at hz; cases hz
    | some c =>
      rw [hc] at hz
      obtain rfl : T.str [c] = z := Option.some.inj hz
      refine ⟨?_, ?_⟩
      · show i < (x.map (·.val)).toArray.size
        have := (List.getElem?_eq_some_iff.mp hc).1
        simpa using this
      rintro y H' ⟨rfl, d, hd, rfl⟩
      obtain rfl : c.val = d := by
        have hd' : ((x.map (·.val)).toArray)[i]? = some d := hd
        rw [List.getElem?_toArray, List.getElem?_map, hc] at hd'
        exact Option.some.inj hd'
      exact ⟨o, Ext.refl, .str [c]⟩
  stop := fun M' S H o _ _ => by
    show ((x.map (·.val)).toArray).size ≤ (x.map fun c => T.str [c]).length
    simp
theorem wks_range {lo : Int} {n : Nat} : Wks G (Itr lo n) ((List.range n).map fun i => T.int (lo + (i : Nat))) yes S1 H1 where
  go := fun M' S H i z nk o _ _ hz => by
    rw [List.getElem?_map] at hz
    cases hc : (List.range n)[i]? with
    | none => rw [hc] at hz; cases hz
    | some c =>
      rw [hc] at hz
      have hi : i < n := by
        have := (List.getElem?_eq_some_iff.mp hc).1
        simpa using this
      have hci : i = c := by
        rw [List.getElem?_range hi] at hc
        exact Option.some.inj hc
      subst hci
      obtain rfl : T.int (lo + (i : Nat)) = z := Option.some.inj hz
      refine ⟨hi, ?_⟩
      rintro y H' ⟨rfl, rfl⟩
      exact ⟨o, Ext.refl, .int _⟩
  stop := fun M' S H o _ _ => by
    show n ≤ ((List.range n).map fun i => T.int (lo + (i : Nat))).length
    simp
end
/-- what is walked of a value -/
def iSeq (e : TTE) : TTI := fun τ S Q E => e τ S (fun x S1 => ∃ p, items S1 x = some p ∧ Q p.1 p.2 S1) E
def iRange1 (a : TTE) : TTI := fun τ S Q E => a τ S (fun x S1 => ∃ j : Int, x = .int j ∧ -(2 ^ 62) ≤ j ∧ j < 2 ^ 62 ∧ Q ((List.range j.toNat).map fun i => T.int (0 + (i : Nat))) yes S1) E
theorem _root_.L2.PI.weak {X : Cx} {tg e : Expr} {t u : L2.TI} (h : PI X tg e t) (k : ∀ σ H R, u σ H R → t σ H R) : PI X tg e u := ⟨fun pins s σ H R I q => h.run pins s σ H R I (k _ _ _ q)⟩
section
variable {X : Cx} {tg e a b : Expr} {te ta tb : TTE} {p pos : Pos}
theorem ti_seq (h : TE X e te) : TI X tg e (iSeq te) := fun M S0 H0 E tk => (pi_any (h M S0 H0 E tk)).weak fun σ H R ⟨τ, S, Qt, rel, q, k⟩ => ⟨τ, S, _, rel, q, fun z S1 v H1 ⟨pr, hp, hq⟩ o1 x1 r1 => by
  cases r1 with
  | tup h1 h2 =>
    obtain rfl := Option.some.inj hp
    exact .inr (.inl ⟨_, _, rfl, h1.sq, k _ _ S1 _ H1 hq o1 x1 (wks_tup h1 h2)⟩)
  | lst h1 h2 =>
    obtain rfl := Option.some.inj hp
    exact .inl ⟨_, _, rfl, h1.sq, k _ _ S1 _ H1 hq o1 x1 (wks_list h1 h2)⟩
  | str y =>
    obtain rfl := Option.some.inj hp
    exact .inr (.inr ⟨_, rfl, k _ _ S1 _ H1 hq o1 x1 wks_str⟩)
  | ref a =>
    cases hs : S1 a with
    | none => simp [items, hs] at hp
    | some c =>
      cases c with
      | lst ts =>
        simp only [items, hs] at hp
        obtain rfl := Option.some.inj hp
        obtain ⟨ws, hw, r⟩ := o1.at_ a _ hs
        exact .inl ⟨a, ws, rfl, SqL.of hw, k _ _ S1 _ H1 hq o1 x1 wks_cell⟩
      | dct _ _ _ => simp [items, hs] at hp
      | ins _ _ _ => simp [items, hs] at hp
  | _ => cases hp⟩
theorem ti_range1 (hg : Gl X "range") (hm : X.mg "range" = none) (ha : TE X a ta) (hs : starEach [a] X.env = [(false, eval a X.env)] := by rfl) : TI X tg (.Call (.Name "range" p) [a] [] pos) (iRange1 ta) := fun M S0 H0 E tk =>
  (pi_range1 hg hm (ta_cons ha ta_nil hs M S0 H0 E tk) hs).weak fun σ H R ⟨τ, S, Qt, rel, q, k⟩ => ⟨τ, S, fun zs S1 => ∃ j : Int, zs = [.int j] ∧ -(2 ^ 62) ≤ j ∧ j < 2 ^ 62 ∧ Qt ((List.range j.toNat).map fun i => T.int (0 + (i : Nat))) yes S1, rel, by
    have e : (fun (x : T) (S1 : Sto) => ∃ j : Int, [x] = [T.int j] ∧ -(2 ^ 62) ≤ j ∧ j < 2 ^ 62 ∧ Qt ((List.range j.toNat).map fun i => T.int (0 + (i : Nat))) yes S1) = fun (x : T) (S1 : Sto) => ∃ j : Int, x = .int j ∧ -(2 ^ 62) ≤ j ∧ j < 2 ^ 62 ∧ Qt ((List.range j.toNat).map fun i => T.int (0 + (i : Nat))) yes S1 := by
      funext x S1
      simp only [List.cons.injEq, and_true]
    show ta τ S (fun (x : T) (S1 : Sto) => ∃ j : Int, [x] = [T.int j] ∧ -(2 ^ 62) ≤ j ∧ j < 2 ^ 62 ∧ Qt ((List.range j.toNat).map fun i => T.int (0 + (i : Nat))) yes S1) fun x S' => E x τ S'
    rw [e]
    exact q, fun zs S1 vs H1 hq o1 x1 r1 => by
    obtain ⟨j, rfl, h1, h2, hq⟩ := hq
    cases r1 with
    | cons r1 r2 =>
      cases r2
      cases r1
      exact ⟨j, rfl, h1, h2, k _ _ S1 _ H1 hq o1 x1 wks_range⟩⟩
end
def forT (g : TTG) (b : TTS) (gd : Sto → Prop) (D : TD) (E : T → TEnv → Sto → Prop) : List T → TEnv → Sto → Prop
  | [], τ, S => gd S ∧ D.nx τ S
  | x :: xs, τ, S => gd S ∧ g x τ S fun τ1 S1 => b { D with nx := forT g b gd D E xs, ct := forT g b gd D E xs, bk := D.nx } τ1 S1 E
def cFor (it : TTI) (g : TTG) (b : TTS) : TTS := fun D τ S E => it τ S (fun xs gd S1 => forT g b gd D E xs τ S1) (fun x S' => E x τ S')
section
variable {X : Cx} {tg iter : Expr} {body : List Stmt} {ti : TTI} {g : TTG} {t : TTS} {vs : List Nat} {pos : Pos}
theorem ts_for (hp : PassesOwn (model X.prog X.w) X.A X.env X.xe) (hc : X.calm = true) (hi : TI X tg iter ti) (hg : TGt X vs tg g) (hb : TSs X body t) (hs : ∀ x, foldedSetIterable iter X.env x = pure x := by intro _; rfl) :
    TS X (.For tg iter body [] pos) (cFor ti g t) := fun M S0 H0 E tk => (ps_for hp hc (hi M S0 H0 E tk) (hg M S0 H0 E tk) (hb M S0 H0 E tk) hs).weak fun D σ H ⟨τ, S, B, rel, q, k1, k2, k3, k4⟩ => by
  refine ⟨τ, S, _, rel, q, fun xs gd S1 J H1 hq o1 x1 wk => ?_⟩
  let W : Nat → Nat → L2.St → Hp → Prop := fun i m σ' H' => m = xs.length - i ∧ i ≤ xs.length ∧ ∃ τ' S', Rel (gdOf X M) S0 H0 σ' H' τ' S' ∧ Ext S1 H1 S' H' ∧ forT g t gd B E (xs.drop i) τ' S'
  refine ⟨W, ⟨xs.length, by simp, Nat.zero_le _, τ, S1, rel.step o1 x1, Ext.refl, hq⟩, ?_⟩
  rintro i m σ2 H2 ⟨rfl, hi, τ2, S2, rel2, x2, q2⟩
  by_cases hlt : i < xs.length
  · rw [List.drop_eq_getElem_cons hlt] at q2
    obtain ⟨hgd, q2⟩ := q2
    obtain ⟨hgo, hy⟩ := wk.go M S2 H2 i xs[i] (fun a h n => absurd h n) rel2.sto x2 hgd (List.getElem?_eq_getElem hlt)
    refine .inr ⟨hgo, W (i + 1) (xs.length - (i + 1)), fun σ' H' w => ⟨_, by omega, w⟩, fun x H' y => ?_⟩
    obtain ⟨o3, x3, r3⟩ := hy x H' y
    refine ⟨τ2, S2, xs[i], _, rel2.step o3 x3, r3, q2, fun σ4 H4 τ4 S4 rel4 x4 _ q4 => ?_⟩
    have xx : Ext S1 H1 S4 H4 := (x2.trans x3).trans x4
    refine ⟨τ4, S4, _, rel4, q4, fun σ5 H5 τ5 S5 rel5 x5 q5 => ⟨rfl, hlt, τ5, S5, rel5, xx.trans x5, q5⟩, fun z S5 v H5 o5 x5 r5 q5 => k2 z S5 v H5 o5 (x1.trans (xx.trans x5)) r5 q5,
      fun σ5 H5 τ5 S5 rel5 x5 q5 => k1 _ _ _ _ rel5 (x1.trans (xx.trans x5)) q5, fun σ5 H5 τ5 S5 rel5 x5 q5 => ⟨rfl, hlt, τ5, S5, rel5, xx.trans x5, q5⟩⟩
  · have e : i = xs.length := by omega
    subst e
    rw [List.drop_length] at q2
    exact .inl ⟨wk.stop M S2 H2 rel2.sto x2 q2.1, k1 _ _ _ _ rel2 (x1.trans x2) q2.2⟩
end
def wipeT (τ : TEnv) : List Nat → TEnv
  | [] => τ
  | v :: vs => (wipeT τ vs).set v none
def compT (g : TTG) (c : TTB) (e : TTE) (own : List Nat) (gd : Sto → Prop) (τ : TEnv) (K : List T → Sto → Prop) : List T → List T → Sto → Prop
  | [], acc, S => gd S ∧ K acc S
  | x :: xs, acc, S => gd S ∧ g x (wipeT τ own) S fun τ1 S1 => c τ1 S1 (fun k S2 => if k = true then e τ1 S2 (fun y S3 => acc.length < sizeLine ∧ compT g c e own gd τ K xs (acc ++ [y]) S3) (fun _ _ => False)
    else compT g c e own gd τ K xs acc S2) (fun _ _ => False)
def cComp (it : TTI) (g : TTG) (c : TTB) (e : TTE) (own : List Nat) : TTE := fun τ S Q E => it τ S (fun xs gd S1 => compT g c e own gd τ (fun zs S2 => Q (.lst zs) S2) xs [] S1) E
def bYes : TTB := fun _ S Q _ => Q true S
section
variable {G : Gd} {H : Hp} {S : Sto}
theorem EnvR.wipe {σ : L2.St} {τ : TEnv} (h : EnvR G H S σ τ) (vs : List Nat) : EnvR G H S (wipe σ vs) (wipeT τ vs) := by
  induction vs with
  | nil => exact h
  | cons v vs ih =>
    refine ⟨?_, fun i t e => ?_⟩
    · show ((L2.wipe σ vs).set v none).length = ((wipeT τ vs).set v none).length
      rw [List.length_set, List.length_set]
      exact ih.1
    · have e' : ((wipeT τ vs).set v none)[i]? = some (some t) := e
      by_cases hv : v = i
      · subst hv
        rw [List.getElem?_set_self'] at e'
        cases q : (wipeT τ vs)[v]? with
        | none => rw [q] at e'; cases e'
        | some z => rw [q] at e'; cases e'
      · rw [List.getElem?_set_ne hv] at e'
        obtain ⟨w, h1, h2⟩ := ih.2 i t e'
        refine ⟨w, ?_, h2⟩
        show ((L2.wipe σ vs).set v none)[i]? = some (some w)
        rw [List.getElem?_set_ne hv]
        exact h1
end
def TBs (X : Cx) (ifs : List Expr) (t : TTB) : Prop := ∀ M S0 H0 E, Takes X (wOf X M S0 H0 E) → PTs X ifs (LB X M S0 H0 t E)
theorem tbs_nil {X : Cx} : TBs X [] bYes := fun M S0 H0 E tk => ⟨fun pins s σ H Q I ⟨τ, S, Qt, rel, h, k⟩ => pts_nil.run pins s σ H Q I (k true S H h rel.sto Ext.refl)⟩
theorem tbs_one {X : Cx} {c : Expr} {t : TTB} (h : TB X c t) : TBs X [c] t := fun M S0 H0 E tk => pts_one (h M S0 H0 E tk)
theorem takes_blk {X : Cx} {s : Shared} {H : Hp} {scope : Scope} {env : Env} {fp : List Addr} {M : Addr → Prop} {S0 : Sto} {H0 : Hp} : Takes (X.blk s H scope env fp) (wOf (X.blk s H scope env fp) M S0 H0 fun _ _ _ => False) := takes0.imp fun c d σ H ⟨_, _, _, _, _, z⟩ => z.elim
/-- E is never: within a block nothing is let out -/
abbrev EN : T → TEnv → Sto → Prop := fun _ _ _ => False
/-- the mask with one more -/
def also (M : Addr → Prop) (D : Addr) : Addr → Prop := fun a => M a ∨ a = D
/-- readings whose mask is chosen where they begin -/
def XG (X : Cx) (vs : List Nat) (S0 : Sto) (H0 : Hp) (g : TTG) : L2.TG := fun v σ H Q => ∃ M, LG X M vs S0 H0 g v σ H Q
def XB (X : Cx) (S0 : Sto) (H0 : Hp) (t : TTB) : L2.TT := fun σ H Q => ∃ M, LB X M S0 H0 t EN σ H Q
def XE' (X : Cx) (S0 : Sto) (H0 : Hp) (t : TTE) : L2.TE := fun σ H Q => ∃ M, LE X M S0 H0 t EN σ H Q
section
variable {X : Cx} {elt tg iter : Expr} {ifs : List Expr} {scope : Scope} {own : List Nat} {ti : TTI} {g : TTG} {tc : TTB} {te : TTE} {pos spos py : Pos}
/-- the comprehension's reading from its tree -/
theorem comp_read {M : Addr → Prop} {S0 : Sto} {H0 : Hp} {E : T → TEnv → Sto → Prop} {σ : L2.St} {H : Hp} {Q : VK} {τ : TEnv} {S : Sto} (Kt : List T → Sto → Prop) (rel : Rel (gdOf X M) S0 H0 σ H τ S)
    (h : ti τ S (fun xs gd S1 => compT g tc te own gd τ Kt xs [] S1) (fun x S' => E x τ S'))
    (fin : ∀ zs S2 D H2 vs, Kt zs S2 → StoOk (gdOf X (also M D)) H2 S2 → Ext S H S2 H2 → H2 D = some (.lst vs) → S2 D = none → ¬ M D → (∀ c, Ext S H (ups S2 D c) H2) → Reps (gdOf X (also M D)) H2 S2 zs vs → Q (.ref D) H2) :
    tLc (LI X M S0 H0 ti E) (XG X own S0 H0 g) (XB X S0 H0 tc) (XE' X S0 H0 te) own σ H Q := by
  refine ⟨τ, S, _, rel, h, fun xs gd S1 J H1 hq o1 x1 wk D hD => ?_⟩
  have xD : Ext S1 H1 S1 (upd H1 D (.lst [])) := Ext.new hD
  let W : Nat → Nat → Hp → Prop := fun i m H' => m = xs.length - i ∧ i ≤ xs.length ∧ ∃ S' acc vs, StoOk (gdOf X (also M D)) H' S' ∧ Ext S1 H1 S' H' ∧ H' D = some (.lst vs) ∧ S' D = none ∧ Reps (gdOf X (also M D)) H' S' acc vs ∧ compT g tc te own gd τ Kt (xs.drop i) acc S'
  have oD : StoOk (gdOf X (also M D)) (upd H1 D (.lst [])) S1 := o1.putOn hD
  refine ⟨W, ⟨xs.length, by simp, Nat.zero_le _, S1, [], [], oD, xD, upd_same, o1.free hD, .nil, hq⟩, ?_⟩
  rintro i m H2 ⟨rfl, hi, S2, acc, vs, o2, x2, hD2, nD2, ra, q2⟩
  by_cases hlt : i < xs.length
  · rw [List.drop_eq_getElem_cons hlt] at q2
    obtain ⟨hgd, q2⟩ := q2
    obtain ⟨hgo, hy⟩ := wk.go (also M D) S2 H2 i xs[i] (fun a h n => h.elim (fun h => absurd h n) fun e => e ▸ hD) o2 x2 hgd (List.getElem?_eq_getElem hlt)
    refine .inr ⟨hgo, W (i + 1) (xs.length - (i + 1)), fun H' w => ⟨_, by omega, w⟩, fun x H' y => ?_⟩
    obtain ⟨o3, x3, r3⟩ := hy x H' y
    have d3 := x3.exact hD2 nD2
    have a3 := Reps.ext x3 _ _ ra
    have x13 := x2.trans x3
    have envD : EnvR (gdOf X (also M D)) H1 S1 σ τ := ⟨rel.env.1, fun j t e => by
      obtain ⟨v, h1, h2⟩ := (rel.env.ext x1).2 j t e
      exact ⟨v, h1, Rep.mask (M := also M D) (fun a u r m z => z.elim m fun e => Rd.ne hD r e) _ _ h2⟩⟩
    have relW : Rel (gdOf X (also M D)) S0 H0 (wipe σ own) H' (wipeT τ own) S2 := ⟨(envD.ext x13).wipe _, o3, rel.ext.trans (x1.trans x13)⟩
    refine ⟨also M D, _, S2, xs[i], _, relW, r3, q2, fun σ4 H4 τ4 S4 rel4 x4 w4 q4 => ⟨?_, ?_⟩⟩
    · rw [w4]
      apply List.ext_getElem?
      intro j
      rw [wipe_at, wipe_at]
      by_cases hj : j ∈ own
      · rw [if_pos hj, if_pos hj]
        cases σ[j]? <;> rfl
      · rw [if_neg hj, if_neg hj]
    · refine ⟨also M D, τ4, S4, _, rel4, q4, fun b S5 H5 q5 o5 x5 => ?_⟩
      have x35 := x4.trans x5
      have d5 := x35.exact d3.1 d3.2
      have a5 := Reps.ext x35 _ _ a3
      cases b with
      | false => exact ⟨rfl, hlt, S5, acc, vs, o5, x13.trans x35, d5.1, d5.2, a5, q5⟩
      | true =>
        refine ⟨also M D, τ4, S5, _, rel4.step o5 x5, q5, fun z S6 v H6 q6 o6 x6 r6 => ?_⟩
        obtain ⟨hz, q6⟩ := q6
        have d6 := x6.exact d5.1 d5.2
        have a6 := Reps.ext x6 _ _ a5
        have mD : (gdOf X (also M D)).M D := .inr rfl
        refine ⟨vs, d6.1, by rw [← a6.length]; exact hz, rfl, hlt, S6, acc ++ [z], vs ++ [v], o6.at mD d6.2, ?_, upd_same, d6.2, (Reps.extM (ExtM.at mD) _ _ a6).append (.cons (Rep.extM (ExtM.at mD) _ _ r6) .nil), q6⟩
        have x16 := (x13.trans x35).trans x6
        exact fun b u n => ⟨fun h f => let w := (x16 b u n).1 h f; ⟨(upd_ne fun e => ne_of_none h hD e).trans w.1, w.2⟩, fun h f => let w := (x16 b u n).2 h f; ⟨Rd.upd (Rd.ne hD h) w.1, w.2⟩⟩
  · have e : i = xs.length := by omega
    subst e
    rw [List.drop_length] at q2
    exact .inl ⟨wk.stop (also M D) S2 H2 o2 x2 q2.1, fin _ _ _ _ _ q2.2 o2 (x1.trans x2) hD2 nD2 (o1.nom hD) (fun c b u n => ⟨fun h f => let w := (x1 b u n).1 h f; let z := (x2 b u w.2).1 w.1 f; ⟨z.1, (ups_ne (ne_of_none w.1 hD)).trans z.2⟩, fun h f => let w := (x1 b u n).2 h f; let z := (x2 b u w.2).2 w.1 f; ⟨z.1, (ups_ne (Rd.ne hD w.1)).trans z.2⟩⟩) ra⟩
/-- the block's parts, as judged within -/
theorem blk_g {vs : List Nat} {S0 : Sto} {H0 : Hp} {Y : Cx} (h : TGt Y vs tg g) (tk : ∀ M, Takes Y (wOf Y M S0 H0 EN)) : PG Y tg (XG Y vs S0 H0 g) :=
  ⟨fun pins s σ H v u Q I r ⟨M, q⟩ => (h M S0 H0 EN (tk M)).run pins s σ H v u Q I r q⟩
theorem blk_t {S0 : Sto} {H0 : Hp} {Y : Cx} (h : TBs Y ifs tc) (tk : ∀ M, Takes Y (wOf Y M S0 H0 EN)) : PTs Y ifs (XB Y S0 H0 tc) :=
  ⟨fun pins s σ H Q I ⟨M, q⟩ => (h M S0 H0 EN (tk M)).run pins s σ H Q I q⟩
theorem blk_e {S0 : Sto} {H0 : Hp} {Y : Cx} (h : TE Y elt te) (tk : ∀ M, Takes Y (wOf Y M S0 H0 EN)) : PE Y elt (XE' Y S0 H0 te) :=
  ⟨fun pins s σ H Q I ⟨M, q⟩ => (h M S0 H0 EN (tk M)).run pins s σ H Q I q⟩
abbrev Blk (X : Cx) (scope : Scope) (F : Cx → Prop) : Prop := ∀ (s : Shared) (H : Hp) (C : Addr) (cl : List (Str × Addr)) (fp : List Addr), F (X.blk s H scope (compEnvC scope cl C X.env) fp)
variable {ow : List (Str × Nat)}
theorem te_comp (hc : X.calm = true) (hN : X.N.Nodup) (hi : TI X tg iter ti) (ok : BlkOk X.N X.env.scope scope ow) (hg : Blk X scope fun Y => TGt Y (ow.map (·.2)) tg g) (ht : Blk X scope fun Y => TBs Y ifs tc) (he : Blk X scope fun Y => TE Y elt te)
    (hs : ∀ x, foldedSetIterable iter X.env x = pure x := by intro _; rfl) : TE X (.ListComp elt [⟨tg, iter, ifs, 0⟩] scope pos) (cComp ti g tc te (ow.map (·.2))) := fun M S0 H0 E tk =>
  (pe_lc hc hN (hi M S0 H0 E tk) ok (fun s H C cl fp => blk_g (hg s H C cl fp) fun _ => takes_blk) (fun s H C cl fp => blk_t (ht s H C cl fp) fun _ => takes_blk) (fun s H C cl fp => blk_e (he s H C cl fp) fun _ => takes_blk) hs).weak
    fun σ H Q ⟨τ, S, Qt, rel, h, k⟩ => comp_read _ rel h fun zs S2 D H2 vs q o2 x2 hD nD nM xD r => k (.lst zs) S2 (.ref D) H2 q (o2.takeOff fun _ m => .inl m) x2 (.lst ⟨hD, nD, nM⟩ (r.takeOff fun _ m => .inl m))
/-- name = [..], the name a local -/
theorem ts_setComp {i : Nat} {y : Str} (hc : X.calm = true) (hN : X.N.Nodup) (hy : X.N[i]? = some y) (hyl : X.env.scope.names.lookup y = some .local) (hsw : swapsWith (.ListComp elt [⟨tg, iter, ifs, 0⟩] scope pos) (some (.Name y py)) spos.line X.env = pure true)
    (hi : TI X tg iter ti) (ok : BlkOk X.N X.env.scope scope ow) (hg : Blk X scope fun Y => TGt Y (ow.map (·.2)) tg g) (ht : Blk X scope fun Y => TBs Y ifs tc) (he : Blk X scope fun Y => TE Y elt te) (hs : ∀ x, foldedSetIterable iter X.env x = pure x := by intro _; rfl) :
    TS X (.Assign [.Name y py] (.ListComp elt [⟨tg, iter, ifs, 0⟩] scope pos) spos) (cSet i (cComp ti g tc te (ow.map (·.2)))) := fun M S0 H0 E tk =>
  (ps_setLc hc hN hy hyl hsw (hi M S0 H0 E tk) ok (fun s H C cl fp => blk_g (hg s H C cl fp) fun _ => takes_blk) (fun s H C cl fp => blk_t (ht s H C cl fp) fun _ => takes_blk) (fun s H C cl fp => blk_e (he s H C cl fp) fun _ => takes_blk) hs).weak
    fun D σ H ⟨τ, S, B, rel, h, k, _⟩ => comp_read (fun zs S2 => B.nx (τ.set i (some (.lst zs))) S2) rel h fun zs S2 L H2 vs q o2 x2 hD nD nM xD r =>
      k _ _ _ _ ((rel.step (o2.takeOff fun _ m => .inl m) x2).set (.lst ⟨hD, nD, nM⟩ (r.takeOff fun _ m => .inl m))) x2 q
end
end TL
namespace TL
open PySem PySem.Spec PyProof.Rows L2
/-- what a def promises: the arguments' trees, the store, what follows, what is raised -/
abbrev SpT := List T → Sto → (T → Sto → Prop) → (T → Sto → Prop) → Prop
def liftSp (P : Program) (K : PySem.W.Frag) (w : World) (sp : SpT) : Sp := fun vs H Q E => ∃ M ts S Qt Et, Reps ⟨P, K, w, M⟩ H S ts vs ∧ StoOk ⟨P, K, w, M⟩ H S ∧ sp ts S Qt Et ∧
  (∀ z S' v H', Qt z S' → StoOk ⟨P, K, w, M⟩ H' S' → Ext S H S' H' → Rep ⟨P, K, w, M⟩ H' S' z v → Q v H') ∧
  (∀ x S' cls d H', Et x S' → StoOk ⟨P, K, w, M⟩ H' S' → Ext S H S' H' → ExcIs ⟨P, K, w, M⟩ H' S' x cls d → E cls d H')
def cCall (sp : SpT) (a : TTA) : TTE := fun τ S Q E => a τ S (fun ts S1 => sp ts S1 Q E) E

mutual
/-- u is t with some cells of S, none of S2, taken for what they hold -/
inductive Fz (S S2 : Sto) : T → T → Prop
  | same (t : T) : Fz S S2 t t
  | lstc {a : Addr} {ts us : List T} : S a = some (.lst ts) → S2 a = none → Fzs S S2 ts us → Fz S S2 (.ref a) (.lst us)
  | dctc {a : Addr} {b : Bool} {ks vs us : List T} : S a = some (.dct b ks vs) → S2 a = none → Fzs S S2 vs us → Fz S S2 (.ref a) (.dct b ks us)
  | insc {a : Addr} {c : Str} {ns : List Str} {vs us : List T} : S a = some (.ins c ns vs) → S2 a = none → Fzs S S2 vs us → Fz S S2 (.ref a) (.obj c ns us)
  | tup {ts us : List T} : Fzs S S2 ts us → Fz S S2 (.tup ts) (.tup us)
  | lst {ts us : List T} : Fzs S S2 ts us → Fz S S2 (.lst ts) (.lst us)
inductive Fzs (S S2 : Sto) : List T → List T → Prop
  | nil : Fzs S S2 [] []
  | cons {t u : T} {ts us : List T} : Fz S S2 t u → Fzs S S2 ts us → Fzs S S2 (t :: ts) (u :: us)
end
/-- some cells are given up -/
def Sub (S2 S : Sto) : Prop := ∀ a c, S2 a = some c → S a = some c
section
variable {G : Gd} {H : Hp} {S S2 : Sto}
theorem Sub.ext (k : Sub S2 S) : Ext S H S2 H := Ext.drop fun b n => by
  cases q : S2 b with
  | none => rfl
  | some d => rw [k b d q] at n; cases n
mutual
theorem Fz.rep (o : StoOk G H S) (k : Sub S2 S) : ∀ {t u : T}, Fz S S2 t u → ∀ {v : V}, Rep G H S t v → Rep G H S2 u v
  | _, _, .same _, _, r => Rep.ext k.ext _ _ r
  | _, _, .lstc h1 h2 h3, _, r => by
    cases r
    obtain ⟨xs, e, q⟩ := o.at_ _ _ h1
    exact .lst ⟨e, h2, fun m => by rw [o.sep _ m] at h1; cases h1⟩ (Fzs.reps o k h3 q)
  | _, _, .dctc (b := false) h1 h2 h3, _, r => by
    cases r
    obtain ⟨kvs, e, q1, q2⟩ := o.at_ _ _ h1
    exact .dK ⟨.inl e, h2, fun m => by rw [o.sep _ m] at h1; cases h1⟩ (Reps.ext k.ext _ _ q1) (Fzs.reps o k h3 q2)
  | _, _, .dctc (b := true) h1 h2 h3, _, r => by
    cases r
    obtain ⟨es, e, q0, q1, q2⟩ := o.at_ _ _ h1
    exact .dN ⟨.inl e, h2, fun m => by rw [o.sep _ m] at h1; cases h1⟩ q0 (Reps.ext k.ext _ _ q1) (Fzs.reps o k h3 q2)
  | _, _, .insc h1 h2 h3, _, r => by
    cases r
    obtain ⟨d, xs, e, q0, q1⟩ := o.at_ _ _ h1
    exact .obj ⟨e, h2, fun m => by rw [o.sep _ m] at h1; cases h1⟩ q0 (Fzs.reps o k h3 q1)
  | _, _, .tup h, _, r => by
    cases r with
    | tup h1 h2 => exact .tup (h1.ext k.ext) (Fzs.reps o k h h2)
  | _, _, .lst h, _, r => by
    cases r with
    | lst h1 h2 => exact .lst (h1.ext k.ext) (Fzs.reps o k h h2)
theorem Fzs.reps (o : StoOk G H S) (k : Sub S2 S) : ∀ {ts us : List T}, Fzs S S2 ts us → ∀ {vs : List V}, Reps G H S ts vs → Reps G H S2 us vs
  | _, _, .nil, _, r => by cases r; exact .nil
  | _, _, .cons h1 h2, _, r => by
    cases r with
    | cons r1 r2 => exact .cons (Fz.rep o k h1 r1) (Fzs.reps o k h2 r2)
end
end
/-- what follows, some cells given up -/
def Fin (Q : T → Sto → Prop) (z : T) (S : Sto) : Prop := ∃ S2 u, Sub S2 S ∧ Fz S S2 z u ∧ Q u S2
theorem Fin.of {Q : T → Sto → Prop} {z : T} {S : Sto} (h : Q z S) : Fin Q z S := ⟨S, z, fun _ _ e => e, .same z, h⟩
/-- an exception's fields are not frozen; cells are given up all the same -/
def FinX (Q : T → Sto → Prop) (z : T) (S : Sto) : Prop := ∃ S2, Sub S2 S ∧ Q z S2
theorem ExcIs.ext {G : Gd} {H H' : Hp} {S S' : Sto} {x : T} {cls : Value} {d : Option Addr} (h : ExcIs G H S x cls d) (e : Ext S H S' H') : ExcIs G H' S' x cls d := by
  obtain ⟨c, ns, ts, h1, h2, h3⟩ := h
  refine ⟨c, ns, ts, h1, h2, h3.imp id ?_⟩
  rintro ⟨da, xs, q1, q2, q3, q4⟩
  exact ⟨da, xs, q1, q2.ext e, q3, Reps.ext e _ _ q4⟩

def startT (N : List Str) (ts : List T) : TEnv := ts.map some ++ List.replicate (N.length - ts.length) none
theorem start_env {G : Gd} {H : Hp} {S : Sto} {N : List Str} {ts : List T} {vs : List V} (r : Reps G H S ts vs) : EnvR G H S (start N vs) (startT N ts) := by
  have l := r.length
  refine ⟨by simp [L2.start, startT, l], fun i t e => ?_⟩
  unfold startT at e
  by_cases hi : i < ts.length
  · rw [List.getElem?_append_left (by simpa using hi), List.getElem?_map] at e
    cases q : ts[i]? with
    | none => rw [q] at e; cases e
    | some z =>
      rw [q] at e
      cases e
      obtain ⟨v, h1, h2⟩ := r.get q
      refine ⟨v, ?_, h2⟩
      unfold L2.start
      rw [List.getElem?_append_left (by simp; omega), List.getElem?_map, h1]
      rfl
  · rw [List.getElem?_append_right (by simpa using hi), List.getElem?_replicate] at e
    split at e <;> cases e

section
variable {P : Program} {w : World} {K : PySem.W.Frag} {mg : Str → Option Value} {base : Heap} {x qual : Str} {params : Arguments} {body : List Stmt} {scope : Scope} {f : Addr} {fd : FuncData} {N ps : List Str} {k : Nat} {sp : SpT} {c : TTS}
/-- THE RULE for a def: its body as a tree's reading, and the reading -/
theorem fn_t (F : FunD K x qual params body scope [] [] f fd) (Sc : FnScope N ps scope) (len : ∀ ts S Q E, sp ts S Q E → ts.length = ps.length)
    (hb : ∀ (cdv : Value) (A : Around) (outer : List Env) (s : Shared) (H : Hp) (E : XK), Room k (A.deeper (envOfC qual scope s.heap.objs.size f cdv)) → TSs (cxOf (L2N.CX P w) P w K mg base N qual scope f cdv A outer s H E) body c)
    (vc : ∀ ts S Q E, sp ts S Q E → c { nx := fun _ S' => Fin Q .non S', rt := Fin Q } (startT N ts) S (fun x _ S' => FinX E x S')) :
    FnOk P w K mg base (L2N.CX P w) (k + 1) f fd ps (liftSp P K w sp) := by
  refine F.ok Sc (fun vs H Q E h => ?_) (fun cdv A outer s H vs Q E hr h => ?_)
  · obtain ⟨M, ts, S, Qt, Et, r, _, q, _⟩ := h
    rw [← r.length]
    exact len _ _ _ _ q
  · obtain ⟨M, ts, S, Qt, Et, r, o, q, hQ, hE⟩ := h
    have vc' := vc ts S Qt Et q
    have tk : Takes (cxOf (L2N.CX P w) P w K mg base N qual scope f cdv A outer s H E) (wOf (cxOf (L2N.CX P w) P w K mg base N qual scope f cdv A outer s H E) M S H fun x _ S' => FinX Et x S') := by
      refine Takes.imp (L2N.takes_of rfl rfl rfl rfl) fun cls d σ H' z => ?_
      obtain ⟨τ, S', x, rel, hx, S2, k2, h2⟩ := z
      exact hE x S2 cls d H' h2 (rel.sto.drop k2) (rel.ext.trans k2.ext) (hx.ext k2.ext)
    refine ⟨_, hb cdv A outer s H E hr M S H _ tk, startT N ts, S, _, ⟨start_env r, o, Ext.refl⟩, vc', ?_, ?_, fun _ _ _ _ _ _ z => z.elim, fun _ _ _ _ _ _ z => z.elim⟩
    · rintro σ' H' τ' S' rel x ⟨S2, u, k2, fz, q2⟩
      exact hQ u S2 .non H' q2 (rel.sto.drop k2) (x.trans k2.ext) (Fz.rep rel.sto k2 fz .non)
    · rintro z S' v H' o2 x r2 ⟨S2, u, k2, fz, q2⟩
      exact hQ u S2 v H' q2 (o2.drop k2) (x.trans k2.ext) (Fz.rep o2 k2 fz r2)
end
section
variable {X : Cx} {k : Nat} {f : Addr} {fd : FuncData} {ps : List Str} {sp : SpT} {x : Str} {p pos : Pos} {e : Expr} {es : List Expr} {ta : TTA}
theorem te_call (F : FnOk X.prog X.w X.K X.mg X.base (L2N.CX X.prog X.w) k f fd ps (liftSp X.prog X.K X.w sp)) (hr : Room k X.A) (hg : Gl X x) (hm : X.mg x = some (.ref f)) (hk : PySem.W.keepIn X.K (.ref f) = true) (hb : Binds X.K fd ps [])
    (ha : TA X (e :: es) ta) (hdb : (x == ("__debug__" : Str)) = false := by decide) (he : starEach (e :: es) X.env = (false, eval e X.env) :: starEach es X.env := by rfl) (hpl : (backTo pos (starEach es X.env)).any (·.1) = false := by rfl) :
    TE X (.Call (.Name x p) (e :: es) [] pos) (cCall sp ta) := fun M S0 H0 E tk =>
  (pe_callS (E := WE (wOf X M S0 H0 E)) F hr hg hm hk hb (fun σ => L2N.passAt tk σ) (ha M S0 H0 E tk) hdb he hpl).weak fun σ H Q ⟨τ, S, Qt, rel, h, fin⟩ => ⟨τ, S, _, rel, h, fun zs S1 vs H1 q o1 x1 r1 =>
    ⟨M, zs, S1, Qt, fun x S' => E x τ S', r1, o1, q, fun z S' v H' qz o2 x2 r2 => fin z S' v H' qz o2 (x1.trans x2) r2, fun x S' cls d H' qx o2 x2 hx => ⟨τ, S', x, rel.step o2 (x1.trans x2), hx, qx⟩⟩⟩
end
end TL
namespace TL
open PySem PySem.Spec PyProof.Rows L2
mutual
def dat : T → PyData
  | .bl b => .bool b
  | .int i => .int i
  | .str x => .str (txt x)
  | .tup ts => .tuple (dats ts)
  | .lst ts => .list (dats ts)
  | _ => .none
def dats : List T → List PyData
  | [] => []
  | t :: ts => dat t :: dats ts
end
mutual
def plain : T → Bool
  | .non => true
  | .bl _ => true
  | .int _ => true
  | .str _ => true
  | .tup ts => plains ts
  | .lst ts => plains ts
  | _ => false
def plains : List T → Bool
  | [] => true
  | t :: ts => plain t && plains ts
end
mutual
def dep : T → Nat
  | .tup ts => deps ts + 1
  | .lst ts => deps ts + 1
  | _ => 0
def deps : List T → Nat
  | [] => 0
  | t :: ts => max (dep t) (deps ts)
end
mutual
def eqt : T → T → Bool
  | .non, .non => true
  | .bl a, .bl b => a == b
  | .bl a, .int j => (if a then 1 else 0) == j
  | .int i, .bl b => i == (if b then 1 else 0)
  | .int i, .int j => i == j
  | .str x, .str y => decide (x = y)
  | .tup xs, .tup ys => eqts xs ys
  | .lst xs, .lst ys => eqts xs ys
  | _, _ => false
def eqts : List T → List T → Bool
  | [], [] => true
  | x :: xs, y :: ys => eqt x y && eqts xs ys
  | _, _ => false
end
def strLt (x y : List Sg) : Bool := decide (x.map (·.val) < y.map (·.val))
mutual
def ltt : T → T → Bool
  | .bl a, .bl b => !a && b
  | .int i, .int j => decide (i < j)
  | .str x, .str y => strLt x y
  | .tup xs, .tup ys => ltts xs ys
  | .lst xs, .lst ys => ltts xs ys
  | _, _ => false
def ltts : List T → List T → Bool
  | [], [] => false
  | [], _ :: _ => true
  | _ :: _, [] => false
  | x :: xs, y :: ys => if eqt x y = true then ltts xs ys else ltt x y
end
mutual
def alk : T → T → Bool
  | .non, .non => true
  | .bl _, .bl _ => true
  | .int _, .int _ => true
  | .str _, .str _ => true
  | .lst xs, .lst ys => alks xs ys
  | .tup xs, .tup ys => alks xs ys
  | _, _ => false
def alks : List T → List T → Bool
  | x :: xs, y :: ys => alk x y && alks xs ys
  | [], _ => true
  | _ :: _, [] => true
end
theorem txt_eq (x y : List Sg) : (txt x == txt y) = decide (x = y) := by
  by_cases h : x = y
  · subst h
    simp
  · have : txt x ≠ txt y := fun e => h (txt_inj e)
    simp [h, this]
mutual
theorem eqt_dat : ∀ x y : T, plain x = true → plain y = true → PyData.eqv (dat x) (dat y) = eqt x y
  | .non, y, _, hy => by cases y <;> first | rfl | cases hy
  | .bl _, y, _, hy => by cases y <;> first | rfl | cases hy
  | .int _, y, _, hy => by cases y <;> first | rfl | cases hy
  | .str a, y, _, hy => by
    cases y with
    | str b => simp only [dat, PyData.eqv, eqt]; exact txt_eq a b
    | _ => first | rfl | cases hy
  | .tup xs, y, hx, hy => by
    cases y with
    | tup ys =>
      simp only [dat, PyData.eqv, eqt]
      exact eqts_dat xs ys hx hy
    | _ => first | rfl | cases hy
  | .lst xs, y, hx, hy => by
    cases y with
    | lst ys =>
      simp only [dat, PyData.eqv, eqt]
      exact eqts_dat xs ys hx hy
    | _ => first | rfl | cases hy
  | .ref _, _, hx, _ => by cases hx
  | .exc _ _ _, _, hx, _ => by cases hx
  | .dct _ _ _, _, hx, _ => by cases hx
  | .obj _ _ _, _, hx, _ => by cases hx
  | .fn _, _, hx, _ => by cases hx
  | .scr _, _, hx, _ => by cases hx
theorem eqts_dat : ∀ xs ys : List T, plains xs = true → plains ys = true → PyData.eqvAll (dats xs) (dats ys) = eqts xs ys
  | [], [], _, _ => rfl
  | [], _ :: _, _, _ => rfl
  | _ :: _, [], _, _ => rfl
  | x :: xs, y :: ys, hx, hy => by
    simp only [plains, Bool.and_eq_true] at hx hy
    simp only [dats, PyData.eqvAll, eqts]
    rw [eqt_dat x y hx.1 hy.1, eqts_dat xs ys hx.2 hy.2]
end
mutual
theorem alk_dat : ∀ x y : T, plain x = true → plain y = true → PySem.W.alike (dat x) (dat y) = alk x y
  | .non, y, _, hy => by cases y <;> first | (simp only [dat, PySem.W.alike, alk]; done) | cases hy
  | .bl _, y, _, hy => by cases y <;> first | (simp only [dat, PySem.W.alike, alk]; done) | cases hy
  | .int _, y, _, hy => by cases y <;> first | (simp only [dat, PySem.W.alike, alk]; done) | cases hy
  | .str a, y, _, hy => by cases y <;> first | (simp only [dat, PySem.W.alike, alk]; done) | cases hy
  | .tup xs, y, hx, hy => by
    cases y with
    | tup ys =>
      simp only [dat, PySem.W.alike, alk]
      exact alks_dat xs ys hx hy
    | _ => first | (simp only [dat, PySem.W.alike, alk]; done) | cases hy
  | .lst xs, y, hx, hy => by
    cases y with
    | lst ys =>
      simp only [dat, PySem.W.alike, alk]
      exact alks_dat xs ys hx hy
    | _ => first | (simp only [dat, PySem.W.alike, alk]; done) | cases hy
  | .ref _, _, hx, _ => by cases hx
  | .exc _ _ _, _, hx, _ => by cases hx
  | .dct _ _ _, _, hx, _ => by cases hx
  | .obj _ _ _, _, hx, _ => by cases hx
  | .fn _, _, hx, _ => by cases hx
  | .scr _, _, hx, _ => by cases hx
theorem alks_dat : ∀ xs ys : List T, plains xs = true → plains ys = true → PySem.W.alikeAll (dats xs) (dats ys) = alks xs ys
  | [], [], _, _ => by simp only [dats, PySem.W.alikeAll, alks]
  | [], _ :: _, _, _ => by simp only [dats, PySem.W.alikeAll, alks]
  | _ :: _, [], _, _ => by simp only [dats, PySem.W.alikeAll, alks]
  | x :: xs, y :: ys, hx, hy => by
    simp only [plains, Bool.and_eq_true] at hx hy
    simp only [dats, PySem.W.alikeAll, alks]
    rw [alk_dat x y hx.1 hy.1, alks_dat xs ys hx.2 hy.2]
end
theorem ltts_eq (x y : T) (xs ys : List T) : ltts (x :: xs) (y :: ys) = if eqt x y = true then ltts xs ys else ltt x y := by simp only [ltts]
mutual
theorem ltt_dat : ∀ x y : T, plain x = true → plain y = true → alk x y = true → x ≠ .non → PySem.W.dataLt (dat x) (dat y) = ltt x y
  | .non, _, _, _, _, h => absurd rfl h
  | .bl a, y, _, hy, h, _ => by
    cases y with
    | bl b =>
      simp only [dat, ltt]
      refine (PySem.W.dataLt_bool a b).trans ?_
      cases a <;> cases b <;> rfl
    | _ => simp [alk] at h
  | .int i, y, _, hy, h, _ => by
    cases y with
    | int j => exact PySem.W.dataLt_int i j
    | _ => simp [alk] at h
  | .str a, y, _, hy, h, _ => by
    cases y with
    | str b => exact PySem.W.dataLt_str (txt a) (txt b)
    | _ => simp [alk] at h
  | .tup xs, y, hx, hy, h, _ => by
    cases y with
    | tup ys =>
      simp only [dat, ltt]
      rw [PySem.W.dataLt_tuple]
      exact ltts_dat xs ys hx hy (by simpa [alk] using h)
    | _ => simp [alk] at h
  | .lst xs, y, hx, hy, h, _ => by
    cases y with
    | lst ys =>
      simp only [dat, ltt]
      rw [PySem.W.dataLt_list]
      exact ltts_dat xs ys hx hy (by simpa [alk] using h)
    | _ => simp [alk] at h
  | .ref _, _, hx, _, _, _ => by cases hx
  | .exc _ _ _, _, hx, _, _, _ => by cases hx
  | .dct _ _ _, _, hx, _, _, _ => by cases hx
  | .obj _ _ _, _, hx, _, _, _ => by cases hx
  | .fn _, _, hx, _, _, _ => by cases hx
  | .scr _, _, hx, _, _, _ => by cases hx
theorem ltts_dat : ∀ xs ys : List T, plains xs = true → plains ys = true → alks xs ys = true → PyProof.Rows.lexLt PyProof.Rows.itemOrd (PySem.W.keyToksAll (dats xs)) (PySem.W.keyToksAll (dats ys)) = ltts xs ys
  | [], [], _, _, _ => by simp only [dats, PySem.W.keyToksAll, ltts]; rfl
  | [], y :: ys, _, _, _ => by
    simp only [dats, PySem.W.keyToksAll, ltts]
    rw [PySem.W.lex_atom (by simp), PySem.W.lex_one]
    rfl
  | x :: xs, [], _, _, _ => by
    simp only [dats, PySem.W.keyToksAll, ltts]
    rw [PySem.W.lex_atom (by simp), PySem.W.lex_one]
    rfl
  | x :: xs, y :: ys, hx, hy, h => by
    simp only [plains, Bool.and_eq_true] at hx hy
    simp only [alks, Bool.and_eq_true] at h
    have ha : PySem.W.alike (dat x) (dat y) = true := by rw [alk_dat x y hx.1 hy.1]; exact h.1
    rw [ltts_eq]
    show PyProof.Rows.lexLt PyProof.Rows.itemOrd (PySem.W.keyToksAll (dat x :: dats xs)) (PySem.W.keyToksAll (dat y :: dats ys)) = _
    rw [PySem.W.dataLt_cons ha, eqt_dat x y hx.1 hy.1, ltts_dat xs ys hx.2 hy.2 h.2]
    by_cases e : eqt x y = true
    · rw [if_pos e, if_pos e]
    · rw [if_neg e, if_neg e]
      refine ltt_dat x y hx.1 hy.1 h.1 fun z => ?_
      subst z
      cases y <;> simp [alk, eqt] at h e
end
mutual
theorem dep_dat : ∀ x : T, plain x = true → (dat x).depth = dep x
  | .non, _ => rfl
  | .bl _, _ => rfl
  | .int _, _ => rfl
  | .str _, _ => rfl
  | .tup xs, h => by simp only [dat, PyData.depth, dep]; rw [deps_dat xs h]
  | .lst xs, h => by simp only [dat, PyData.depth, dep]; rw [deps_dat xs h]
  | .ref _, hx => by cases hx
  | .exc _ _ _, hx => by cases hx
  | .dct _ _ _, hx => by cases hx
  | .obj _ _ _, hx => by cases hx
  | .fn _, hx => by cases hx
  | .scr _, hx => by cases hx
theorem deps_dat : ∀ xs : List T, plains xs = true → PyData.depthAll (dats xs) = deps xs
  | [], _ => rfl
  | x :: xs, h => by
    simp only [plains, Bool.and_eq_true] at h
    simp only [dats, PyData.depthAll, deps]
    rw [dep_dat x h.1, deps_dat xs h.2]
end
mutual
theorem lay_dat : ∀ x : T, plain x = true → (dat x).canLay0 = true
  | .non, _ => rfl
  | .bl _, _ => rfl
  | .int _, _ => rfl
  | .str a, _ => by
    simp only [dat, PyData.canLay0, PyData.strOk]
    rw [Array.all_eq_true']
    intro c hc
    have hc' : c ∈ (a.map (·.val)).toArray := hc
    rw [List.mem_toArray] at hc'
    obtain ⟨s, _, rfl⟩ := List.mem_map.mp hc'
    have := s.isLt
    exact decide_eq_true (by omega)
  | .tup xs, h => by simp only [dat, PyData.canLay0]; exact lays_dat xs h
  | .lst xs, h => by simp only [dat, PyData.canLay0]; exact lays_dat xs h
  | .ref _, hx => by cases hx
  | .exc _ _ _, hx => by cases hx
  | .dct _ _ _, hx => by cases hx
  | .obj _ _ _, hx => by cases hx
  | .fn _, hx => by cases hx
  | .scr _, hx => by cases hx
theorem lays_dat : ∀ xs : List T, plains xs = true → PyData.canLayAll0 (dats xs) = true
  | [], _ => rfl
  | x :: xs, h => by
    simp only [plains, Bool.and_eq_true] at h
    simp only [dats, PyData.canLayAll0, Bool.and_eq_true]
    exact ⟨lay_dat x h.1, lays_dat xs h.2⟩
end
section
variable {G : Gd} {H : Hp} {S : Sto}
mutual
theorem Rep.dp : ∀ (t : T) (v : V), Rep G H S t v → plain t = true → Dp G.K H v (dat t)
  | .non, _, r, _ => by cases r; exact .non
  | .bl _, _, r, _ => by cases r; exact .bl _
  | .int _, _, r, _ => by cases r; exact .int _
  | .str _, _, r, _ => by cases r; exact .str _
  | .tup ts, _, r, h => by
    cases r with
    | tup h1 h2 => exact .tup h1.sq (Reps.dp ts _ h2 h)
  | .lst ts, _, r, h => by
    cases r with
    | lst h1 h2 => exact .lst h1.sq (Reps.dp ts _ h2 h)
  | .ref _, _, _, hx => by cases hx
  | .exc _ _ _, _, _, hx => by cases hx
  | .dct _ _ _, _, _, hx => by cases hx
  | .obj _ _ _, _, _, hx => by cases hx
  | .fn _, _, _, hx => by cases hx
  | .scr _, _, _, hx => by cases hx
theorem Reps.dp : ∀ (ts : List T) (vs : List V), Reps G H S ts vs → plains ts = true → DpAll G.K H vs (dats ts)
  | [], _, r, _ => by cases r; exact .nil
  | t :: ts, _, r, h => by
    simp only [plains, Bool.and_eq_true] at h
    cases r with
    | cons h1 h2 => exact .cons (Rep.dp t _ h1 h.1) (Reps.dp ts _ h2 h.2)
end
/-- a cell that holds a list, as a list -/
def res (S : Sto) : T → T
  | .ref a => match S a with
    | some (.lst ts) => .lst ts
    | _ => .ref a
  | t => t
theorem res_dp (o : StoOk G H S) {t : T} {v : V} (r : Rep G H S t v) (h : plain (res S t) = true) : Dp G.K H v (dat (res S t)) := by
  cases t with
  | ref a =>
    cases r
    cases e : S a with
    | none => simp [res, e, plain] at h
    | some c =>
      cases c with
      | lst ts =>
        simp only [res, e] at h ⊢
        obtain ⟨ws, hw, q⟩ := o.at_ a _ e
        exact .lst (SqL.of hw) (Reps.dp ts ws q h)
      | dct _ _ _ => simp [res, e, plain] at h
      | ins _ _ _ => simp [res, e, plain] at h
  | _ => exact Rep.dp _ v r h
end
/-- plain, and not too deep -/
def okd (t : T) : Bool := plain t && decide (dep t ≤ 64)
theorem okd_shaped {t : T} (h : okd t = true) : SeqAt.shaped (dat t) = true := by
  obtain ⟨h1, h2⟩ := Bool.and_eq_true_iff.mp h
  have h2' := of_decide_eq_true h2
  refine Bool.and_eq_true_iff.mpr ⟨lay_dat t h1, decide_eq_true ?_⟩
  rw [dep_dat t h1]
  exact h2'
theorem okd_plain {t : T} (h : okd t = true) : plain t = true := (Bool.and_eq_true_iff.mp h).1

def eqT (S : Sto) (x y : T) : Option T := if (okd (res S x) && okd (res S y)) = true then some (.bl (eqt (res S x) (res S y))) else none
def neT (S : Sto) (x y : T) : Option T := if (okd (res S x) && okd (res S y)) = true then some (.bl (!eqt (res S x) (res S y))) else none
section
variable {X : Cx}
theorem op_eqT (hu : X.A.units + 64 < cLine) : OpT X (compareOp .Eq) eqT := by
  intro pins s σ H x y v u Q I rx ry h
  obtain ⟨M, S, tx, ty, t, o, hx, hy, e, fin⟩ := h
  unfold eqT at e
  split at e
  · rename_i c
    obtain ⟨c1, c2⟩ := Bool.and_eq_true_iff.mp c
    obtain rfl := Option.some.inj e
    refine op_eqD hu pins s σ H x y v u Q I rx ry ⟨_, _, res_dp o hx (okd_plain c1), res_dp o hy (okd_plain c2), okd_shaped c1, okd_shaped c2, ?_⟩
    rw [eqt_dat _ _ (okd_plain c1) (okd_plain c2)]
    exact fin _ H o Ext.refl (.bl _)
  · cases e
theorem op_neT (hu : X.A.units + 64 < cLine) : OpT X (compareOp .NotEq) neT := by
  intro pins s σ H x y v u Q I rx ry h
  obtain ⟨M, S, tx, ty, t, o, hx, hy, e, fin⟩ := h
  unfold neT at e
  split at e
  · rename_i c
    obtain ⟨c1, c2⟩ := Bool.and_eq_true_iff.mp c
    obtain rfl := Option.some.inj e
    refine op_neD hu pins s σ H x y v u Q I rx ry ⟨_, _, res_dp o hx (okd_plain c1), res_dp o hy (okd_plain c2), okd_shaped c1, okd_shaped c2, ?_⟩
    rw [eqt_dat _ _ (okd_plain c1) (okd_plain c2)]
    exact fin _ H o Ext.refl (.bl _)
  · cases e
def cmpOk (x y : T) : Bool := okd x && (okd y && (alk x y && (match x with | .non => false | _ => true)))
theorem cmpOk_of {x y : T} (h : cmpOk x y = true) : okd x = true ∧ okd y = true ∧ alk x y = true ∧ x ≠ .non := by
  simp only [cmpOk, Bool.and_eq_true] at h
  obtain ⟨h1, h2, h3, h4⟩ := h
  refine ⟨h1, h2, h3, fun e => ?_⟩
  subst e
  cases h4
def ltT (_ : Sto) (x y : T) : Option T := if cmpOk x y = true then some (.bl (ltt x y)) else none
def gtT (_ : Sto) (x y : T) : Option T := if cmpOk x y = true then some (.bl (ltt y x)) else none
def leT (_ : Sto) (x y : T) : Option T := if cmpOk x y = true then some (.bl (!ltt y x)) else none
def geT (_ : Sto) (x y : T) : Option T := if cmpOk x y = true then some (.bl (!ltt x y)) else none
mutual
theorem alk_symm : ∀ x y : T, alk x y = alk y x
  | .non, y => by cases y <;> simp [alk]
  | .bl _, y => by cases y <;> simp [alk]
  | .int _, y => by cases y <;> simp [alk]
  | .str _, y => by cases y <;> simp [alk]
  | .tup xs, y => by
    cases y with
    | tup ys => simp only [alk]; exact alks_symm xs ys
    | _ => simp [alk]
  | .lst xs, y => by
    cases y with
    | lst ys => simp only [alk]; exact alks_symm xs ys
    | _ => simp [alk]
  | .ref _, y => by cases y <;> simp [alk]
  | .exc _ _ _, y => by cases y <;> simp [alk]
  | .dct _ _ _, y => by cases y <;> simp [alk]
  | .obj _ _ _, y => by cases y <;> simp [alk]
  | .fn _, y => by cases y <;> simp [alk]
  | .scr _, y => by cases y <;> simp [alk]
theorem alks_symm : ∀ xs ys : List T, alks xs ys = alks ys xs
  | [], [] => rfl
  | [], _ :: _ => by simp [alks]
  | _ :: _, [] => by simp [alks]
  | x :: xs, y :: ys => by
    simp only [alks]
    rw [alk_symm x y, alks_symm xs ys]
end
theorem cmp_facts {x y : T} (h : cmpOk x y = true) : PySem.W.alike (dat x) (dat y) = true ∧ dat x ≠ .none ∧ PySem.W.dataLt (dat x) (dat y) = ltt x y ∧ PySem.W.dataLt (dat y) (dat x) = ltt y x := by
  obtain ⟨h1, h2, h3, h4⟩ := cmpOk_of h
  have p1 := okd_plain h1
  have p2 := okd_plain h2
  refine ⟨by rw [alk_dat x y p1 p2]; exact h3, ?_, ltt_dat x y p1 p2 h3 h4, ltt_dat y x p2 p1 (by rw [alk_symm]; exact h3) fun e => ?_⟩
  · cases x <;> first | exact absurd rfl h4 | (cases p1; done) | (intro z; cases z)
  · subst e
    cases x <;> first | exact absurd rfl h4 | simp [alk] at h3
theorem room_cmp {A : Around} {x y : T} (h : cmpOk x y = true) (hu : A.units + 64 < cLine) : A.units + min (dat x).depth (dat y).depth < cLine := SeqAt.room_of_shaped (okd_shaped (cmpOk_of h).1) hu
theorem op_ltT (hu : X.A.units + 64 < cLine) : OpT X (compareOp .Lt) ltT := by
  intro pins s σ H x y v u Q I rx ry h
  obtain ⟨M, S, tx, ty, t, o, hx, hy, e, fin⟩ := h
  unfold ltT at e
  split at e
  · rename_i c
    obtain rfl := Option.some.inj e
    obtain ⟨c1, c2, c3, c4⟩ := cmp_facts c
    obtain ⟨as, r1⟩ := Dp.reads I _ _ _ (Rep.dp _ _ hx (okd_plain (cmpOk_of c).1)) rx
    obtain ⟨bs, r2⟩ := Dp.reads I _ _ _ (Rep.dp _ _ hy (okd_plain (cmpOk_of c).2.1)) ry
    exact PySem.W.lt_data r1 r2 c1 c2 (room_cmp c hu) ⟨.bl _, H, I, rfl, by rw [c3]; exact fin _ H o Ext.refl (.bl _)⟩
  · cases e
theorem op_gtT (hu : X.A.units + 64 < cLine) : OpT X (compareOp .Gt) gtT := by
  intro pins s σ H x y v u Q I rx ry h
  obtain ⟨M, S, tx, ty, t, o, hx, hy, e, fin⟩ := h
  unfold gtT at e
  split at e
  · rename_i c
    obtain rfl := Option.some.inj e
    obtain ⟨c1, c2, c3, c4⟩ := cmp_facts c
    obtain ⟨as, r1⟩ := Dp.reads I _ _ _ (Rep.dp _ _ hx (okd_plain (cmpOk_of c).1)) rx
    obtain ⟨bs, r2⟩ := Dp.reads I _ _ _ (Rep.dp _ _ hy (okd_plain (cmpOk_of c).2.1)) ry
    exact PySem.W.gt_data r1 r2 c1 c2 (room_cmp c hu) ⟨.bl _, H, I, rfl, by rw [c4]; exact fin _ H o Ext.refl (.bl _)⟩
  · cases e
theorem op_leT (hu : X.A.units + 64 < cLine) : OpT X (compareOp .LtE) leT := by
  intro pins s σ H x y v u Q I rx ry h
  obtain ⟨M, S, tx, ty, t, o, hx, hy, e, fin⟩ := h
  unfold leT at e
  split at e
  · rename_i c
    obtain rfl := Option.some.inj e
    obtain ⟨c1, c2, c3, c4⟩ := cmp_facts c
    obtain ⟨as, r1⟩ := Dp.reads I _ _ _ (Rep.dp _ _ hx (okd_plain (cmpOk_of c).1)) rx
    obtain ⟨bs, r2⟩ := Dp.reads I _ _ _ (Rep.dp _ _ hy (okd_plain (cmpOk_of c).2.1)) ry
    exact PySem.W.le_data r1 r2 c1 c2 (room_cmp c hu) ⟨.bl _, H, I, rfl, by rw [c4]; exact fin _ H o Ext.refl (.bl _)⟩
  · cases e
theorem op_geT (hu : X.A.units + 64 < cLine) : OpT X (compareOp .GtE) geT := by
  intro pins s σ H x y v u Q I rx ry h
  obtain ⟨M, S, tx, ty, t, o, hx, hy, e, fin⟩ := h
  unfold geT at e
  split at e
  · rename_i c
    obtain rfl := Option.some.inj e
    obtain ⟨c1, c2, c3, c4⟩ := cmp_facts c
    obtain ⟨as, r1⟩ := Dp.reads I _ _ _ (Rep.dp _ _ hx (okd_plain (cmpOk_of c).1)) rx
    obtain ⟨bs, r2⟩ := Dp.reads I _ _ _ (Rep.dp _ _ hy (okd_plain (cmpOk_of c).2.1)) ry
    exact PySem.W.ge_data r1 r2 c1 c2 (room_cmp c hu) ⟨.bl _, H, I, rfl, by rw [c3]; exact fin _ H o Ext.refl (.bl _)⟩
  · cases e
def inQ (S : Sto) (x y : T) : Option Bool := match res S y with
  | .lst ts => if (okd x && okd (.lst ts)) = true then some (ts.any fun z => eqt z x) else none
  | .tup ts => if (okd x && okd (.tup ts)) = true then some (ts.any fun z => eqt z x) else none
  | .str z => match x with
    | .str [c] => some (decide (c ∈ z))
    | _ => none
  | _ => none
def inT (S : Sto) (x y : T) : Option T := (inQ S x y).map .bl
def ninT (S : Sto) (x y : T) : Option T := (inQ S x y).map fun b => .bl (!b)
theorem any_dats (x : T) : ∀ ts : List T, plains ts = true → plain x = true → ((dats ts).any fun y => PyData.eqv y (dat x)) = ts.any fun z => eqt z x
  | [], _, _ => rfl
  | t :: ts, h, hx => by
    simp only [plains, Bool.and_eq_true] at h
    simp only [dats, List.any_cons]
    rw [eqt_dat t x h.1 hx, any_dats x ts h.2 hx]
theorem in_listQ (hu : X.A.units + 65 < cLine) {pins : List (Addr × Obj)} {s : Shared} {σ : L2.St} {H : Hp} {x y : V} {v u : Value} {dx : PyData} {ds : List PyData} {b : Bool} (I : Inv X pins σ H s) (rx : RelV x v) (ry : RelV y u) (hx : Dp X.K H x dx) (hy : Dp X.K H y (.list ds) ∨ Dp X.K H y (.tuple ds))
    (h1 : PyData.canLayAll0 ds = true) (h2 : SeqAt.shaped dx = true) (e : (ds.any fun y => PyData.eqv y dx) = b) {E : Value → Shared → Prop} {Q : Value → Shared → Prop} :
    (Q (.bool b) s → wpAny (model X.prog X.w) X.A (compareOp .In v u) Q E s) ∧ (Q (.bool (!b)) s → wpAny (model X.prog X.w) X.A (compareOp .NotIn v u) Q E s) := by
  obtain ⟨as, r1⟩ := Dp.reads I _ _ _ hx rx
  have rm : X.A.units + 1 + min (PyData.depthAll ds) dx.depth < cLine := PyProof.Rows.room_in_shaped h2 hu
  have l2 := SeqAt.canLay_of_shaped h2
  rcases hy with hy | hy
  · obtain ⟨bs, r2⟩ := Dp.reads I _ _ _ hy ry
    exact ⟨fun q => SeqAt.in_list_reads r2 r1 h1 l2 rm (by rw [e]; exact q), fun q => SeqAt.notIn_list_reads r2 r1 h1 l2 rm (by rw [e]; exact q)⟩
  · obtain ⟨bs, r2⟩ := Dp.reads I _ _ _ hy ry
    exact ⟨fun q => SeqAt.in_tuple_reads r2 r1 h1 l2 rm (by rw [e]; exact q), fun q => SeqAt.notIn_tuple_reads r2 r1 h1 l2 rm (by rw [e]; exact q)⟩
theorem sg_mem (c : Sg) (z : List Sg) : decide (c.val ∈ (txt z).cps.toList) = decide (c ∈ z) := by
  apply decide_eq_decide.mpr
  rw [txt_list]
  constructor
  · intro h
    obtain ⟨d, hd, e⟩ := List.mem_map.mp h
    rw [← Fin.ext e]
    exact hd
  · exact fun h => List.mem_map.mpr ⟨c, h, rfl⟩
theorem inQ_run (hu : X.A.units + 65 < cLine) {pins : List (Addr × Obj)} {s : Shared} {σ : L2.St} {H : Hp} {S : Sto} {M : Addr → Prop} {x y : V} {tx ty : T} {v u : Value} {b : Bool} (I : Inv X pins σ H s) (rx : RelV x v) (ry : RelV y u) (o : StoOk (gdOf X M) H S)
    (hx : Rep (gdOf X M) H S tx x) (hy : Rep (gdOf X M) H S ty y) (e : inQ S tx ty = some b) {Q : VK} :
    (Q (.bl b) H → wpAny (model X.prog X.w) X.A (compareOp .In v u) (EP X pins σ Q) X.xe s) ∧ (Q (.bl (!b)) H → wpAny (model X.prog X.w) X.A (compareOp .NotIn v u) (EP X pins σ Q) X.xe s) := by
  have ep : ∀ {b : Bool}, Q (.bl b) H → EP X pins σ Q (.bool b) s := fun q => ⟨.bl _, H, I, rfl, q⟩
  have hr := res_dp o hy
  unfold inQ at e
  split at e
  · rename_i ts hts
    rw [hts] at hr
    split at e
    · rename_i c
      obtain ⟨c1, c2⟩ := Bool.and_eq_true_iff.mp c
      obtain rfl := Option.some.inj e
      have k := in_listQ (Q := EP X pins σ Q) (E := X.xe) hu I rx ry (Rep.dp _ _ hx (okd_plain c1)) (.inl (hr (okd_plain c2))) (lays_dat ts (okd_plain c2)) (okd_shaped c1) (any_dats tx ts (okd_plain c2) (okd_plain c1))
      exact ⟨fun q => k.1 (ep q), fun q => k.2 (ep q)⟩
    · cases e
  · rename_i ts hts
    rw [hts] at hr
    split at e
    · rename_i c
      obtain ⟨c1, c2⟩ := Bool.and_eq_true_iff.mp c
      obtain rfl := Option.some.inj e
      have k := in_listQ (Q := EP X pins σ Q) (E := X.xe) hu I rx ry (Rep.dp _ _ hx (okd_plain c1)) (.inr (hr (okd_plain c2))) (lays_dat ts (okd_plain c2)) (okd_shaped c1) (any_dats tx ts (okd_plain c2) (okd_plain c1))
      exact ⟨fun q => k.1 (ep q), fun q => k.2 (ep q)⟩
    · cases e
  · rename_i z hz
    split at e
    · rename_i c
      obtain rfl := Option.some.inj e
      cases hx
      have hty : ty = .str z := by
        cases ty with
        | ref a =>
          cases q : S a with
          | none => simp [res, q] at hz
          | some c => cases c <;> simp [res, q] at hz
        | _ => exact hz
      subst hty
      cases hy
      rw [← sg_mem]
      exact ⟨fun q => op_in_sign pins s σ H _ _ v u Q I rx ry ⟨c.val, txt z, rfl, rfl, q⟩, fun q => op_notIn_sign pins s σ H _ _ v u Q I rx ry ⟨c.val, txt z, rfl, rfl, q⟩⟩
    · cases e
  · cases e
theorem op_inT (hu : X.A.units + 65 < cLine) : OpT X (compareOp .In) inT := by
  intro pins s σ H x y v u Q I rx ry h
  obtain ⟨M, S, tx, ty, t, o, hx, hy, e, fin⟩ := h
  obtain ⟨b, hb, rfl⟩ := Option.map_eq_some_iff.mp e
  exact (inQ_run hu I rx ry o hx hy hb).1 (fin _ H o Ext.refl (.bl _))
theorem op_ninT (hu : X.A.units + 65 < cLine) : OpT X (compareOp .NotIn) ninT := by
  intro pins s σ H x y v u Q I rx ry h
  obtain ⟨M, S, tx, ty, t, o, hx, hy, e, fin⟩ := h
  obtain ⟨b, hb, rfl⟩ := Option.map_eq_some_iff.mp e
  exact (inQ_run hu I rx ry o hx hy hb).2 (fin _ H o Ext.refl (.bl _))
end
end TL
namespace TL
open PySem PySem.Spec PyProof.Rows L2
section
variable {X : Cx}
def addT (S : Sto) (x y : T) : Option T := match res S x, res S y with
  | .int i, .int j => some (.int (i + j))
  | .str a, .str b => if a.length + b.length ≤ sizeLine then some (.str (a ++ b)) else none
  | .tup a, .tup b => if a.length + b.length ≤ sizeLine then some (.tup (a ++ b)) else none
  | .lst a, .lst b => if a.length + b.length ≤ sizeLine then some (.lst (a ++ b)) else none
  | _, _ => none
/-- a value that is a list, frozen or a cell -/
theorem res_lst {G : Gd} {H : Hp} {S : Sto} {t : T} {v : V} {ts : List T} (o : StoOk G H S) (r : Rep G H S t v) (e : res S t = .lst ts) : ∃ a xs, v = .ref a ∧ H a = some (.lst xs) ∧ Reps G H S ts xs := by
  cases t with
  | ref a =>
    cases r
    cases q : S a with
    | none => simp [res, q] at e
    | some c =>
      cases c with
      | lst us =>
        simp only [res, q] at e
        cases e
        obtain ⟨xs, h1, h2⟩ := o.at_ a _ q
        exact ⟨a, xs, rfl, h1, h2⟩
      | dct _ _ _ => simp [res, q] at e
      | ins _ _ _ => simp [res, q] at e
  | lst us =>
    cases e
    cases r with
    | lst h1 h2 => exact ⟨_, _, rfl, h1.1, h2⟩
  | _ => cases e
theorem res_id {S : Sto} {t u : T} (e : res S t = u) (h : ∀ ts, u ≠ .lst ts) : t = u := by
  cases t with
  | ref a =>
    cases q : S a with
    | none => simpa [res, q] using e
    | some c =>
      cases c with
      | lst us => simp only [res, q] at e; exact absurd e.symm (h us)
      | dct _ _ _ => simpa [res, q] using e
      | ins _ _ _ => simpa [res, q] using e
  | _ => exact e
theorem op_addT : OpT X (binaryOp .Add) addT := by
  intro pins s σ H x y v u Q I rx ry h
  obtain ⟨M, S, tx, ty, t, o, hx, hy, e, fin⟩ := h
  unfold addT at e
  split at e
  · rename_i i j h1 h2
    obtain rfl := res_id h1 fun _ z => nomatch z
    obtain rfl := res_id h2 fun _ z => nomatch z
    obtain rfl := Option.some.inj e
    cases hx
    cases hy
    exact op_add pins s σ H _ _ v u Q I rx ry ⟨i, j, rfl, rfl, fin _ H o Ext.refl (.int _)⟩
  · rename_i a b h1 h2
    obtain rfl := res_id h1 fun _ z => nomatch z
    obtain rfl := res_id h2 fun _ z => nomatch z
    split at e
    · rename_i hz
      obtain rfl := Option.some.inj e
      cases hx
      cases hy
      refine op_add_str pins s σ H _ _ v u Q I rx ry ⟨txt a, txt b, rfl, rfl, by rw [txt_len, txt_len]; exact hz, ?_⟩
      rw [← txt_app]
      exact fin _ H o Ext.refl (.str _)
    · cases e
  · rename_i a b h1 h2
    obtain rfl := res_id h1 fun _ z => nomatch z
    obtain rfl := res_id h2 fun _ z => nomatch z
    split at e
    · rename_i hz
      obtain rfl := Option.some.inj e
      cases hx with
      | tup a1 a2 =>
        cases hy with
        | tup b1 b2 =>
          have l1 := a2.length
          have l2 := b2.length
          refine op_catF pins s σ H _ _ v u Q I rx ry ⟨_, _, _, _, rfl, rfl, a1.sq, b1.sq, by omega, fun z => ?_, fun _ z => ?_, fun _ _ p ob n nd => ?_⟩
          · subst z
            cases a2
            exact fin _ H o Ext.refl (.tup b1 b2)
          · subst z
            cases b2
            refine fin _ H o Ext.refl ?_
            rw [List.append_nil]
            exact .tup a1 a2
          · exact fin _ _ (o.new n) (Ext.new n) (.tup (.inl ⟨ob, ⟨upd_same, nd⟩, o.free n, o.nom n⟩) (Reps.ext (Ext.new n) _ _ (a2.append b2)))
    · cases e
  · rename_i a b h1 h2
    split at e
    · rename_i hz
      obtain rfl := Option.some.inj e
      obtain ⟨p1, xs, rfl, q1, r1⟩ := res_lst o hx h1
      obtain ⟨p2, ys, rfl, q2, r2⟩ := res_lst o hy h2
      have l1 := r1.length
      have l2 := r2.length
      refine op_cat pins s σ H _ _ v u Q I rx ry ⟨p1, p2, xs, ys, rfl, rfl, q1, q2, by omega, fun p n => ?_⟩
      exact fin _ _ (o.new n) (Ext.new n) (.lst ⟨upd_same, o.free n, o.nom n⟩ (Reps.ext (Ext.new n) _ _ (r1.append r2)))
    · cases e
  · cases e
def i2 (c : Int → Int → Bool) (f : Int → Int → T) (_ : Sto) (x y : T) : Option T := match x, y with
  | .int i, .int j => if c i j = true then some (f i j) else none
  | _, _ => none
theorem op_i2 {f : Value → Value → Sem Value} {c : Int → Int → Bool} {C : Int → Int → Prop} {g : Int → Int → V} {gt : Int → Int → T} (h : OpR X f (rI C g)) (hc : ∀ i j, c i j = true → C i j) (hg : ∀ G H S i j, Rep G H S (gt i j) (g i j)) : OpT X f (i2 c gt) := by
  intro pins s σ H x y v u Q I rx ry h'
  obtain ⟨M, S, tx, ty, t, o, hx, hy, e, fin⟩ := h'
  unfold i2 at e
  split at e
  · rename_i i j
    split at e
    · rename_i hij
      obtain rfl := Option.some.inj e
      cases hx
      cases hy
      exact h pins s σ H _ _ v u Q I rx ry ⟨i, j, rfl, rfl, hc _ _ hij, fin _ H o Ext.refl (hg _ _ _ _ _)⟩
    · cases e
  · cases e
theorem rI_of {f : Value → Value → Sem Value} {g : Int → Int → V} (h : OpR X f (rI0 g)) : OpR X f (rI (fun _ _ => True) g) := fun pins s σ H x y v u Q I rx ry ⟨i, j, e1, e2, _, q⟩ => h pins s σ H x y v u Q I rx ry ⟨i, j, e1, e2, q⟩
def tt2 (_ _ : Int) : Bool := true
def subT := i2 tt2 fun i j => .int (i - j)
def mulI (i j : Int) : Bool := decide (i.natAbs.log2 + j.natAbs.log2 < 1000000)
def divI (_ j : Int) : Bool := decide (j ≠ 0) && decide (j.natAbs.log2 < 9000)
def fdivT := i2 divI fun i j => .int (i.fdiv j)
def modI (_ j : Int) : Bool := decide (j ≠ 0)
def modT := i2 modI fun i j => .int (i.fmod j)
def powI (i j : Int) : Bool := decide (0 ≤ j) && (decide (j ≤ 1000000) && decide (i.natAbs < 2 ^ 64))
def powT := i2 powI fun i j => .int (i ^ j.toNat)
theorem op_subT : OpT X (binaryOp .Sub) subT := op_i2 (rI_of op_sub) (fun _ _ _ => trivial) fun _ _ _ _ _ => .int _
theorem op_fdivG : OpR X (binaryOp .FloorDiv) (rI (fun _ j => j ≠ 0 ∧ j.natAbs.log2 < 9000) fun i j => .int (i.fdiv j)) := opI fun _ _ _ _ _ _ _ hc q => floordiv_int hc.1 q (.inl (PyProof.noPylong_of_log2 hc.2))
theorem op_fdivT : OpT X (binaryOp .FloorDiv) fdivT := op_i2 op_fdivG (fun _ _ h => by simp only [divI, Bool.and_eq_true, decide_eq_true_eq] at h; exact h) fun _ _ _ _ _ => .int _
theorem op_modT : OpT X (binaryOp .Mod) modT := op_i2 op_modN (fun _ _ h => of_decide_eq_true h) fun _ _ _ _ _ => .int _
theorem op_powT : OpT X (binaryOp .Pow) powT := op_i2 op_pow (fun _ _ h => by simp only [powI, Bool.and_eq_true, decide_eq_true_eq] at h; exact ⟨h.1, h.2.1, h.2.2⟩) fun _ _ _ _ _ => .int _
def negT (_ : Sto) : T → Option T
  | .int i => some (.int (-i))
  | _ => none
theorem op_negT : UnT X (unaryOp .USub) negT := by
  intro pins s σ H x v Q I rx h
  obtain ⟨M, S, tx, t, o, hx, e, fin⟩ := h
  cases tx <;> first | cases e; done | skip
  rename_i i
  obtain rfl := Option.some.inj e
  cases hx
  exact un_neg pins s σ H _ v Q I rx ⟨i, rfl, fin _ H o Ext.refl (.int _)⟩
def isT (_ : Sto) (x y : T) : Option T := match y, x with
  | .non, .ref _ => some (.bl false)
  | .non, .non => some (.bl true)
  | .non, _ => some (.bl false)
  | _, _ => none
theorem rep_non {G : Gd} {H : Hp} {S : Sto} {t : T} {v : V} (r : Rep G H S t v) : decide (v = .non) = (match t with | .non => true | _ => false) := by
  cases r <;> first | rfl | exact decide_eq_false (fun z => nomatch z)
def isnT (S : Sto) (x y : T) : Option T := match isT S x y with
  | some (.bl b) => some (.bl (!b))
  | _ => none
theorem op_isnT : OpT X (compareOp .IsNot) isnT := by
  intro pins s σ H x y v u Q I rx ry h
  obtain ⟨M, S, tx, ty, t, o, hx, hy, e, fin⟩ := h
  cases ty <;> first | (simp [isnT, isT] at e; done) | skip
  cases hy
  refine op_notN pins s σ H _ _ v u Q I rx ry ⟨rfl, ?_⟩
  rw [rep_non hx]
  cases tx <;> (obtain rfl := Option.some.inj e; exact fin _ H o Ext.refl (.bl _))

theorem Reps.atI {G : Gd} {H : Hp} {S : Sto} {ts : List T} {vs : List V} {i : Int} {t : T} (r : Reps G H S ts vs) (e : L2.atI ts i = some t) : ∃ v, L2.atI vs i = some v ∧ Rep G H S t v := by
  unfold L2.atI at e ⊢
  rw [← r.length]
  cases q : ixN ts.length i with
  | none => rw [q] at e; cases e
  | some j =>
    rw [q] at e
    exact r.get e
def ixT (S : Sto) (x y : T) : Option T := match res S x, y with
  | .lst ts, .int i => L2.atI ts i
  | .tup ts, .int i => L2.atI ts i
  | .str z, .int i => if z.length ≤ sizeLine then (L2.atI z i).map fun c => .str [c] else none
  | _, _ => none
theorem atI_map {α β : Type} (f : α → β) (xs : List α) (i : Int) : L2.atI (xs.map f) i = (L2.atI xs i).map f := by
  unfold L2.atI
  rw [List.length_map]
  cases ixN xs.length i with
  | none => rfl
  | some j => simp
variable {a b : Expr} {ta tb : TTE} {pos : Pos}
theorem te_ix (ha : TE X a ta) (hb : TE X b tb) (hs : PlainIx b := by intro _ _; rfl) : TE X (.Subscript a b pos) (cOp ixT ta tb) := fun M S0 H0 E tk =>
  (pe_ix ix_seq (ha M S0 H0 E tk) (hb M S0 H0 E tk) hs).weak fun σ H Q h => two (fun x y H Q ⟨M, S, tx, ty, t, o, hx, hy, e, fin⟩ => by
    unfold ixT at e
    split at e
    · rename_i ts i h1
      obtain ⟨p, xs, rfl, q1, r1⟩ := res_lst o hx h1
      cases hy
      obtain ⟨w, hw, rw_⟩ := r1.atI e
      exact .inl ⟨p, xs, i, w, rfl, rfl, SqL.of q1, hw, fin _ H o Ext.refl rw_⟩
    · rename_i ts i h1
      obtain rfl := res_id h1 fun _ z => nomatch z
      cases hx with
      | tup a1 a2 =>
        cases hy
        obtain ⟨w, hw, rw_⟩ := a2.atI e
        exact .inr (.inl ⟨_, _, i, w, rfl, rfl, a1.sq, hw, fin _ H o Ext.refl rw_⟩)
    · rename_i z i h1
      obtain rfl := res_id h1 fun _ z => nomatch z
      cases hx
      cases hy
      split at e
      · rename_i hz
        obtain ⟨c, hc, rfl⟩ := Option.map_eq_some_iff.mp e
        exact .inr (.inr ⟨txt z, i, c.val, rfl, rfl, by rw [txt_len]; exact hz, by rw [txt_list, atI_map, hc]; rfl, fin (.str (txt [c])) H o Ext.refl (.str [c])⟩)
      · cases e
    · cases e) h
def cutT {α : Type} (xs : List α) (lo hi : Option Int) : List α := (xs.drop (HT.sIx xs.length 0 lo)).take (HT.sIx xs.length xs.length hi - HT.sIx xs.length 0 lo)
theorem Reps.cut {G : Gd} {H : Hp} {S : Sto} {ts : List T} {vs : List V} (r : Reps G H S ts vs) (lo hi : Option Int) : Reps G H S (cutT ts lo hi) (cutV vs lo hi) := by
  unfold cutT cutV
  rw [r.length]
  exact (r.drop _).take _
theorem reps_ints {G : Gd} {H : Hp} {S : Sto} : ∀ ms : List Int, Reps G H S (ms.map T.int) (ms.map V.int)
  | [] => .nil
  | m :: ms => .cons (.int m) (reps_ints ms)
def slT (S : Sto) (x : T) (lo hi : Option Int) : Option T := match res S x with
  | .lst ts => some (.lst (cutT ts lo hi))
  | .tup ts => some (.tup (cutT ts lo hi))
  | .str z => if z.length ≤ sizeLine then some (.str (cutT z lo hi)) else none
  | .scr ns => some (.lst ((cutT ns lo hi).map T.int))
  | _ => none
abbrev TTO := TEnv → Sto → (Option Int → Sto → Prop) → (T → Sto → Prop) → Prop
def oNo : TTO := fun _ S Q _ => Q none S
def oSome (e : TTE) : TTO := fun τ S Q E => e τ S (fun x S1 => ∃ i, x = .int i ∧ Q (some i) S1) E
def cSl (e : TTE) (lo hi : TTO) : TTE := fun τ S Q E => e τ S (fun x S1 => lo τ S1 (fun l S2 => hi τ S2 (fun u S3 => ∃ z, slT S3 x l u = some z ∧ Q z S3) E) E) E
def LO (X : Cx) (M : Addr → Prop) (S0 : Sto) (H0 : Hp) (t : TTO) (E : T → TEnv → Sto → Prop) : TO := fun σ H Q => ∃ τ S Qt, Rel (gdOf X M) S0 H0 σ H τ S ∧ t τ S Qt (fun x S' => E x τ S') ∧
  ∀ i S' H', Qt i S' → StoOk (gdOf X M) H' S' → Ext S H S' H' → Q i H'
def TOp (X : Cx) (e : Option Expr) (t : TTO) : Prop := ∀ M S0 H0 E, Takes X (wOf X M S0 H0 E) → PO X e (LO X M S0 H0 t E)
theorem to_no : TOp X none oNo := fun M S0 H0 E tk => ⟨fun pins s σ H Q I ⟨τ, S, Qt, rel, h, k⟩ => po_none.run pins s σ H Q I (k none S H h rel.sto Ext.refl)⟩
theorem to_some {e : Expr} {te : TTE} (h : TE X e te) : TOp X (some e) (oSome te) := fun M S0 H0 E tk => ⟨fun pins s σ H Q I ⟨τ, S, Qt, rel, q, k⟩ => (po_some (h M S0 H0 E tk)).run pins s σ H Q I
  ⟨τ, S, _, rel, q, fun z S1 v H1 ⟨i, e, hq⟩ o1 x1 r1 => by
    subst e
    cases r1
    exact ⟨i, rfl, k _ S1 H1 hq o1 x1⟩⟩⟩
theorem txt_cut (z : List Sg) (lo hi : Option Int) : cutS (txt z) lo hi = txt (cutT z lo hi) := by
  unfold cutS cutT txt
  show (⟨_⟩ : Str) = _
  congr 1
  have l : (Str.mk (z.map (·.val)).toArray).length = z.length := txt_len z
  rw [l]
  simp [List.map_drop, List.map_take]
theorem te_slice {e : Expr} {lo hi : Option Expr} {te : TTE} {tl th : TTO} {p2 : Pos} (he : TE X e te) (hl : TOp X lo tl) (hh : TOp X hi th) : TE X (.Subscript e (.Slice lo hi none p2) pos) (cSl te tl th) := fun M S0 H0 E tk =>
  (pe_slice (sl_list.or (sl_tupF.or sl_str)) (he M S0 H0 E tk) (hl M S0 H0 E tk) (hh M S0 H0 E tk)).weak fun σ H Q ⟨τ, S, Qt, rel, h, k⟩ => ⟨τ, S, _, rel, h, fun z S1 v H1 h1 o1 x1 r1 =>
    ⟨τ, S1, _, rel.step o1 x1, h1, fun l S2 H2 h2 o2 x2 => ⟨τ, S2, _, (rel.step o1 x1).step o2 x2, h2, fun u S3 H3 h3 o3 x3 => by
      obtain ⟨w, e, hq⟩ := h3
      have r3 := Rep.ext (x2.trans x3) _ _ r1
      have fin := fun v H' o4 x4 r4 => k w S3 v H' hq o4 (((x1.trans x2).trans x3).trans x4) r4
      unfold slT at e
      split at e
      · rename_i ts h1
        obtain rfl := Option.some.inj e
        obtain ⟨p, xs, rfl, q1, r1⟩ := res_lst o3 r3 h1
        exact .inl ⟨p, xs, rfl, SqL.of q1, fun p n => fin _ _ (o3.new n) (Ext.new n) (.lst ⟨upd_same, o3.free n, o3.nom n⟩ (Reps.ext (Ext.new n) _ _ (r1.cut l u)))⟩
      · rename_i ts h1
        obtain rfl := Option.some.inj e
        obtain rfl := res_id h1 fun _ z => nomatch z
        cases r3 with
        | tup a1 a2 =>
          refine .inr (.inl ⟨_, _, rfl, a1.sq, fun hw => ?_, fun _ p ob n nd => ?_⟩)
          · refine fin _ _ o3 Ext.refl ?_
            have e2 : cutT ts l u = ts := by
              unfold cutT
              rw [a2.length, hw.1, hw.2]
              simp [← a2.length]
            rw [e2]
            exact .tup a1 a2
          · exact fin _ _ (o3.new n) (Ext.new n) (.tup (.inl ⟨ob, ⟨upd_same, nd⟩, o3.free n, o3.nom n⟩) (Reps.ext (Ext.new n) _ _ (a2.cut l u)))
      · rename_i y h1
        obtain rfl := res_id h1 fun _ z => nomatch z
        split at e
        · rename_i hz
          obtain rfl := Option.some.inj e
          cases r3
          exact .inr (.inr ⟨txt y, rfl, by rw [txt_len]; exact hz, by rw [txt_cut]; exact fin _ _ o3 Ext.refl (.str _)⟩)
        · cases e
      · rename_i ns h1
        obtain rfl := res_id h1 fun _ z => nomatch z
        obtain rfl := Option.some.inj e
        cases r3 with
        | scr a1 =>
          refine .inl ⟨_, _, rfl, a1.sq, fun p n => fin _ _ (o3.new n) (Ext.new n) (.lst ⟨upd_same, o3.free n, o3.nom n⟩ ?_)⟩
          have : cutV (ns.map V.int) l u = (cutT ns l u).map V.int := by
            unfold cutV cutT
            rw [List.length_map]
            simp [List.map_drop, List.map_take]
          rw [this]
          exact reps_ints _
      · cases e⟩⟩⟩
end
end TL
namespace TL
open PySem PySem.Spec PyProof.Rows L2
section
variable {X : Cx} {x : Str} {p pos : Pos} {e : Expr} {es : List Expr} {ta : TTA} {bid Ty : String}
def CallT (X : Cx) (f : Value) (g : Sto → List T → Option T) : Prop := CallR X f fun xs H Q => ∃ M S ts t, StoOk (gdOf X M) H S ∧ Reps (gdOf X M) H S ts xs ∧ g S ts = some t ∧ ∀ v H', StoOk (gdOf X M) H' S → Ext S H S H' → Rep (gdOf X M) H' S t v → Q v H'
def cFn (g : Sto → List T → Option T) (a : TTA) : TTE := fun τ S Q E => a τ S (fun ts S1 => ∃ t, g S1 ts = some t ∧ Q t S1) E
theorem te_fnB {g : Sto → List T → Option T} (hc : CallT X (.builtin bid) g) (hg : Gl X x) (hm : X.mg x = none) (hv : bootBuiltins x = some (.builtin bid)) (ha : TA X (e :: es) ta) (hn : x ≠ "__name__" := by decide) (hdb : (x == ("__debug__" : Str)) = false := by decide)
    (he : starEach (e :: es) X.env = (false, eval e X.env) :: starEach es X.env := by rfl) (hpl : (backTo pos (starEach es X.env)).any (·.1) = false := by rfl) : TE X (.Call (.Name x p) (e :: es) [] pos) (cFn g ta) := fun M S0 H0 E tk =>
  (pe_callB hc hg hm hv (ha M S0 H0 E tk) hn hdb he hpl).weak fun σ H Q ⟨τ, S, Qt, rel, q, k⟩ => ⟨τ, S, _, rel, q, fun ts S1 vs H1 ⟨t, e, hq⟩ o1 x1 r1 => ⟨M, S1, ts, t, o1, r1, e, fun v H' o2 x2 r2 => k t S1 v H' hq o2 (x1.trans x2) r2⟩⟩
theorem te_fnT {g : Sto → List T → Option T} (hc : CallT X (.type Ty) g) (hg : Gl X x) (hm : X.mg x = none) (hv : bootBuiltins x = some (.type Ty)) (ha : TA X (e :: es) ta) (hn : x ≠ "__name__" := by decide) (hdb : (x == ("__debug__" : Str)) = false := by decide)
    (he : starEach (e :: es) X.env = (false, eval e X.env) :: starEach es X.env := by rfl) (hpl : (backTo pos (starEach es X.env)).any (·.1) = false := by rfl) : TE X (.Call (.Name x p) (e :: es) [] pos) (cFn g ta) := fun M S0 H0 E tk =>
  (pe_callTy hc hg hm hv (ha M S0 H0 E tk) hn hdb he hpl).weak fun σ H Q ⟨τ, S, Qt, rel, q, k⟩ => ⟨τ, S, _, rel, q, fun ts S1 vs H1 ⟨t, e, hq⟩ o1 x1 r1 => ⟨M, S1, ts, t, o1, r1, e, fun v H' o2 x2 r2 => k t S1 v H' hq o2 (x1.trans x2) r2⟩⟩
theorem Reps.one {G : Gd} {H : Hp} {S : Sto} {t : T} {vs : List V} (r : Reps G H S [t] vs) : ∃ v, vs = [v] ∧ Rep G H S t v := by
  cases r with
  | cons a b => cases b; exact ⟨_, rfl, a⟩
theorem Reps.twos {G : Gd} {H : Hp} {S : Sto} {t u : T} {vs : List V} (r : Reps G H S [t, u] vs) : ∃ v w, vs = [v, w] ∧ Rep G H S t v ∧ Rep G H S u w := by
  cases r with
  | cons a b => cases b with
    | cons b c => cases c; exact ⟨_, _, rfl, a, b⟩
def lenF (S : Sto) : List T → Option T
  | [t] => match res S t with
    | .lst ts => some (.int ts.length)
    | .tup ts => some (.int ts.length)
    | .str z => if z.length ≤ sizeLine then some (.int z.length) else none
    | _ => none
  | _ => none
theorem fn_len : CallT X (.builtin "len") lenF := by
  intro pins s σ H xs us Q I r h
  obtain ⟨M, S, ts, t, o, rs, e, fin⟩ := h
  unfold lenF at e
  split at e
  · rename_i y
    obtain ⟨v, rfl, ry⟩ := rs.one
    split at e
    · rename_i zs hz
      obtain rfl := Option.some.inj e
      obtain ⟨a, ws, rfl, h1, h2⟩ := res_lst o ry hz
      exact call_len pins s σ H _ us Q I r ⟨_, _, rfl, .inl ⟨ws, SqL.of h1, rfl⟩, by rw [← h2.length]; exact fin _ H o Ext.refl (.int _)⟩
    · rename_i zs hz
      obtain rfl := Option.some.inj e
      obtain rfl := res_id hz fun _ z => nomatch z
      cases ry with
      | tup h1 h2 => exact call_len pins s σ H _ us Q I r ⟨_, _, rfl, .inr ⟨_, h1.sq, rfl⟩, by rw [← h2.length]; exact fin _ H o Ext.refl (.int _)⟩
    · rename_i z hz
      obtain rfl := res_id hz fun _ z => nomatch z
      split at e
      · rename_i hl
        obtain rfl := Option.some.inj e
        cases ry
        exact call_len pins s σ H _ us Q I r ⟨_, _, rfl, ⟨by rw [txt_len]; exact hl, rfl⟩, by rw [txt_len]; exact fin _ H o Ext.refl (.int _)⟩
      · cases e
    · cases e
  · cases e
def absF (_ : Sto) : List T → Option T
  | [.int i] => some (.int (if i < 0 then -i else i))
  | _ => none
theorem fn_abs : CallT X (.builtin "abs") absF := by
  intro pins s σ H xs us Q I r h
  obtain ⟨M, S, ts, t, o, rs, e, fin⟩ := h
  unfold absF at e
  split at e
  · rename_i i
    obtain rfl := Option.some.inj e
    obtain ⟨v, rfl, ry⟩ := rs.one
    cases ry
    exact call_abs pins s σ H _ us Q I r ⟨i, rfl, fin _ H o Ext.refl (.int _)⟩
  · cases e
def intF (_ : Sto) : List T → Option T
  | [.int i] => some (.int i)
  | [.bl b] => some (.int (if b then 1 else 0))
  | _ => none
def tupleF (S : Sto) : List T → Option T
  | [t] => match res S t with
    | .lst ts => some (.tup ts)
    | .tup ts => some (.tup ts)
    | _ => none
  | _ => none
theorem fn_tuple : CallT X (.type "tuple") tupleF := by
  intro pins s σ H xs us Q I r h
  obtain ⟨M, S, ts, t, o, rs, e, fin⟩ := h
  unfold tupleF at e
  split at e
  · obtain ⟨v, rfl, ry⟩ := rs.one
    split at e
    · rename_i zs hz
      obtain rfl := Option.some.inj e
      obtain ⟨a, ws, rfl, h1, h2⟩ := res_lst o ry hz
      exact call_tupleF pins s σ H _ us Q I r ⟨a, ws, rfl, .inl ⟨SqL.of h1, fun l ob n nd => fin _ _ (o.new n) (Ext.new n) (.tup (.inl ⟨ob, ⟨upd_same, nd⟩, o.free n, o.nom n⟩) (Reps.ext (Ext.new n) _ _ h2))⟩⟩
    · rename_i zs hz
      obtain rfl := Option.some.inj e
      obtain rfl := res_id hz fun _ z => nomatch z
      cases ry with
      | tup h1 h2 => exact call_tupleF pins s σ H _ us Q I r ⟨_, _, rfl, .inr ⟨h1.sq, fin _ _ o Ext.refl (.tup h1 h2)⟩⟩
    · cases e
  · cases e
def listF (S : Sto) : List T → Option T
  | [t] => match res S t with
    | .lst ts => some (.lst ts)
    | .tup ts => some (.lst ts)
    | _ => none
  | _ => none
/-- a row of truths -/
def blsOf : List T → Option (List Bool)
  | [] => some []
  | .bl b :: ts => (blsOf ts).map (b :: ·)
  | _ :: _ => none
theorem blsOf_reps {G : Gd} {H : Hp} {S : Sto} : ∀ {ts : List T} {bs : List Bool} {vs : List V}, blsOf ts = some bs → Reps G H S ts vs → vs = bs.map V.bl
  | [], bs, vs, e, r => by
    cases r
    obtain rfl := Option.some.inj e
    rfl
  | t :: ts, bs, vs, e, r => by
    cases r with
    | cons a b =>
      cases t with
      | bl c =>
        obtain ⟨cs, h1, rfl⟩ := Option.map_eq_some_iff.mp (show (blsOf ts).map (c :: ·) = some bs from e)
        cases a
        rw [blsOf_reps h1 b]
        rfl
      | _ => cases e
def allF (S : Sto) : List T → Option T
  | [t] => match res S t with
    | .lst ts => (blsOf ts).map fun bs => .bl (bs.all id)
    | _ => none
  | _ => none
theorem fn_all (hc : X.calm = true) : CallT X (.builtin "all") allF := by
  intro pins s σ H xs us Q I r h
  obtain ⟨M, S, ts, t, o, rs, e, fin⟩ := h
  unfold allF at e
  split at e
  · obtain ⟨v, rfl, ry⟩ := rs.one
    split at e
    · rename_i zs hz
      obtain ⟨bs, hb, rfl⟩ := Option.map_eq_some_iff.mp e
      obtain ⟨a, ws, rfl, h1, h2⟩ := res_lst o ry hz
      have hw := blsOf_reps hb h2
      subst hw
      exact cr_all hc pins s σ H _ us Q I r ⟨a, bs, rfl, SqL.of h1, fin _ _ o Ext.refl (.bl _)⟩
    · cases e
  · cases e
def max2F (_ : Sto) : List T → Option T
  | [.int i, .int j] => some (.int (if j > i then j else i))
  | _ => none
def min2F (_ : Sto) : List T → Option T
  | [.int i, .int j] => some (.int (if j < i then j else i))
  | _ => none
theorem fn_max2 (hc : X.calm = true) : CallT X (.builtin "max") max2F := by
  intro pins s σ H xs us Q I r h
  obtain ⟨M, S, ts, t, o, rs, e, fin⟩ := h
  unfold max2F at e
  split at e
  · rename_i i j
    obtain rfl := Option.some.inj e
    obtain ⟨v, w, rfl, r1, r2⟩ := rs.twos
    cases r1
    cases r2
    exact call_max2 hc pins s σ H _ us Q I r ⟨i, j, rfl, fin _ _ o Ext.refl (.int _)⟩
  · cases e
def leT' (x y : T) : Bool := !ltt y x
/-- all alike, and of tuples with something in them, or of none -/
def sortOk (ts : List T) : Bool := ts.all (fun x => okd x && ts.all fun y => alk x y) && (ts.all (fun x => match x with | .tup (_ :: _) => true | _ => false) || ts.all fun x => match x with | .tup _ => false | .non => false | _ => true)
theorem sortOk_of {ts : List T} (h : sortOk ts = true) : (∀ x ∈ ts, okd x = true) ∧ PySem.W.AllAlike (ts.map dat) ∧ PySem.W.Sortable (ts.map dat) ∧ ∀ x ∈ ts, ∀ y ∈ ts, PySem.W.dataLt (dat x) (dat y) = ltt x y := by
  simp only [sortOk, Bool.and_eq_true, Bool.or_eq_true, List.all_eq_true] at h
  obtain ⟨h1, h2⟩ := h
  have ok : ∀ x ∈ ts, okd x = true := fun x hx => (h1 x hx).1
  have al : ∀ x ∈ ts, ∀ y ∈ ts, alk x y = true := fun x hx y hy => (h1 x hx).2 y hy
  refine ⟨ok, fun d hd d' hd' => ?_, ?_, fun x hx y hy => ?_⟩
  · obtain ⟨x, hx, rfl⟩ := List.mem_map.mp hd
    obtain ⟨y, hy, rfl⟩ := List.mem_map.mp hd'
    rw [alk_dat x y (okd_plain (ok x hx)) (okd_plain (ok y hy))]
    exact al x hx y hy
  · rcases h2 with h2 | h2
    · refine .inl fun d hd => ?_
      obtain ⟨x, hx, rfl⟩ := List.mem_map.mp hd
      have := h2 x hx
      cases x with
      | tup l =>
        cases l with
        | nil => cases this
        | cons a b => exact ⟨_, _, rfl⟩
      | _ => cases this
    · refine .inr fun d hd => ?_
      obtain ⟨x, hx, rfl⟩ := List.mem_map.mp hd
      have := h2 x hx
      have pl := okd_plain (ok x hx)
      cases x <;> first | (cases this; done) | (cases pl; done) | exact ⟨(fun z => nomatch z), fun _ z => nomatch z⟩
  · by_cases hn : x = .non
    · subst hn
      have hyn := al _ hx y hy
      have hxx := h2
      cases y <;> first | (simp [alk] at hyn; done) | skip
      rcases h2 with h2 | h2
      · exact absurd (h2 _ hx) (by simp)
      · exact absurd (h2 _ hx) (by simp)
    · exact ltt_dat x y (okd_plain (ok x hx)) (okd_plain (ok y hy)) (al x hx y hy) hn
def sortedF (S : Sto) : List T → Option T
  | [t] => match res S t with
    | .lst ts => if (sortOk ts && decide (ts.length ≤ sizeLine)) = true then some (.lst (ts.mergeSort leT')) else none
    | .tup ts => if (sortOk ts && decide (ts.length ≤ sizeLine)) = true then some (.lst (ts.mergeSort leT')) else none
    | _ => none
  | _ => none
end
end TL
namespace TL
open PySem PySem.Spec PyProof.Rows L2
/-- values that lie as trees -/
abbrev VT (G : Gd) (H : Hp) (S : Sto) (u : Value) (t : T) : Prop := ∃ v, RelV v u ∧ Rep G H S t v
theorem eachVT {G : Gd} {H : Hp} {S : Sto} : ∀ {ts : List T} {vs : List V} {us : List Value}, Reps G H S ts vs → Vals vs us → PySem.W.EachIs (VT G H S) us ts
  | [], _, _, r, q => by cases r; cases q; exact .nil
  | _ :: _, _, _, r, q => by
    cases r with
    | cons a b => cases q with
      | cons c d => exact .cons ⟨_, c, a⟩ (eachVT b d)
theorem ofVT {G : Gd} {H : Hp} {S : Sto} : ∀ {ts : List T} {us : List Value}, PySem.W.EachIs (VT G H S) us ts → ∃ vs, Reps G H S ts vs ∧ Vals vs us
  | [], _, r => by cases r; exact ⟨[], .nil, .nil⟩
  | _ :: _, _, r => by
    cases r with
    | cons a b =>
      obtain ⟨v, h1, h2⟩ := a
      obtain ⟨vs, h3, h4⟩ := ofVT b
      exact ⟨v :: vs, .cons h2 h3, .cons h1 h4⟩
theorem mergeSort_leT (ts : List T) (h : ∀ x ∈ ts, ∀ y ∈ ts, PySem.W.dataLt (dat x) (dat y) = ltt x y) : ts.mergeSort (PySem.W.dataLe false dat) = ts.mergeSort leT' :=
  PySem.W.sort_congr fun a ha b hb => by
    rw [PySem.W.dataLe_eq]
    show (!PySem.W.dataLt (dat b) (dat a)) = !ltt b a
    rw [h b hb a ha]
section
variable {X : Cx} {pins : List (Addr × Obj)} {s : Shared} {σ : L2.St} {H : Hp} {S : Sto} {M : Addr → Prop} {Q : VK}
/-- sorted(src), src anything that is collected into trees -/
theorem sorted_via (hu : X.A.units + 70 < cLine) {src : Value} {Pt : List T → Prop} (o : StoOk (gdOf X M) H S)
    (hcol : ∀ (A : Around) (E : Value → Shared → Prop) (R : List Value → Shared → Prop), A.handled = X.A.handled → (∀ out s1 ts, Inv X pins σ H s1 → PySem.W.EachIs (VT (gdOf X M) H S) out ts → Pt ts → R out s1) → wpAny (model X.prog X.w) A (collect src) R E s)
    (ok : ∀ ts, Pt ts → sortOk ts = true ∧ ts.length ≤ sizeLine)
    (fin : ∀ ts v H', Pt ts → StoOk (gdOf X M) H' S → Ext S H S H' → Rep (gdOf X M) H' S (.lst (ts.mergeSort leT')) v → (∀ p, v = .ref p → H p = none ∧ ∃ xs, H' = upd H p (.lst xs)) → Q v H') :
    wpAny (model X.prog X.w) X.A (call (.builtin "sorted") [src]) (EP X pins σ Q) X.xe s := by
  refine call_function_entry_kw kind_sorted plain_sorted entry_sorted (args_sorted1 _) ?_
  unfold Builtin.«sorted»
  refine wpAny_bind (m := checkCount "sorted" 1 1 _) (wpAny_pure ?_)
  refine wpAny_bind (hcol _ _ _ rfl fun out s1 ts I1 each pt => ?_)
  obtain ⟨so, hl⟩ := ok ts pt
  obtain ⟨k1, k2, k3, k4⟩ := sortOk_of so
  have lo := each.length
  refine wpAny_bind (wpAny_newList ?_ (by rw [lo]; exact hl))
  have hat : (s1.heap.push (seqObj "list" out.toArray 0)).get? s1.heap.objs.size = some (seqObj "list" out.toArray 0) := Heap.get?_push_size _ rfl
  have rd : PySem.W.EachIs (fun v b => ∃ as, Reads (PySem.W.sortingHeap (s1.heap.push (seqObj "list" out.toArray 0)) s1.heap.objs.size out) v (dat b) as) out ts := by
    refine PySem.W.EachIs.mono (fun u t z => ?_) (PySem.W.each_mem each)
    obtain ⟨⟨v, r1, r2⟩, hm⟩ := z
    obtain ⟨as, q⟩ := Dp.reads I1 _ _ _ (Rep.dp _ _ r2 (okd_plain (k1 t hm))) r1
    exact ⟨as, Reads.keeps (fun b ob e => PySem.W.sortingHeap_old (Nat.ne_of_lt (Heap.lt_size e)) (Heap.get?_push_of_some _ e)) q⟩
  have dp : ∀ d, d ∈ ts.map dat → X.A.in1.in1.units + d.depth < cLine := fun d hd => by
    obtain ⟨t, ht, rfl⟩ := List.mem_map.mp hd
    have z := SeqAt.depth_of_shaped (okd_shaped (k1 t ht))
    show X.A.units + 1 + 1 + _ < _
    omega
  have srt := PySem.W.SortsAt.data (prog := X.prog) (w := X.w) (A := X.A.in1.in1) (s := { s1 with heap := PySem.W.sortingHeap (s1.heap.push (seqObj "list" out.toArray 0)) s1.heap.objs.size out }) (PySem.W.each_map dat (R := fun v d => ∃ as, Reads (PySem.W.sortingHeap (s1.heap.push (seqObj "list" out.toArray 0)) s1.heap.objs.size out) v d as) rd) k2 k3 dp
  have val := PySem.W.sortVals_data false each rd k2
  rw [mergeSort_leT ts k4] at val
  refine wpAny_bind (wpAny_holding (wpAny_call_entry_kw slot_list_sort ⟨_, hat, rfl⟩ entry_list_sort (PySem.W.list_sort_vals (s := { s1 with heap := s1.heap.push (seqObj "list" out.toArray 0) }) hat srt (by rw [lo]; exact hl) ⟨.none, rfl, ?_⟩) (args_list_sort _)))
  obtain ⟨ep, hnew⟩ := sortedHeap_at (vs := out) (out := (PySem.W.sortVals (PySem.W.dataKind (PySem.W.sortingHeap (s1.heap.push (seqObj "list" out.toArray 0)) s1.heap.objs.size out) (ts.map dat)) false out out).toArray) hat
  obtain ⟨ws, rw1, rw2⟩ := ofVT val
  have nH : H s1.heap.objs.size = none := I1.hok.fresh (Nat.le_refl _)
  have lw : ws.length ≤ sizeLine := by rw [← rw1.length, List.length_mergeSort]; exact hl
  have I2 : Inv X pins σ (upd H s1.heap.objs.size (.lst ws)) { s1 with heap := sortedHeap (s1.heap.push (seqObj "list" out.toArray 0)) s1.heap.objs.size out (PySem.W.sortVals (PySem.W.dataKind (PySem.W.sortingHeap (s1.heap.push (seqObj "list" out.toArray 0)) s1.heap.objs.size out) (ts.map dat)) false out out).toArray } :=
    I1.laid (t' := s1.toks) (fun b ob e => by
      rw [sortedHeap_old (Nat.ne_of_lt (Heap.lt_size e)) (by rw [size_push']; exact Nat.lt_succ_of_lt (Heap.lt_size e))]
      exact Heap.get?_push_of_some _ e) (Nat.le_refl _) ⟨lw, _, ep, rw2, hnew⟩
  exact wpAny_pure ⟨_, rfl, .ref s1.heap.objs.size, _, I2, rfl, fin ts _ _ pt (o.new nH) (Ext.new nH) (.lst ⟨upd_same, o.free nH, o.nom nH⟩ (Reps.ext (Ext.new nH) _ _ rw1)) fun p e => by
    injection e with e
    subst e
    exact ⟨nH, ws, rfl⟩⟩
/-- what a tuple or a list collects -/
theorem collect_seqT (I : Inv X pins σ H s) {a : Addr} {vs : List V} {ts : List T} (h : SqL X.K H a vs ∨ SqT X.K H a vs) (r : Reps (gdOf X M) H S ts vs) {A : Around} {E : Value → Shared → Prop} {R : List Value → Shared → Prop}
    (k : ∀ out s1, Inv X pins σ H s1 → PySem.W.EachIs (VT (gdOf X M) H S) out ts → R out s1) : wpAny (model X.prog X.w) A (collect (.ref a)) R E s := by
  have main : ∀ (Ty : String) (ob : Obj) (its : List Value) (n : Nat), (Ty = "list" ∨ Ty = "tuple") → s.heap.get? a = some ob → ob.cls = .type Ty → ob.data = .seq its.toArray n → Vals vs its → its.length ≤ sizeLine → wpAny (model X.prog X.w) A (collect (.ref a)) R E s := by
    intro Ty ob its n hT ho hc hd hv hz
    unfold collect
    refine wpAny_bind (wpAny_runValue (codeAny_builtin entry_proto_collect' ?_))
    show wpAny _ _ (do again (.builtin "list.__iadd__" ⟨[← newList [], .ref a], []⟩)) _ _ s
    have nw : (s.heap.push (seqObj "list" #[] 0)).get? s.heap.objs.size = some { cls := .type "list", data := .seq #[] 0 } := Heap.get?_push_size _ rfl
    refine wpAny_bind (wpAny_newList (wpAny_pure ⟨Code.quiet_builtin _ (by decide +kernel), codeAny_builtin entry_list_iadd' ?_⟩))
    have ho' : (s.heap.push (seqObj "list" #[] 0)).get? a = some ob := Heap.get?_push_of_some _ ho
    show wpAny _ _ (Builtin.List.listExtendWith (Value.ref s.heap.objs.size) (Value.ref a) (Value.ref s.heap.objs.size)) _ _ { s with heap := s.heap.push (seqObj "list" #[] 0) }
    unfold Builtin.List.listExtendWith
    refine wpAny_bind (wpAny_typeOf (T := Ty) ⟨ob, ho', hc⟩ ?_)
    have yes1 : (Builtin.List.listSameRef (Value.ref s.heap.objs.size) (Value.ref a) || Value.type Ty == Value.type "list" || Value.type Ty == Value.type "tuple") = true := by
      rcases hT with z | z <;> (subst z; simp)
    rw [if_pos yes1]
    refine wpAny_bind (listItems_at ho' hd ?_)
    refine wpAny_bind (listItems_at (xs := #[]) (n := 0) nw rfl ?_)
    have no1 : ¬(!(#[] : Array Value).isEmpty && Builtin.List.listTooLong ((#[] : Array Value).size + its.toArray.size)) = true := by simp
    rw [if_neg no1]
    have fits1 : ((#[] : Array Value) ++ its.toArray).size ≤ sizeLine + 1 := by
      simp
      omega
    refine wpAny_bind (listUpdate_at (xs := #[]) (n := 0) nw rfl ?_ (Nat.zero_le _) fits1)
    refine wpAny_pure ?_
    show wpAny (model X.prog X.w) A (do
      let o ← load s.heap.objs.size
      match o.data with
      | .seq xs _ => pure xs.toList
      | _ => unsupported "internal:collect") R E { s with heap := (s.heap.push (seqObj "list" #[] 0)).update s.heap.objs.size (Obj.mapSeq (· ++ its.toArray)) }
    refine wpAny_bind (wpAny_load (get?_update_seq (Heap.get?_push_size _ rfl) _) ?_)
    show wpAny _ _ (pure ((#[] : Array Value) ++ its.toArray).toList) R E _
    rw [show ((#[] : Array Value) ++ its.toArray).toList = its by simp]
    refine wpAny_pure (k its _ (I.kept (t' := s.toks) fun b u e => ?_) (eachVT r hv))
    rw [Heap.get?_update_ne _ _ _ _ (Nat.ne_of_lt (Heap.lt_size e))]
    exact Heap.get?_push_of_some _ e
  rcases h with h | h
  · obtain ⟨its, hv, ⟨ob, n, h1, h2, _, h4⟩, hz⟩ := I.list h
    exact main "list" ob its n (.inl rfl) h1 h2 h4 hv (by rw [← hv.length]; exact hz)
  · obtain ⟨its, hv, ⟨ob, h1, h2, n, h4⟩, hz⟩ := I.tuple h
    exact main "tuple" ob its n (.inr rfl) h1 h2 h4 hv (by rw [← hv.length]; exact hz)
theorem fn_sorted (hu : X.A.units + 70 < cLine) : CallT X (.builtin "sorted") sortedF := by
  intro pins s σ H xs us Q I r h
  obtain ⟨M, S, ts, t, o, rs, e, fin⟩ := h
  unfold sortedF at e
  split at e
  · rename_i y
    obtain ⟨v, rfl, ry⟩ := rs.one
    obtain ⟨u, rfl, ru⟩ := vals1 r
    have go : ∀ (a : Addr) (ws : List V) (zs : List T), v = .ref a → (SqL X.K H a ws ∨ SqT X.K H a ws) → Reps (gdOf X M) H S zs ws → (if (sortOk zs && decide (zs.length ≤ sizeLine)) = true then some (T.lst (zs.mergeSort leT')) else none) = some t →
        wpAny (model X.prog X.w) X.A (call (.builtin "sorted") [u]) (EP X pins σ Q) X.xe s := by
      intro a ws zs ev hs rz e
      subst ev
      obtain rfl : u = .ref a := ru
      split at e
      · rename_i c
        obtain ⟨c1, c2⟩ := Bool.and_eq_true_iff.mp c
        obtain rfl := Option.some.inj e
        exact sorted_via (Pt := fun x => x = zs) hu o (fun A E R _ k => collect_seqT I hs rz fun out s1 I1 ee => k out s1 zs I1 ee rfl) (fun x hx => by rw [hx]; exact ⟨c1, of_decide_eq_true c2⟩) fun x w H' hx o2 x2 r2 _ => by
          subst hx
          exact fin w H' o2 x2 r2
      · cases e
    split at e
    · rename_i zs hz
      obtain ⟨a, ws, rfl, h1, h2⟩ := res_lst o ry hz
      exact go a ws zs rfl (.inl (SqL.of h1)) h2 e
    · rename_i zs hz
      obtain rfl := res_id hz fun _ z => nomatch z
      cases ry with
      | tup h1 h2 => exact go _ _ zs rfl (.inr h1.sq) h2 e
    · cases e
  · cases e
end
end TL
namespace TL
open PySem PySem.Spec PyProof.Rows L2
abbrev NoE : T → Sto → Prop := fun _ _ => False
theorem takesN {X : Cx} {M : Addr → Prop} {S0 : Sto} {H0 : Hp} : Takes X (wOf X M S0 H0 EN) := takes0.imp fun c d σ H ⟨_, _, _, _, _, z⟩ => z.elim
/-- xs.extend(t), t a tuple -/
theorem meets_extT (l : Addr) (items : Array Value) (n : Nat) (b : Addr) (items2 : Array Value) (n2 : Nat) (h1 : items.size ≤ sizeLine) (h2 : items.size + items2.size ≤ sizeLine) :
    Meets (Builtin.«list.extend» ⟨[.ref l, .ref b], []⟩) (fun _ R s => s.heap.get? l = some { cls := .type "list", dict := none, data := .seq items n, slots := #[] } ∧ (∃ ob, s.heap.get? b = some ob ∧ ob.cls = .type "tuple" ∧ ob.data = .seq items2 n2) ∧ R (.ok (.ret Value.none)) { s with heap := s.heap.update l (Obj.mapSeq fun x => x ++ items2) }) :=
  .of_wp fun prog w A R s ⟨hl, ⟨ob, hb, hc, hd⟩, hR⟩ => by
    show wpAny _ _ (Builtin.List.listExtendWith (.ref l) (.ref b) .none) _ _ s
    unfold Builtin.List.listExtendWith
    refine wpAny_bind (wpAny_typeOf (T := "tuple") ⟨ob, hb, hc⟩ ?_)
    rw [if_pos (by simp)]
    refine wpAny_bind (listItems_at hb hd ?_)
    refine wpAny_bind (listItems_at hl rfl ?_)
    have no1 : ¬(!items.isEmpty && Builtin.List.listTooLong (items.size + items2.size)) = true := by
      rw [notLongL h2, Bool.and_false]
      exact Bool.false_ne_true
    rw [if_neg no1]
    refine wpAny_bind (listUpdate_at hl rfl ?_ h1 (by rw [Array.size_append]; omega))
    exact wpAny_pure ⟨_, rfl, hR⟩
def rExtB (K : PySem.W.Frag) : V → List V → Hp → VK → Prop := fun x vs H Q => ∃ l b xs zs, x = .ref l ∧ vs = [.ref b] ∧ H l = some (.lst xs) ∧ (H b = some (.lst zs) ∨ SqT K H b zs) ∧ xs.length + zs.length ≤ sizeLine ∧ Q .non (upd H l (.lst (xs ++ zs)))
theorem mt_extB {X : Cx} : MtM X "list.extend" (rExtB X.K) := by
  intro pins s σ H x vs v us Q I rx rv h
  obtain ⟨l, b, xs, zs, rfl, rfl, hH, hB, hz, q⟩ := h
  rcases hB with hB | hB
  · exact mt_extend pins s σ H (.ref l) [.ref b] v us Q I rx rv ⟨l, b, xs, zs, rfl, rfl, hH, hB, hz, q⟩
  cases rx
  obtain ⟨u, rfl, ru⟩ := rv.one
  cases ru
  obtain ⟨z, its, n, r, hl, e⟩ := I.lstM hH
  obtain ⟨its2, r2, ⟨ob, hb, hc, n2, hd⟩, _⟩ := I.tuple hB
  have l2 := r2.length
  have hsz : its.toArray.size + its2.toArray.size ≤ sizeLine := by rw [List.size_toArray, List.size_toArray]; omega
  refine call_meets F.slot_list_extend ⟨_, e, rfl⟩ F.entry_list_extend (F.args_list_extend_2 _ _) (meets_extT l its.toArray n b its2.toArray n2 (by rw [List.size_toArray]; omega) hsz) ⟨e, ⟨ob, hb, hc, hd⟩, ?_⟩
  refine ⟨.non, _, I.lset (its' := its ++ its2) hH e (by simp) (r.append r2) ?_, rfl, q⟩
  rw [List.length_append]
  omega
def sqv : T → Option (List T)
  | .lst zs => some zs
  | .tup zs => some zs
  | _ => none
def cApp (o e : TTE) : TTE := fun τ S Q E => o τ S (fun x S1 => ∃ a us, x = .ref a ∧ S1 a = some (.lst us) ∧ e τ S1 (fun y S2 => ∃ ts, S2 a = some (.lst ts) ∧ ts.length < sizeLine ∧ Q .non (ups S2 a (.lst (ts ++ [y])))) E) E
def cExt (o e : TTE) : TTE := fun τ S Q E => o τ S (fun x S1 => ∃ a us, x = .ref a ∧ S1 a = some (.lst us) ∧ e τ S1 (fun y S2 => ∃ ts zs, S2 a = some (.lst ts) ∧ sqv (res S2 y) = some zs ∧ ts.length + zs.length ≤ sizeLine ∧ Q .non (ups S2 a (.lst (ts ++ zs)))) E) E
def cPop (o : TTE) : TTE := fun τ S Q E => o τ S (fun x S1 => ∃ a ts y, x = .ref a ∧ S1 a = some (.lst ts) ∧ ts.getLast? = some y ∧ Q y (ups S1 a (.lst ts.dropLast))) E
def cClr (o : TTE) : TTE := fun τ S Q E => o τ S (fun x S1 => ∃ a ts, x = .ref a ∧ S1 a = some (.lst ts) ∧ Q .non (ups S1 a (.lst []))) E
def gIx (o i : TTE) : TTG := fun z τ S Q => o τ S (fun x S1 => i τ S1 (fun k S2 => ∃ a ts n j, x = .ref a ∧ S2 a = some (.lst ts) ∧ k = .int n ∧ ixN ts.length n = some j ∧ Q τ (ups S2 a (.lst (ts.set j z)))) NoE) NoE
section
variable {X : Cx} {o e i : Expr} {to te ti : TTE} {apos cpos pos : Pos}
theorem ty_list {M : Addr → Prop} {S : Sto} {H : Hp} {a : Addr} {us : List T} (ok : StoOk (gdOf X M) H S) (h : S a = some (.lst us)) : tyV X.K "list" (.ref a) H := by
  obtain ⟨xs, h1, _⟩ := ok.at_ a _ h
  exact .inl ⟨rfl, xs, SqL.of h1⟩
/-- a cell of a list is written -/
theorem cell_set {M : Addr → Prop} {S : Sto} {H : Hp} {a : Addr} {ts us : List T} {ys : List V} (ok : StoOk (gdOf X M) H S) (h : S a = some (.lst ts)) (r : Reps (gdOf X M) H S us ys) :
    StoOk (gdOf X M) (upd H a (.lst ys)) (ups S a (.lst us)) ∧ Ext S H (ups S a (.lst us)) (upd H a (.lst ys)) :=
  have x : Ext S H (ups S a (.lst us)) (upd H a (.lst ys)) := Ext.cell (.inr ⟨_, h⟩)
  ⟨ok.cell (.inr ⟨_, h⟩) ⟨ys, upd_same, Reps.ext x _ _ r⟩, x⟩
theorem te_app (ho : TE X o to) (he : TE X e te) (hbase : attributeBase o "append" X.env (eval o X.env) = eval o X.env := by rfl)
    (hfew : ((backTo cpos (starEach [e] X.env)).all (fun x => !x.1) && (backToKw cpos (keywordEach [] X.env)).all (fun x => x.1.isSome) && decide (([e] : List Expr).length + ([] : List Keyword).length + (if ([] : List Keyword).isEmpty then 0 else 1) < 30)) = true := by rfl)
    (hline : (apos.endLine == cpos.line) = true := by rfl) (hs : starEach [e] X.env = (false, eval e X.env) :: starEach [] X.env := by rfl) (hplain : (backTo cpos (starEach [] X.env)).any (·.1) = false := by rfl) :
    TE X (.Call (.Attribute o "append" apos) [e] [] cpos) (cApp to te) := fun M S0 H0 E tk =>
  (pe_bm PySem.F.plainAttrs_list PySem.F.slot_list_append PySem.F.type_list_append mt_append (ho M S0 H0 E tk) (ta_cons he ta_nil hs M S0 H0 E tk) hbase hfew hline hs hplain).weak fun σ H Q ⟨τ, S, Qt, rel, h, k⟩ =>
    ⟨τ, S, _, rel, h, fun z S1 v H1 ⟨a, us, ez, hs1, h1⟩ o1 x1 r1 => by
      subst ez
      cases r1
      refine ⟨ty_list o1 hs1, τ, S1, fun zs S2 => ∃ y, zs = [y] ∧ ∃ ts, S2 a = some (.lst ts) ∧ ts.length < sizeLine ∧ Qt .non (ups S2 a (.lst (ts ++ [y]))), rel.step o1 x1, ?_, fun zs S2 vs H2 h2 o2 x2 r2 => ?_⟩
      · show te τ S1 (fun y S2 => ∃ y', [y] = [y'] ∧ ∃ ts, S2 a = some (.lst ts) ∧ ts.length < sizeLine ∧ Qt .non (ups S2 a (.lst (ts ++ [y'])))) fun x S' => E x τ S'
        have e : ∀ (y : T) (S2 : Sto), (∃ y', [y] = [y'] ∧ ∃ ts, S2 a = some (.lst ts) ∧ ts.length < sizeLine ∧ Qt .non (ups S2 a (.lst (ts ++ [y'])))) = ∃ ts, S2 a = some (.lst ts) ∧ ts.length < sizeLine ∧ Qt .non (ups S2 a (.lst (ts ++ [y]))) := fun y S2 => by
          simp only [List.cons.injEq, and_true, exists_eq_left']
        simp only [e]
        exact h1
      · obtain ⟨y, rfl, ts, q1, q2, q3⟩ := h2
        obtain ⟨w, rfl, rw1⟩ := r2.one
        obtain ⟨xs, p1, p2⟩ := o2.at_ a _ q1
        have l := p2.length
        obtain ⟨o3, x3⟩ := cell_set (us := ts ++ [y]) (ys := xs ++ [w]) o2 q1 (p2.append (.cons rw1 .nil))
        exact ⟨a, xs, w, rfl, rfl, p1, by omega, k _ _ _ _ q3 o3 ((x1.trans x2).trans x3) .non⟩⟩
theorem res_sqv {M : Addr → Prop} {S : Sto} {H : Hp} {y : T} {v : V} {zs : List T} (o : StoOk (gdOf X M) H S) (r : Rep (gdOf X M) H S y v) (e : sqv (res S y) = some zs) : ∃ b ws, v = .ref b ∧ (H b = some (.lst ws) ∨ SqT X.K H b ws) ∧ Reps (gdOf X M) H S zs ws := by
  cases q : res S y with
  | lst us =>
    rw [q] at e
    cases e
    obtain ⟨b, ws, e1, h1, h2⟩ := res_lst o r q
    exact ⟨b, ws, e1, .inl h1, h2⟩
  | tup us =>
    rw [q] at e
    cases e
    obtain rfl := res_id q fun _ z => nomatch z
    cases r with
    | tup h1 h2 => exact ⟨_, _, rfl, .inr h1.sq, h2⟩
  | _ => rw [q] at e; cases e
theorem te_ext (ho : TE X o to) (he : TE X e te) (hbase : attributeBase o "extend" X.env (eval o X.env) = eval o X.env := by rfl)
    (hfew : ((backTo cpos (starEach [e] X.env)).all (fun x => !x.1) && (backToKw cpos (keywordEach [] X.env)).all (fun x => x.1.isSome) && decide (([e] : List Expr).length + ([] : List Keyword).length + (if ([] : List Keyword).isEmpty then 0 else 1) < 30)) = true := by rfl)
    (hline : (apos.endLine == cpos.line) = true := by rfl) (hs : starEach [e] X.env = (false, eval e X.env) :: starEach [] X.env := by rfl) (hplain : (backTo cpos (starEach [] X.env)).any (·.1) = false := by rfl) :
    TE X (.Call (.Attribute o "extend" apos) [e] [] cpos) (cExt to te) := fun M S0 H0 E tk =>
  (pe_bm PySem.F.plainAttrs_list PySem.F.slot_list_extend PySem.F.type_list_extend mt_extB (ho M S0 H0 E tk) (ta_cons he ta_nil hs M S0 H0 E tk) hbase hfew hline hs hplain).weak fun σ H Q ⟨τ, S, Qt, rel, h, k⟩ =>
    ⟨τ, S, _, rel, h, fun z S1 v H1 ⟨a, us, ez, hs1, h1⟩ o1 x1 r1 => by
      subst ez
      cases r1
      refine ⟨ty_list o1 hs1, τ, S1, fun ys S2 => ∃ y, ys = [y] ∧ ∃ ts zs, S2 a = some (.lst ts) ∧ sqv (res S2 y) = some zs ∧ ts.length + zs.length ≤ sizeLine ∧ Qt .non (ups S2 a (.lst (ts ++ zs))), rel.step o1 x1, ?_, fun zs S2 vs H2 h2 o2 x2 r2 => ?_⟩
      · show te τ S1 (fun y S2 => ∃ y', [y] = [y'] ∧ ∃ ts zs, S2 a = some (.lst ts) ∧ sqv (res S2 y') = some zs ∧ ts.length + zs.length ≤ sizeLine ∧ Qt .non (ups S2 a (.lst (ts ++ zs)))) fun x S' => E x τ S'
        have e : ∀ (y : T) (S2 : Sto), (∃ y', [y] = [y'] ∧ ∃ ts zs, S2 a = some (.lst ts) ∧ sqv (res S2 y') = some zs ∧ ts.length + zs.length ≤ sizeLine ∧ Qt .non (ups S2 a (.lst (ts ++ zs)))) = ∃ ts zs, S2 a = some (.lst ts) ∧ sqv (res S2 y) = some zs ∧ ts.length + zs.length ≤ sizeLine ∧ Qt .non (ups S2 a (.lst (ts ++ zs))) := fun y S2 => by
          simp only [List.cons.injEq, and_true, exists_eq_left']
        simp only [e]
        exact h1
      · obtain ⟨y, rfl, ts, zs, q1, qz, q2, q3⟩ := h2
        obtain ⟨w, rfl, rw1⟩ := r2.one
        obtain ⟨xs, p1, p2⟩ := o2.at_ a _ q1
        obtain ⟨b, ws, rfl, b1, b2⟩ := res_sqv o2 rw1 qz
        have l := p2.length
        have l2 := b2.length
        obtain ⟨o3, x3⟩ := cell_set (us := ts ++ zs) (ys := xs ++ ws) o2 q1 (p2.append b2)
        exact ⟨a, b, xs, ws, rfl, rfl, p1, b1, by omega, k _ _ _ _ q3 o3 ((x1.trans x2).trans x3) .non⟩⟩
/-- xs[i] = v, xs a list -/
theorem tg_ix {vs : List Nat} (ho : TE X o to) (hi : TE X i ti) (ha : ∀ v, assign (.Subscript o i pos) X.env v = (do
      let ov ← holding [v] (eval o X.env)
      let iv ← holding [v, ov] (eval i X.env)
      standAt pos
      holding [v, ov, iv] (setItem ov iv v)
      release [v, ov, iv] []) := by intro _; rfl) : TGt X vs (.Subscript o i pos) (gIx to ti) := fun M S0 H0 E tk =>
  (pg_sub (ho M S0 H0 EN takesN) (hi M S0 H0 EN takesN) set_list ha).weak fun v σ H Q ⟨τ, S, z, Qt, rel, hz, h, k⟩ => ⟨τ, S, _, rel, h, fun x S1 xv H1 h1 o1 x1 r1 =>
    ⟨τ, S1, _, rel.step o1 x1, h1, fun y S2 yv H2 ⟨a, ts, n, j, ex, hs2, ey, hj, h2⟩ o2 x2 r2 => by
      subst ex ey
      cases r1
      cases r2
      obtain ⟨xs, p1, p2⟩ := o2.at_ a _ hs2
      have x12 := x1.trans x2
      obtain ⟨o3, x3⟩ := cell_set (us := ts.set j z) (ys := xs.set j v) o2 hs2 (p2.set (Rep.ext x12 _ _ hz) j)
      exact ⟨a, xs, n, j, rfl, rfl, p1, by rw [← p2.length]; exact hj, k _ _ _ _ ((rel.step o2 x12).step o3 x3) (x12.trans x3) rfl h2⟩⟩⟩
end
inductive Kd where
  | non | bool | int | str | tup | lst | dct
  deriving DecidableEq
def Kd.nm : Kd → String
  | .non => "NoneType"
  | .bool => "bool"
  | .int => "int"
  | .str => "str"
  | .tup => "tuple"
  | .lst => "list"
  | .dct => "dict"
def Kd.is : Kd → Kd → Bool
  | .bool, .int => true
  | a, b => decide (a = b)
theorem Kd.kit (a b : Kd) : kitB a.nm b.nm = some (a.is b) := by cases a <;> cases b <;> decide +kernel
def kdOf (S : Sto) : T → Option Kd
  | .non => some .non
  | .bl _ => some .bool
  | .int _ => some .int
  | .str _ => some .str
  | .tup _ => some .tup
  | .lst _ => some .lst
  | .dct false _ _ => some .dct
  | .ref a => match S a with
    | some (.lst _) => some .lst
    | some (.dct false _ _) => some .dct
    | _ => none
  | _ => none
theorem kd_ty {X : Cx} {M : Addr → Prop} {S : Sto} {H : Hp} {t : T} {v : V} {k : Kd} (o : StoOk (gdOf X M) H S) (r : Rep (gdOf X M) H S t v) (e : kdOf S t = some k) : TyX X.K H v (.type k.nm) := by
  cases r with
  | non => obtain rfl := Option.some.inj e; exact .base .non
  | bl b => obtain rfl := Option.some.inj e; exact .base (.bl b)
  | int i => obtain rfl := Option.some.inj e; exact .base (.int i)
  | str x => obtain rfl := Option.some.inj e; exact .base (.str _)
  | tup h1 h2 =>
    obtain rfl := Option.some.inj e
    rcases h1 with ⟨ob, ⟨h1, _⟩, _⟩ | ⟨ob, its, n, h1, h2, _⟩
    · exact .fTuple h1
    · exact .kTuple h1 h2
  | lst h1 h2 => obtain rfl := Option.some.inj e; exact .base (.lst h1.1)
  | dK h1 h2 h3 =>
    obtain rfl := Option.some.inj e
    rcases h1.1 with h1 | ⟨ob, h1⟩
    · exact .base (.dK h1)
    · exact .fDict h1
  | ref a =>
    cases q : S a with
    | none => simp [kdOf, q] at e
    | some c =>
      have w := o.at_ a _ q
      cases c with
      | lst ts =>
        simp only [kdOf, q] at e
        obtain rfl := Option.some.inj e
        obtain ⟨xs, h1, _⟩ := w
        exact .base (.lst h1)
      | dct b ks vs =>
        cases b with
        | true => simp [kdOf, q] at e
        | false =>
          simp only [kdOf, q] at e
          obtain rfl := Option.some.inj e
          obtain ⟨kvs, h1, _⟩ := w
          exact .base (.dK h1)
      | ins _ _ _ => simp [kdOf, q] at e
  | _ => cases e
def isiT (ks : List Kd) (S : Sto) (x : T) : Option T := (kdOf S x).map fun k => .bl (ks.any fun c => k.is c)
section
variable {X : Cx} {a : Expr} {ta : TTE} {p p2 pos tpos : Pos} {c : Str}
theorem boot_kd (k : Kd) (h : k ≠ .non) : bootBuiltins k.nm = some (.type k.nm) := by
  cases k <;> first | exact absurd rfl h | decide +kernel
/-- isinstance(e, C), C a built-in class -/
theorem te_isi (k : Kd) (ha : TE X a ta) (hg : Gl X "isinstance") (hm : X.mg "isinstance" = none) (hg2 : Gl X k.nm) (hm2 : X.mg k.nm = none) (hk : k ≠ .non := by decide)
    (hdb : ((k.nm : Str) == ("__debug__" : Str)) = false := by decide) (hnn : (k.nm : Str) ≠ "__name__" := by decide)
    (he : starEach [a, .Name k.nm p2] X.env = (false, eval a X.env) :: starEach [.Name k.nm p2] X.env := by rfl) (he2 : starEach [.Name k.nm p2] X.env = (false, eval (.Name k.nm p2) X.env) :: starEach [] X.env := by rfl) (hpl : (backTo pos (starEach [.Name k.nm p2] X.env)).any (·.1) = false := by rfl) :
    TE X (.Call (.Name "isinstance" p) [a, .Name k.nm p2] [] pos) (cUn (isiT [k]) ta) := fun M S0 H0 E tk =>
  (pe_callB call_isi hg hm boot_isinstance (pa_cons (ha M S0 H0 E tk) (pa_cons (pe_bltn hg2 hm2 (boot_kd k hk) (show RelV (.ty k.nm) (.type k.nm) from rfl) hnn hdb) pa_nil he2) he) (by decide) (by decide) he hpl).weak fun σ H Q ⟨τ, S, Qt, rel, h, fin⟩ =>
    ⟨τ, S, _, rel, h, fun z S1 v H1 ⟨w, e, hq⟩ o1 x1 r1 => by
      obtain ⟨kd, hkd, rfl⟩ := Option.map_eq_some_iff.mp e
      refine ⟨v, .ty k.nm, .type kd.nm, .type k.nm, kd.is k, rfl, .ty _, kd_ty o1 r1 hkd, kit_ty (kd.kit k), ?_⟩
      have := fin _ S1 (.bl (kd.is k)) H1 hq o1 x1 (by simp only [List.any_cons, List.any_nil, Bool.or_false]; exact .bl _)
      exact this⟩
end
end TL
namespace TL
open PySem PySem.Spec PyProof.Rows L2
def repS (n : Nat) (x : List Sg) : List Sg := (List.replicate n x).flatten
theorem repS_succ (n : Nat) (x : List Sg) : repS (n + 1) x = x ++ repS n x := by simp [repS, List.replicate_succ]
theorem repS_nil (n : Nat) : repS n [] = [] := by
  induction n with
  | zero => rfl
  | succ n ih => rw [repS_succ, ih]; rfl
theorem repS_one (x : List Sg) : repS 1 x = x := by simp [repS]
theorem txt_repS (n : Nat) (x : List Sg) : (⟨(List.replicate n (txt x).cps).foldl (· ++ ·) #[]⟩ : Str) = txt (repS n x) := by
  have h : ∀ (n : Nat) (acc : Array Nat), (List.replicate n (txt x).cps).foldl (· ++ ·) acc = acc ++ (txt (repS n x)).cps := by
    intro n
    induction n with
    | zero => intro acc; simp [repS, txt]
    | succ n ih =>
      intro acc
      rw [List.replicate_succ, List.foldl_cons, ih, repS_succ]
      simp [txt]
  rw [h n #[]]
  simp [txt]
theorem txt_mul (x : List Sg) (n : Int) : Txt.mul (txt x) n = txt (repS n.toNat x) := by
  unfold Txt.mul
  split
  · rename_i h
    have : n.toNat = 0 := by omega
    rw [this]
    rfl
  · split
    · rename_i h h2
      simp only [Bool.or_eq_true, beq_iff_eq] at h2
      rcases h2 with h2 | h2
      · subst h2
        show txt x = txt (repS 1 x)
        rw [repS_one]
      · rw [txt_len] at h2
        have : x = [] := List.eq_nil_of_length_eq_zero h2
        subst this
        rw [repS_nil]
    · exact txt_repS _ _
def mulS (x : List Sg) (n : Int) : Bool := decide (x.length * n.toNat ≤ 1000000) && (decide (n < 1000000) && decide (-1000000 < n))
theorem mulS_ok {x : List Sg} {n : Int} (h : mulS x n = true) : MulOk (txt x) n := by
  simp only [mulS, Bool.and_eq_true, decide_eq_true_eq] at h
  obtain ⟨h1, h2, h3⟩ := h
  refine ⟨by rw [decide_eq_false (by omega), decide_eq_false (by omega)]; rfl, fun h4 _ => ?_, fun h4 _ => ?_⟩
  · rw [txt_len]
    have hn : 0 < n := by omega
    have h5 : (x.length : Int) * n ≤ 1000000 := by
      have : ((x.length * n.toNat : Nat) : Int) ≤ ((1000000 : Nat) : Int) := Int.ofNat_le.mpr h1
      rw [Int.natCast_mul, Int.toNat_of_nonneg (by omega)] at this
      exact this
    have : (x.length : Int) ≤ (2 ^ 63 - 1) / n := by
      apply Int.le_ediv_of_mul_le hn
      omega
    omega
  · rw [txt_len]
    unfold Builtin.Str.tooLong
    rw [sizeLine_eq]
    exact decide_eq_false (by omega)
def mulT2 (_ : Sto) (x y : T) : Option T := match x, y with
  | .int i, .int j => if mulI i j = true then some (.int (i * j)) else none
  | .str a, .int n => if mulS a n = true then some (.str (repS n.toNat a)) else none
  | _, _ => none
section
variable {X : Cx}
theorem op_mulT2 : OpT X (binaryOp .Mult) mulT2 := by
  intro pins s σ H x y v u Q I rx ry h
  obtain ⟨M, S, tx, ty, t, o, hx, hy, e, fin⟩ := h
  unfold mulT2 at e
  split at e
  · rename_i i j
    split at e
    · rename_i hz
      obtain rfl := Option.some.inj e
      cases hx
      cases hy
      exact op_mulW pins s σ H _ _ v u Q I rx ry ⟨i, j, rfl, rfl, by unfold CMulW; exact of_decide_eq_true hz, fin _ H o Ext.refl (.int _)⟩
    · cases e
  · rename_i a n
    split at e
    · rename_i hz
      obtain rfl := Option.some.inj e
      cases hx
      cases hy
      obtain ⟨t1, rfl⟩ := rx
      obtain ⟨t2, rfl⟩ := ry
      refine SB.mul (mulS_ok hz) fun t' k => ⟨.str _, H, I.tok k, ⟨t', rfl⟩, ?_⟩
      rw [txt_mul]
      exact fin _ H o Ext.refl (.str _)
    · cases e
  · cases e

def strI (i : Int) : List Sg := q (Str.ofString (toString i))
def strF (_ : Sto) : List T → Option T
  | [.int i] => if i.natAbs.log2 < 1000 then some (.str (strI i)) else none
  | _ => none
/-- a method of a thing of the kind k, with its arguments -/
def MetT (X : Cx) (id : String) (f : Sto → T → List T → Option T) : Prop := MtR X id fun x xs H Q => ∃ M S tx ts t, StoOk (gdOf X M) H S ∧ Rep (gdOf X M) H S tx x ∧ Reps (gdOf X M) H S ts xs ∧ f S tx ts = some t ∧ ∀ v H', StoOk (gdOf X M) H' S → Ext S H S H' → Rep (gdOf X M) H' S t v → Q v H'
def cM (k : T → Bool) (f : Sto → T → List T → Option T) (o : TTE) (a : TTA) : TTE := fun τ S Q E => o τ S (fun x S1 => k x = true ∧ a τ S1 (fun ys S2 => ∃ t, f S2 x ys = some t ∧ Q t S2) E) E
def isStr : T → Bool
  | .str _ => true
  | _ => false
def isTup : T → Bool
  | .tup _ => true
  | _ => false
theorem isStr_is {t : T} (h : isStr t = true) : ∃ x, t = .str x := by cases t <;> first | exact ⟨_, rfl⟩ | cases h
variable {o e : Expr} {es : List Expr} {to te : TTE} {ta : TTA} {id : String} {name : Str} {apos cpos : Pos} {f : Sto → T → List T → Option T}
theorem te_sm1 (slot : Slot "str" name id) (ty : typeOf (.builtin id) = pure (.type "method_descriptor")) (hm : MetT X id f) (ho : TE X o to) (he : TE X e te)
    (hs : starEach [e] X.env = [(false, eval e X.env)] := by rfl) (hbase : attributeBase o name X.env (eval o X.env) = eval o X.env := by rfl) (hline : (apos.endLine == cpos.line) = true := by rfl) :
    TE X (.Call (.Attribute o name apos) [e] [] cpos) (cM isStr f to (cCons te cNil)) := fun M S0 H0 E tk =>
  (pe_m1 slot ty hm (ho M S0 H0 E tk) (he M S0 H0 E tk) hs hbase hline).weak fun σ H Q ⟨τ, S, Qt, rel, h, k⟩ => ⟨τ, S, _, rel, h, fun zx S1 x H1 ⟨hk, h1⟩ o1 x1 r1 => by
    obtain ⟨y, rfl⟩ := isStr_is hk
    cases r1
    refine ⟨⟨_, rfl⟩, τ, S1, _, rel.step o1 x1, h1, fun zy S2 w H2 ⟨t, e, hq⟩ o2 x2 r2 => ⟨M, S2, _, [zy], t, o2, .str y, .cons r2 .nil, e, fun v H' o3 x3 r3 => k t S2 v H' hq o3 ((x1.trans x2).trans x3) r3⟩⟩⟩
def strsOf : List T → Option (List (List Sg))
  | [] => some []
  | .str x :: ts => (strsOf ts).map (x :: ·)
  | _ :: _ => none
theorem strsOf_is : ∀ {ts : List T} {xs : List (List Sg)}, strsOf ts = some xs → ts = xs.map T.str
  | [], xs, e => by
    obtain rfl := Option.some.inj e
    rfl
  | t :: ts, xs, e => by
    cases t with
    | str x =>
      obtain ⟨ys, h1, rfl⟩ := Option.map_eq_some_iff.mp (show (strsOf ts).map (x :: ·) = some xs from e)
      rw [strsOf_is h1]
      rfl
    | _ => cases e
theorem strsOf_map (xs : List (List Sg)) : strsOf (xs.map T.str) = some xs := by
  induction xs with
  | nil => rfl
  | cons x xs ih =>
    show (strsOf (xs.map T.str)).map (x :: ·) = _
    rw [ih]
    rfl
theorem reps_strs {G : Gd} {H : Hp} {S : Sto} : ∀ {xs : List (List Sg)} {vs : List V}, Reps G H S (xs.map T.str) vs → vs = (xs.map txt).map V.str
  | [], _, r => by cases r; rfl
  | x :: xs, _, r => by
    cases r with
    | cons a b =>
      cases a
      rw [reps_strs b]
      rfl
/-- joined -/
def jnL (a : List Sg) : List (List Sg) → List Sg
  | [] => []
  | x :: xs => x ++ (xs.map (a ++ ·)).flatten
theorem txt_join (a : List Sg) (xs : List (List Sg)) : Txt.join (txt a) (xs.map txt) = txt (jnL a xs) := by
  unfold Txt.join Builtin.Str.glued
  cases xs with
  | nil => rfl
  | cons x xs =>
    have h : ∀ (xs : List (List Sg)) (acc : Array Nat), (xs.map txt).foldl (fun acc p => acc ++ (txt a).cps ++ p.cps) acc = acc ++ (txt (xs.map (a ++ ·)).flatten).cps := by
      intro xs
      induction xs with
      | nil => intro acc; simp [txt]
      | cons y ys ih =>
        intro acc
        rw [List.map_cons, List.foldl_cons, ih]
        simp [txt]
    show (⟨(xs.map txt).foldl (fun acc p => acc ++ (txt a).cps ++ p.cps) (txt x).cps⟩ : Str) = _
    rw [h]
    simp [txt, jnL]
def joinSz (a : List Sg) (xs : List (List Sg)) : Bool := decide ((xs.map (·.length)).sum + xs.length * a.length ≤ 1000000)
def joinF (S : Sto) (o : T) (ys : List T) : Option T := match o, ys with
  | .str a, [y] => match res S y with
    | .lst ts => match strsOf ts with
      | some xs => if joinSz a xs = true then some (.str (jnL a xs)) else none
      | none => none
    | .tup ts => match strsOf ts with
      | some xs => if joinSz a xs = true then some (.str (jnL a xs)) else none
      | none => none
    | _ => none
  | _, _ => none
theorem mt_joinT : MetT X "str.join" joinF := by
  intro pins s σ H x xs v us Q I rx rs h
  obtain ⟨M, S, tx, ts, t, o, hx, hs, e, fin⟩ := h
  unfold joinF at e
  split at e
  · rename_i a y
    cases hx
    obtain ⟨w, rfl, ry⟩ := hs.one
    have key : ∀ {xs : List (List Sg)} {p : Addr}, joinSz a xs = true → (SqL X.K H p ((xs.map txt).map V.str) ∨ SqT X.K H p ((xs.map txt).map V.str)) → w = .ref p → t = .str (jnL a xs) → wpAny (model X.prog X.w) X.A (call (.builtin "str.join") (v :: us)) (EP X pins σ Q) X.xe s := by
      intro xs p hz hp hw ht
      subst hw ht
      refine mt_join pins s σ H _ _ v us Q I rx rs ⟨txt a, p, xs.map txt, rfl, rfl, hp, ?_, ?_⟩
      · have h1 := of_decide_eq_true hz
        have e1 : ((xs.map txt).map (·.length)).sum = (xs.map (·.length)).sum := by
          rw [List.map_map]
          congr 1
          apply List.map_congr_left
          intro x _
          exact txt_len x
        rw [e1, List.length_map, txt_len]
        omega
      · rw [txt_join]
        exact fin _ H o Ext.refl (.str _)
    split at e
    · rename_i zs hz
      split at e
      · rename_i xs hx
        split at e
        · rename_i hj
          obtain rfl := Option.some.inj e
          obtain ⟨p, ws, rfl, h1, h2⟩ := res_lst o ry hz
          have := strsOf_is hx
          subst this
          have := reps_strs h2
          subst this
          exact key hj (.inl (SqL.of h1)) rfl rfl
        · cases e
      · cases e
    · rename_i zs hz
      split at e
      · rename_i xs hx
        split at e
        · rename_i hj
          obtain rfl := Option.some.inj e
          obtain rfl := res_id hz fun _ z => nomatch z
          cases ry with
          | tup h1 h2 =>
            have := strsOf_is hx
            subst this
            have := reps_strs h2
            subst this
            exact key hj (.inr h1.sq) rfl rfl
        · cases e
      · cases e
    · cases e
  · cases e
def cChain (f g : Sto → T → T → Option T) (a b c : TTE) : TTE := fun τ S Q E => a τ S (fun x S1 => b τ S1 (fun y S2 => ∃ k, f S2 x y = some (.bl k) ∧ if k = true then c τ S2 (fun z S3 => ∃ w, g S3 y z = some w ∧ Q w S3) E else Q (.bl false) S2) E) E
variable {a b c : Expr} {tb tc : TTE} {pos : Pos}
theorem chain_read {M : Addr → Prop} {S0 : Sto} {H0 : Hp} {E : T → TEnv → Sto → Prop} {f g : Sto → T → T → Option T} {σ : L2.St} {H : Hp} {Q : VK} {ta : TTE} (h : LE X M S0 H0 (cChain f g ta tb tc) E σ H Q) :
    tChain (fun x y H Q => ∃ M S tx ty t, StoOk (gdOf X M) H S ∧ Rep (gdOf X M) H S tx x ∧ Rep (gdOf X M) H S ty y ∧ f S tx ty = some t ∧ ∀ v H', StoOk (gdOf X M) H' S → Ext S H S H' → Rep (gdOf X M) H' S t v → Q v H')
      (fun x y H Q => ∃ M S tx ty t, StoOk (gdOf X M) H S ∧ Rep (gdOf X M) H S tx x ∧ Rep (gdOf X M) H S ty y ∧ g S tx ty = some t ∧ ∀ v H', StoOk (gdOf X M) H' S → Ext S H S H' → Rep (gdOf X M) H' S t v → Q v H')
      (LE X M S0 H0 ta E) (LE X M S0 H0 tb E) (LE X M S0 H0 tc E) σ H Q := by
  obtain ⟨τ, S, Qt, rel, h, k⟩ := h
  refine ⟨τ, S, _, rel, h, fun zx S1 x H1 hb o1 x1 r1 => ⟨τ, S1, _, rel.step o1 x1, hb, fun zy S2 y H2 ⟨bb, e, hz⟩ o2 x2 r2 => ⟨M, S2, zx, zy, _, o2, Rep.ext x2 _ _ r1, r2, e, fun v H' o3 x3 r3 => ?_⟩⟩⟩
  cases r3
  refine ⟨bb, rfl, ?_⟩
  cases bb with
  | false => exact k _ S2 _ H' hz o3 ((x1.trans x2).trans x3) (.bl _)
  | true =>
    rw [if_pos rfl] at hz ⊢
    exact ⟨τ, S2, _, ((rel.step o1 x1).step o2 x2).step o3 x3, hz, fun zz S4 w H4 ⟨wt, e4, hq⟩ o4 x4 r4 => ⟨M, S4, zy, zz, wt, o4, Rep.ext (x3.trans x4) _ _ r2, r4, e4, fun v H' o5 x5 r5 => k wt S4 v H' hq o5 ((((x1.trans x2).trans x3).trans x4).trans x5) r5⟩⟩
theorem tb_chain {op op' : CmpOp} {f g : Sto → T → T → Option T} {ta : TTE} (ho : OpT X (compareOp op) f) (ho' : OpT X (compareOp op') g) (ha : TE X a ta) (hb : TE X b tb) (hc : TE X c tc) (hm : lastMarks [op, op'] [b, c] = false := by with_unfolding_all rfl) :
    TB X (.Compare a [op, op'] [b, c] pos) (bVal (cChain f g ta tb tc)) := fun M S0 H0 E tk =>
  (pt_chain ho ho' (ha M S0 H0 E tk) (hb M S0 H0 E tk) (hc M S0 H0 E tk) hm).weak fun σ H Q ⟨τ, S, Qt, rel, h, k⟩ => chain_read (S0 := S0) (H0 := H0) ⟨τ, S, _, rel, h, fun zx S1 x H1 ⟨b, e, hq⟩ o1 x1 r1 => by
    subst e
    cases r1
    exact ⟨b, rfl, k b S1 H1 hq o1 x1⟩⟩

end
end TL
namespace TL
open PySem PySem.Spec PyProof.Rows L2
/-- a def of the module by its name keeps its promise -/
def Okf (P : Program) (w : World) (K : PySem.W.Frag) (mg : Str → Option Value) (base : Heap) (k : Nat) (x : Str) (ps : List Str) (sp : SpT) : Prop :=
  ∃ fd, FnOk P w K mg base (L2N.CX P w) k (He.ga K x) fd ps (liftSp P K w sp) ∧ mg x = some (.ref (He.ga K x)) ∧ PySem.W.keepIn K (.ref (He.ga K x)) = true ∧ Binds K fd ps []
section
variable {X : Cx} {j k : Nat} {ps : List Str} {sp : SpT} {x : Str} {p pos : Pos} {e : Expr} {es : List Expr} {ta : TTA}
theorem te_callO (F : Okf X.prog X.w X.K X.mg X.base k x ps sp) (hr : Room j X.A) (hkj : k ≤ j) (hg : Gl X x) (ha : TA X (e :: es) ta) (hdb : (x == ("__debug__" : Str)) = false := by decide)
    (he : starEach (e :: es) X.env = (false, eval e X.env) :: starEach es X.env := by rfl) (hpl : (backTo pos (starEach es X.env)).any (·.1) = false := by rfl) : TE X (.Call (.Name x p) (e :: es) [] pos) (cCall sp ta) := by
  obtain ⟨fd, h1, h2, h3, h4⟩ := F
  exact te_call h1 (hr.mono hkj) hg h2 h3 h4 ha hdb he hpl
end
theorem u64 {k : Nat} {A : Around} (r : Room k A) : A.units + 64 < cLine := r.units
theorem u65 {k : Nat} {A : Around} (r : Room k A) : A.units + 65 < cLine := by have := r.un; omega
theorem u70 {k : Nat} {A : Around} (r : Room k A) : A.units + 70 < cLine := by have := r.un; omega

def sp1 (p : T → Sto → (T → Sto → Prop) → (T → Sto → Prop) → Prop) : SpT := fun ts S Q E => ∃ a, ts = [a] ∧ p a S Q E
def sp2 (p : T → T → Sto → (T → Sto → Prop) → (T → Sto → Prop) → Prop) : SpT := fun ts S Q E => ∃ a b, ts = [a, b] ∧ p a b S Q E
def sp3 (p : T → T → T → Sto → (T → Sto → Prop) → (T → Sto → Prop) → Prop) : SpT := fun ts S Q E => ∃ a b c, ts = [a, b, c] ∧ p a b c S Q E
def sp4 (p : T → T → T → T → Sto → (T → Sto → Prop) → (T → Sto → Prop) → Prop) : SpT := fun ts S Q E => ∃ a b c d, ts = [a, b, c, d] ∧ p a b c d S Q E
def sp5 (p : T → T → T → T → T → Sto → (T → Sto → Prop) → (T → Sto → Prop) → Prop) : SpT := fun ts S Q E => ∃ a b c d e, ts = [a, b, c, d, e] ∧ p a b c d e S Q E
/-- what is to be shown of a def's tree -/
def VC (N : List Str) (sp : SpT) (c : TTS) : Prop := ∀ ts S Q E, sp ts S Q E → c { nx := fun _ S' => Fin Q .non S', rt := Fin Q } (startT N ts) S (fun x _ S' => FinX E x S')
end TL
namespace TL
open PySem PySem.Spec PyProof.Rows L2
section
variable {S : Sto} {i j : Int} {x y : List Sg} {xs ys ts : List T} {a b : T} {p : Addr}
theorem ex_ite {α : Type} {c : Prop} [Decidable c] {v : α} {P : α → Prop} : (∃ z, (if c then some v else none) = some z ∧ P z) ↔ c ∧ P v := by
  constructor
  · rintro ⟨z, e, h⟩
    split at e
    · cases e; exact ⟨by assumption, h⟩
    · cases e
  · rintro ⟨h1, h2⟩
    exact ⟨v, if_pos h1, h2⟩
theorem addT_int : addT S (.int i) (.int j) = some (.int (i + j)) := rfl
theorem addT_str : addT S (.str x) (.str y) = if x.length + y.length ≤ sizeLine then some (.str (x ++ y)) else none := rfl
theorem addT_lst : addT S (.lst xs) (.lst ys) = if xs.length + ys.length ≤ sizeLine then some (.lst (xs ++ ys)) else none := rfl
theorem addT_tup : addT S (.tup xs) (.tup ys) = if xs.length + ys.length ≤ sizeLine then some (.tup (xs ++ ys)) else none := rfl
theorem subT_int : subT S (.int i) (.int j) = some (.int (i - j)) := rfl
theorem mulT2_int : mulT2 S (.int i) (.int j) = if mulI i j = true then some (.int (i * j)) else none := rfl
theorem mulT2_str : mulT2 S (.str x) (.int j) = if mulS x j = true then some (.str (repS j.toNat x)) else none := rfl
theorem fdivT_int : fdivT S (.int i) (.int j) = if divI i j = true then some (.int (i.fdiv j)) else none := rfl
theorem modT_int : modT S (.int i) (.int j) = if modI i j = true then some (.int (i.fmod j)) else none := rfl
theorem powT_int : powT S (.int i) (.int j) = if powI i j = true then some (.int (i ^ j.toNat)) else none := rfl
theorem negT_int : negT S (.int i) = some (.int (-i)) := rfl
theorem okd_str : okd (.str x) = true := rfl
theorem eqT_int : eqT S (.int i) (.int j) = some (.bl (decide (i = j))) := rfl
theorem neT_int : neT S (.int i) (.int j) = some (.bl (!decide (i = j))) := rfl
theorem eqT_str : eqT S (.str x) (.str y) = some (.bl (decide (x = y))) := rfl
theorem neT_str : neT S (.str x) (.str y) = some (.bl (!decide (x = y))) := rfl
theorem eqT_bl {k l : Bool} : eqT S (.bl k) (.bl l) = some (.bl (k == l)) := rfl
theorem neT_bl {k l : Bool} : neT S (.bl k) (.bl l) = some (.bl (!(k == l))) := rfl
theorem ltT_int : ltT S (.int i) (.int j) = some (.bl (decide (i < j))) := by simp [ltT, cmpOk, okd, plain, dep, alk, ltt]
theorem gtT_int : gtT S (.int i) (.int j) = some (.bl (decide (j < i))) := by simp [gtT, cmpOk, okd, plain, dep, alk, ltt]
theorem leT_int : leT S (.int i) (.int j) = some (.bl (decide (i ≤ j))) := by
  simp only [leT, cmpOk, okd, plain, dep, alk, ltt, Bool.and_true, Nat.zero_le, decide_true, if_true, Option.some.injEq, T.bl.injEq]
  by_cases h : i ≤ j
  · rw [decide_eq_true h, decide_eq_false (by omega)]; rfl
  · rw [decide_eq_false h, decide_eq_true (by omega)]; rfl
theorem geT_int : geT S (.int i) (.int j) = some (.bl (decide (j ≤ i))) := by
  simp only [geT, cmpOk, okd, plain, dep, alk, ltt, Bool.and_true, Nat.zero_le, decide_true, if_true, Option.some.injEq, T.bl.injEq]
  by_cases h : j ≤ i
  · rw [decide_eq_true h, decide_eq_false (by omega)]; rfl
  · rw [decide_eq_false h, decide_eq_true (by omega)]; rfl
theorem ixT_lst : ixT S (.lst xs) (.int i) = L2.atI xs i := rfl
theorem ixT_tup : ixT S (.tup xs) (.int i) = L2.atI xs i := rfl
theorem ixT_str : ixT S (.str x) (.int i) = if x.length ≤ sizeLine then (L2.atI x i).map fun c => .str [c] else none := rfl
theorem res_ref {ts : List T} (h : S p = some (.lst ts)) : res S (.ref p) = .lst ts := by simp only [res, h]
theorem ixT_ref (h : S p = some (.lst xs)) : ixT S (.ref p) (.int i) = L2.atI xs i := by simp only [ixT, res_ref h]
theorem atI_natE {α : Type} {xs : List α} {n : Nat} : L2.atI xs (n : Int) = xs[n]? := by
  unfold L2.atI ixN
  by_cases h : n < xs.length
  · have : ((n : Int) < (xs.length : Int)) := by omega
    simp [h, this]
  · have h2 : ¬ ((n : Int) < (xs.length : Int)) := by omega
    simp [h, h2]
theorem atI_0 {α : Type} {u : α} {xs : List α} : L2.atI (u :: xs) 0 = some u := atI_natE (n := 0)
theorem atI_1 {α : Type} {u v : α} {xs : List α} : L2.atI (u :: v :: xs) 1 = some v := atI_natE (n := 1)
theorem atI_2 {α : Type} {u v w : α} {xs : List α} : L2.atI (u :: v :: w :: xs) 2 = some w := atI_natE (n := 2)
theorem atI_3 {α : Type} {u v w z : α} {xs : List α} : L2.atI (u :: v :: w :: z :: xs) 3 = some z := atI_natE (n := 3)
theorem ixN_nat {m n : Nat} (h : n < m) : ixN m (n : Int) = some n := by
  unfold ixN
  have : ((n : Int) < (m : Int)) := by omega
  simp [this, h]
theorem ixT_ups {i : Int} : ixT (ups S p (.lst xs)) (.ref p) (.int i) = L2.atI xs i := ixT_ref ups_same
theorem atI_ok {α : Type} {us : List α} {i : Int} (h0 : 0 ≤ i) (h1 : i < us.length) : ∃ y, y ∈ us ∧ L2.atI us i = some y := by
  obtain ⟨n, rfl⟩ := Int.eq_ofNat_of_zero_le h0
  have : n < us.length := by omega
  exact ⟨us[n], List.getElem_mem _, by rw [atI_natE, List.getElem?_eq_getElem this]⟩
theorem ixN_30 : ixN 3 0 = some 0 := rfl
theorem ixN_31 : ixN 3 1 = some 1 := rfl
theorem ixN_32 : ixN 3 2 = some 2 := rfl
theorem lenF_lst : lenF S [.lst xs] = some (.int xs.length) := rfl
theorem lenF_tup : lenF S [.tup xs] = some (.int xs.length) := rfl
theorem lenF_str : lenF S [.str x] = if x.length ≤ sizeLine then some (.int x.length) else none := rfl
theorem lenF_ref (h : S p = some (.lst xs)) : lenF S [.ref p] = some (.int xs.length) := by simp only [lenF, res_ref h]
theorem lenF_ups : lenF (ups S p (.lst xs)) [.ref p] = some (.int xs.length) := lenF_ref ups_same
theorem absF_int : absF S [.int i] = some (.int (if i < 0 then -i else i)) := rfl
theorem intF_int : intF S [.int i] = some (.int i) := rfl
theorem intF_bl {k : Bool} : intF S [.bl k] = some (.int (if k = true then 1 else 0)) := rfl
theorem max2F_int : max2F S [.int i, .int j] = some (.int (if j > i then j else i)) := rfl
theorem min2F_int : min2F S [.int i, .int j] = some (.int (if j < i then j else i)) := rfl
theorem strF_int : strF S [.int i] = if i.natAbs.log2 < 1000 then some (.str (strI i)) else none := rfl
theorem isi_str {ks : List Kd} : isiT ks S (.str x) = some (.bl (ks.any fun c => Kd.is .str c)) := rfl
theorem isi_int {ks : List Kd} : isiT ks S (.int i) = some (.bl (ks.any fun c => Kd.is .int c)) := rfl
theorem isi_tup {ks : List Kd} : isiT ks S (.tup xs) = some (.bl (ks.any fun c => Kd.is .tup c)) := rfl
theorem isi_lst {ks : List Kd} : isiT ks S (.lst xs) = some (.bl (ks.any fun c => Kd.is .lst c)) := rfl
theorem slT_lst {lo hi : Option Int} : slT S (.lst xs) lo hi = some (.lst (cutT xs lo hi)) := rfl
theorem slT_tup {lo hi : Option Int} : slT S (.tup xs) lo hi = some (.tup (cutT xs lo hi)) := rfl
theorem slT_str {lo hi : Option Int} : slT S (.str x) lo hi = if x.length ≤ sizeLine then some (.str (cutT x lo hi)) else none := rfl
theorem slT_scr {ns : List Int} {lo hi : Option Int} : slT S (.scr ns) lo hi = some (.lst ((cutT ns lo hi).map T.int)) := rfl
theorem ups_ups {c d : Cell} : ups (ups S p c) p d = ups S p d := by
  funext b
  unfold ups
  split <;> rfl
theorem ups_eq {c : Cell} (h : S p = some c) : ups S p c = S := by
  funext b
  unfold ups
  split
  · rename_i e; subst e; exact h.symm
  · rfl
end
theorem sp1_at {p : T → Sto → (T → Sto → Prop) → (T → Sto → Prop) → Prop} {a : T} {S : Sto} {Q E : T → Sto → Prop} : sp1 p [a] S Q E = p a S Q E := by
  apply propext
  exact ⟨fun ⟨x, e, h⟩ => by cases e; exact h, fun h => ⟨_, rfl, h⟩⟩
theorem sp2_at {p : T → T → Sto → (T → Sto → Prop) → (T → Sto → Prop) → Prop} {a b : T} {S : Sto} {Q E : T → Sto → Prop} : sp2 p [a, b] S Q E = p a b S Q E := by
  apply propext
  exact ⟨fun ⟨x, y, e, h⟩ => by cases e; exact h, fun h => ⟨_, _, rfl, h⟩⟩
theorem sp3_at {p : T → T → T → Sto → (T → Sto → Prop) → (T → Sto → Prop) → Prop} {a b c : T} {S : Sto} {Q E : T → Sto → Prop} : sp3 p [a, b, c] S Q E = p a b c S Q E := by
  apply propext
  exact ⟨fun ⟨x, y, z, e, h⟩ => by cases e; exact h, fun h => ⟨_, _, _, rfl, h⟩⟩
theorem sp4_at {p : T → T → T → T → Sto → (T → Sto → Prop) → (T → Sto → Prop) → Prop} {a b c d : T} {S : Sto} {Q E : T → Sto → Prop} : sp4 p [a, b, c, d] S Q E = p a b c d S Q E := by
  apply propext
  exact ⟨fun ⟨x, y, z, w, e, h⟩ => by cases e; exact h, fun h => ⟨_, _, _, _, rfl, h⟩⟩
theorem sp5_at {p : T → T → T → T → T → Sto → (T → Sto → Prop) → (T → Sto → Prop) → Prop} {a b c d e : T} {S : Sto} {Q E : T → Sto → Prop} : sp5 p [a, b, c, d, e] S Q E = p a b c d e S Q E := by
  apply propext
  exact ⟨fun ⟨x, y, z, w, u, e, h⟩ => by cases e; exact h, fun h => ⟨_, _, _, _, _, rfl, h⟩⟩

theorem log2_lt {n k : Nat} (h : n < 2 ^ k) (hk : 0 < k) : n.log2 < k := by
  by_cases h0 : n = 0
  · subst h0; simpa using hk
  · exact (Nat.log2_lt h0).mpr h
theorem cut_to {α : Type} (xs : List α) (k : Nat) : cutT xs none (some (k : Int)) = xs.take k := by
  unfold cutT
  rw [HT.sIx_none, HT.sIx_nat, List.drop_zero, Nat.sub_zero]
  by_cases h : k ≤ xs.length
  · rw [Nat.min_eq_left h]
  · rw [Nat.min_eq_right (by omega), List.take_of_length_le (by omega), List.take_of_length_le (by omega)]
theorem cut_from {α : Type} (xs : List α) (k : Nat) : cutT xs (some (k : Int)) none = xs.drop k := by
  unfold cutT
  rw [HT.sIx_none, HT.sIx_nat]
  by_cases h : k ≤ xs.length
  · rw [Nat.min_eq_left h, List.take_of_length_le (by simp)]
  · rw [Nat.min_eq_right (by omega), Nat.sub_self, List.take_zero, List.drop_of_length_le (by omega)]
theorem cut_le {α : Type} (xs : List α) (lo : Option Int) (k : Int) (hk : 0 ≤ k) : (cutT xs lo (some k)).length ≤ k.toNat := by
  obtain ⟨n, rfl⟩ := Int.eq_ofNat_of_zero_le hk
  unfold cutT
  rw [HT.sIx_nat, List.length_take, Int.toNat_natCast]
  omega
theorem forT_inv {g : TTG} {b : TTS} {gd : Sto → Prop} {D : TD} {E : T → TEnv → Sto → Prop} (I : List T → TEnv → Sto → Prop) (hgd : ∀ xs τ S, I xs τ S → gd S) (hfin : ∀ τ S, I [] τ S → D.nx τ S)
    (hstep : ∀ x xs τ S, I (x :: xs) τ S → ∀ N : TEnv → Sto → Prop, (∀ τ' S', I xs τ' S' → N τ' S') → g x τ S fun τ1 S1 => b { D with nx := N, ct := N, bk := D.nx } τ1 S1 E) : ∀ xs τ S, I xs τ S → forT g b gd D E xs τ S
  | [], τ, S, h => ⟨hgd _ _ _ h, hfin _ _ h⟩
  | x :: xs, τ, S, h => ⟨hgd _ _ _ h, hstep x xs τ S h _ fun τ' S' h' => forT_inv I hgd hfin hstep xs τ' S' h'⟩
theorem compT_inv {g : TTG} {c : TTB} {e : TTE} {own : List Nat} {gd : Sto → Prop} {τ : TEnv} {K : List T → Sto → Prop} (I : List T → List T → Sto → Prop) (hgd : ∀ xs acc S, I xs acc S → gd S) (hz : ∀ x xs acc S, I (x :: xs) acc S → acc.length < sizeLine) (hfin : ∀ acc S, I [] acc S → K acc S)
    (hstep : ∀ x xs acc S, I (x :: xs) acc S → ∀ (R : T → Sto → Prop) (N : Sto → Prop), (∀ y S', I xs (acc ++ [y]) S' → R y S') → (∀ S', I xs acc S' → N S') →
      g x (wipeT τ own) S fun τ1 S1 => c τ1 S1 (fun k S2 => if k = true then e τ1 S2 R (fun _ _ => False) else N S2) (fun _ _ => False)) : ∀ xs acc S, I xs acc S → compT g c e own gd τ K xs acc S
  | [], acc, S, h => ⟨hgd _ _ _ h, hfin _ _ h⟩
  | x :: xs, acc, S, h => ⟨hgd _ _ _ h, hstep x xs acc S h _ _ (fun y S' h' => ⟨hz _ _ _ _ h, compT_inv I hgd hz hfin hstep xs (acc ++ [y]) S' h'⟩) fun S' h' => compT_inv I hgd hz hfin hstep xs acc S' h'⟩
/-- nothing is changed: a filter and a map -/
theorem compT_pure {g : TTG} {c : TTB} {e : TTE} {own : List Nat} {gd : Sto → Prop} {τ : TEnv} {K : List T → Sto → Prop} (p : T → Bool) (f : T → T) {S : Sto} (hgd : gd S) : ∀ (xs acc : List T), acc.length + xs.length ≤ sizeLine → K (acc ++ (xs.filter p).map f) S →
    (∀ x ∈ xs, ∀ (R : T → Sto → Prop) (N : Sto → Prop), (p x = true → R (f x) S) → (p x = false → N S) → g x (wipeT τ own) S fun τ1 S1 => c τ1 S1 (fun k S2 => if k = true then e τ1 S2 R (fun _ _ => False) else N S2) (fun _ _ => False)) →
    compT g c e own gd τ K xs acc S
  | [], acc, _, h, _ => ⟨hgd, by simpa using h⟩
  | x :: xs, acc, hl, h, hs => by
    rw [List.length_cons] at hl
    refine ⟨hgd, hs x List.mem_cons_self _ _ (fun hp => ⟨by omega, ?_⟩) fun hp => ?_⟩
    · refine compT_pure p f hgd xs _ (by rw [List.length_append]; simp; omega) ?_ fun y hy => hs y (List.mem_cons_of_mem _ hy)
      rw [List.filter_cons_of_pos hp] at h
      simpa using h
    · refine compT_pure p f hgd xs _ (by omega) ?_ fun y hy => hs y (List.mem_cons_of_mem _ hy)
      rwa [List.filter_cons_of_neg (by simp [hp])] at h
/-- nothing is changed: a map -/
theorem compT_map {g : TTG} {c : TTB} {e : TTE} {own : List Nat} {gd : Sto → Prop} {τ : TEnv} {K : List T → Sto → Prop} (f : T → T) {S : Sto} {xs : List T} (hgd : gd S) (hl : xs.length ≤ sizeLine) (hk : K (xs.map f) S)
    (hs : ∀ x ∈ xs, ∀ (R : T → Sto → Prop) (N : Sto → Prop), R (f x) S → g x (wipeT τ own) S fun τ1 S1 => c τ1 S1 (fun k S2 => if k = true then e τ1 S2 R (fun _ _ => False) else N S2) (fun _ _ => False)) : compT g c e own gd τ K xs [] S :=
  compT_pure (fun _ => true) f hgd xs [] (by simpa using hl) (by rw [List.filter_eq_self.mpr (fun _ _ => rfl)]; simpa using hk) fun x hx R N h _ => hs x hx R N (h rfl)

/-- more than enough -/
abbrev big : Nat := 1000000000000000000000000000000
/-- a pen that was drawn from n times at most -/
def PenC (n : Nat) (c : Cell) : Prop := ∃ (ns : List Int) (at_ rest : Int), c = .lst [.lst (ns.map T.int), .int at_, .int rest] ∧ 0 ≤ at_ ∧ at_ ≤ n ∧ 0 ≤ rest ∧ ns.length ≤ 63
theorem PenC.mono {m n : Nat} {c : Cell} (h : PenC m c) (k : m ≤ n) : PenC n c := by
  obtain ⟨ns, at_, rest, e, h1, h2, h3, h4⟩ := h
  exact ⟨ns, at_, rest, e, h1, by omega, h3, h4⟩
theorem mulI_b {i j : Int} (h1 : i.natAbs < 2 ^ 250) (h2 : j.natAbs < 2 ^ 250) : mulI i j = true := by
  unfold mulI
  have a := log2_lt h1 (by decide)
  have b := log2_lt h2 (by decide)
  exact decide_eq_true (by omega)
theorem divI_b {i j : Int} (h1 : 0 < j) (h2 : j < 1000000000000000000000000000001) : divI i j = true := by
  unfold divI
  rw [decide_eq_true (by omega), decide_eq_true (Nat.lt_trans (log2_lt (k := 250) (by omega) (by decide)) (by decide))]
  rfl
theorem modI_b {i j : Int} (h1 : 0 < j) : modI i j = true := by
  unfold modI
  exact decide_eq_true (by omega)
theorem fmod_lo {i j : Int} (h : 0 < j) : 0 ≤ i.fmod j := Int.fmod_nonneg_of_pos i h
theorem fmod_hi {i j : Int} (h : 0 < j) : i.fmod j < j := Int.fmod_lt_of_pos i h
theorem fdiv_lo {i j : Int} (h0 : 0 ≤ i) (h : 0 < j) : 0 ≤ i.fdiv j := Int.fdiv_nonneg h0 (by omega)
end TL
namespace TL
open PySem PySem.Spec PyProof.Rows L2
theorem law_start {P : Program} {K : PySem.W.Frag} {w : World} {sp : SpT} {H : Hp} {a : Addr} {ns : List Int} (h : sp [.scr ns] (fun _ => none) (fun z _ => z = .bl true) fun _ _ => False) (hO : Only H) (hS : SqL K H a (ns.map V.int)) :
    liftSp P K w sp [.ref a] H (fun v _ => v = .bl true) fun _ _ _ => False := by
  refine ⟨fun _ => False, [T.scr ns], fun _ => none, fun z _ => z = T.bl true, fun _ _ => False, .cons (.scr ?_) .nil, ⟨fun a c e => (nomatch e), fun _ m => False.elim m, fun _ m => False.elim m⟩, h, fun z S' v H' e _ _ r => ?_, fun x S' cls d H' q => False.elim q⟩
  · rcases hS with (hS | ⟨o, hS⟩) | hS
    · rcases hO a with z | ⟨o, xs, z⟩ <;> rw [z] at hS <;> cases hS
    · exact .inl ⟨o, hS, rfl, fun z => z⟩
    · exact .inr hS
  · subst e
    cases r
    rfl
theorem cx_none {P : Program} {w : World} {H : Hp} {s : Shared} {e : Value} {s' : Shared} (h : L2N.CX P w [] H s (fun _ _ _ => False) e s') : False := by
  obtain ⟨_, _, _, _, _, _, _, _, _, _, _, _, z⟩ := h
  exact z
/-- the law's def keeps its promise: the law holds -/
theorem walk_tl {l : PySem.W.OpenLaw} {k : Nat} {q : Program} {loose : List Str} {XP : (Str → Option Value) → Heap → Prop} {YP : World → Heap → Prop} {d : DefRec} {x y : Str} {sp : SpT}
    (hn : l.most = some 63) (hdf : d.params.defaults = []) (hr : Room k callerA) (hd : d.name = y) (hs : ∀ ns : List Int, ns.length ≤ 63 → sp [.scr ns] (fun _ => none) (fun z _ => z = .bl true) fun _ _ => False)
    (F : ∀ (w : World) (mg : Str → Option Value) (h : Heap), YP w h → h.Ns mainGlobals mg → ∃ K : PySem.W.Frag, K.In h ∧ mg y = some (.ref (He.ga K y)) ∧
      ∃ fd : FuncData, (∀ (s : Shared) (u : Value), BindsTo s fd ⟨[u], []⟩ [(x, u)]) ∧ ∀ base : Heap, K.In base → base.Ns mainGlobals mg → FnOk l.prog w K mg base (L2N.CX l.prog w) k (He.ga K y) fd [x] (liftSp l.prog K w sp)) :
    PySem.W.WalkO q loose XP YP l.row.toRowW d [] (fun f vs => PySem.call f vs) := by
  subst hd
  refine Att.attach_call hn hdf fun w s₀ s₁ mg mb fa o pm cd doc a vs ns G Y ho hd hcd hmg hobj hints hlen hg => ?_
  obtain ⟨K, KX, hm, fd, hb, hF⟩ := F w mg _ Y G.T.g
  cases hmg.symm.trans hm
  exact law_call KX G.T.g G.T.b G.T.builtins G.T.nolimit hg hobj hints (Nat.le_trans hlen (by decide)) hr hF hb (fun H hO hS => law_start (hs ns hlen) hO hS) fun H e s' => cx_none
/-- a row of facts, one by its place -/
theorem all_at {bs : List Bool} (h : bs.all id = true) (i : Nat) {b : Bool} (e : bs[i]? = some b := by rfl) : b = true := List.all_eq_true.mp h b (List.mem_of_getElem? e)
/-- a def's promise, its binding for a law's call -/
theorem law_def {K : PySem.W.Frag} {x y : Str} {qual : Str} {params : Arguments} {body : List Stmt} {scope : Scope} {fd : FuncData} (F : FunD K y qual params body scope [] [] (He.ga K y) fd)
    (h : ∀ (kV doc pm : Value) (an : Option Addr) (cdv ct : Value) (us : List Value), us.length = 1 → bindArgs (PySem.W.fnOf y qual params body scope .none kV doc pm an cdv ct) ⟨us, []⟩ = pure (([x] : List Str).zip us)) (s : Shared) (u : Value) : BindsTo s fd ⟨[u], []⟩ [(x, u)] :=
  (FunD.bindsA (ps := [x]) F h) s [u] rfl
end TL
namespace TL
open PySem PySem.Spec PyProof.Rows L2
section
variable {P : Program} {w : World}
/-- is of no class statement, n deep -/
def NoCls (P : Program) (w : World) (n : Nat) (s : Shared) (v : Value) : Prop := ∀ (A : Around) (E : Value → Shared → Prop) (Q : Bool → Shared → Prop), Q false s → wpAny (model P w) A (ofAClassStatement n v) Q E s
/-- the question of the hash is answered, somehow -/
def HashBy (P : Program) (w : World) (n : Nat) (s : Shared) (v : Value) : Prop := ∀ (A : Around) (E : Value → Shared → Prop) (Q : Bool → Shared → Prop), (∀ b, Q b s) → wpAny (model P w) A (hashByValue n v) Q E s
theorem NoCls.row {n : Nat} {s : Shared} {b : Addr} {o : Obj} {us : Array Value} {m : Nat} (h1 : s.heap.get? b = some o) (h2 : o.cls = .type "tuple") (h3 : o.data = .seq us m) (hq : ∀ u ∈ us.toList, NoCls P w n s u) : NoCls P w (n + 1) s (.ref b) := fun A E Q h => by
  have ty : s.TypeIs (.ref b) "tuple" := ⟨o, h1, h2⟩
  have same : (("tuple" : String) == "tuple") = true := by decide
  unfold ofAClassStatement
  refine wpAny_bind (wpAny_typeOf ty ?_)
  simp only [same, if_true]
  first | refine wpAny_bind (wpAny_pure ?_) | skip
  simp only [Bool.not_true, Bool.false_eq_true, if_false]
  refine wpAny_bind (wpAny_seqItems h1 h3 ?_)
  refine wpAny_bind ?_
  show wpAny _ _ (forIn us _ _) _ _ s
  rw [← Array.forIn_toList]
  refine wpAny_forIn_list _ (fun more z s' => z.1 = none ∧ s' = s ∧ ∀ u ∈ more, NoCls P w n s u) _ ?_ ?_ _ _ ⟨rfl, rfl, hq⟩
  · rintro u more z s' ⟨hz, rfl, all⟩
    refine wpAny_bind (all u List.mem_cons_self _ _ _ ?_)
    simp only [Bool.false_eq_true, if_false]
    exact wpAny_pure ⟨rfl, rfl, fun y hy => all y (List.mem_cons_of_mem _ hy)⟩
  · rintro ⟨z1, z2⟩ s' ⟨hz, rfl, _⟩
    obtain rfl : z1 = none := hz
    exact wpAny_pure h
theorem HashBy.row {n : Nat} {s : Shared} {b : Addr} {o : Obj} {us : Array Value} {m : Nat} (h1 : s.heap.get? b = some o) (h2 : o.cls = .type "tuple") (h3 : o.data = .seq us m) (hq : ∀ u ∈ us.toList, HashBy P w n s u) : HashBy P w (n + 1) s (.ref b) := fun A E Q h => by
  have ty : s.TypeIs (.ref b) "tuple" := ⟨o, h1, h2⟩
  unfold hashByValue
  refine wpAny_bind (wpAny_specialOf ty F.slot_tuple_hash.lookup ?_)
  show wpAny _ _ (seqItems? (.ref b) >>= _) _ _ s
  refine wpAny_bind (wpAny_seqItems h1 h3 ?_)
  refine wpAny_bind ?_
  show wpAny _ _ (forIn us _ _) _ _ s
  rw [← Array.forIn_toList]
  refine wpAny_forIn_list _ (fun more z s' => z.1 = none ∧ s' = s ∧ ∀ u ∈ more, HashBy P w n s u) _ ?_ ?_ _ _ ⟨rfl, rfl, hq⟩
  · rintro u more z s' ⟨hz, rfl, all⟩
    refine wpAny_bind (all u List.mem_cons_self _ _ _ fun c => ?_)
    cases c with
    | true =>
      simp only [Bool.not_true, Bool.false_eq_true, if_false]
      exact wpAny_pure ⟨rfl, rfl, fun y hy => all y (List.mem_cons_of_mem _ hy)⟩
    | false =>
      simp only [Bool.not_false, if_true]
      exact wpAny_pure (wpAny_pure (h false))
  · rintro ⟨z1, z2⟩ s' ⟨hz, rfl, _⟩
    obtain rfl : z1 = none := hz
    exact wpAny_pure (h true)
/-- an element: the tuple at the address is this key -/
def El (h : Heap) (p : NestedKey × Addr) : Prop := NestedIs h p.1 (.ref p.2) ∧ p.1.depth ≤ 8
theorem El.at {h h' : Heap} {p : NestedKey × Addr} (x : El h p) (hk : ∀ b o us n, h.get? b = some o → o.data = .seq us n → h'.get? b = some o) : El h' p := ⟨NestedIs.at hk _ _ x.1, x.2⟩
theorem El.but {h h' : Heap} {p : NestedKey × Addr} {a : Addr} {o : Obj} {es : Array (Int × Value)} {ep : Nat} {t : SetTable} (x : El h p) (h1 : h.get? a = some o) (h2 : o.data = .set es ep t) (sb : Heap.SameBut a h h') : El h' p :=
  x.at fun b u us n g1 g2 => (sb.2 b fun e => by subst e; rw [h1] at g1; cases g1; rw [h2] at g2; cases g2).trans g1
abbrev hw (w : World) (p : NestedKey × Addr) : Int := p.1.hash w
def rowS (w : World) (L : List (NestedKey × Addr)) : List (Int × Value) := L.map fun p => (hw w p, Value.ref p.2)
structure TabS (w : World) (h : Heap) (a : Addr) (L : List (NestedKey × Addr)) (es : Array (Int × Value)) (ep : Nat) (t : SetTable) : Prop where
  obj : ∃ o, h.get? a = some o ∧ o.ExactSet ∧ o.data = .set es ep t
  row : es.toList = rowS w L
  tab : TabOk t (L.map (hw w))
  ndp : (L.map (·.1)).Nodup
  els : ∀ p ∈ L, El h p
  led : w.params.followText "set-order" = true ∨ t.led = true
  gap : L.length * 5 < t.mask * 3
  few : L.length < 64
section
variable {h : Heap} {a : Addr} {L : List (NestedKey × Addr)} {es : Array (Int × Value)} {ep : Nat} {t : SetTable}
theorem row_len (e : es.toList = rowS w L) : es.size = L.length := by
  have := congrArg List.length e
  rwa [rowS, Array.length_toList, List.length_map] at this
theorem TabS.fits (R : TabS w h a L es ep t) : t.fits es.size = true := by
  have z1 := R.tab.sz
  have z2 := row_len R.row
  have z3 := R.gap
  rw [List.length_map] at z1
  simp only [SetTable.fits, SetTable.fill, R.tab.dm, Bool.and_eq_true, beq_iff_eq, decide_eq_true_eq]
  exact ⟨by omega, by simp; omega⟩
end
/-- the c-th step of a hash's way -/
abbrev pr (m : Nat) (x : Int) (c : Nat) : SetTable.Probe := nth m (runAt m (SetTable.bits x % (m + 1)) (SetTable.bits x)) c
section
variable {A : Around} {E : Value → Shared → Prop} {s : Shared} {a : Addr} {L : List (NestedKey × Addr)} {es : Array (Int × Value)} {ep : Nat} {t : SetTable} {p : NestedKey × Addr}
end
end
end TL
namespace TL
open PySem PySem.Spec PyProof.Rows L2
section
variable {P : Program} {w : World} {A : Around} {E : Value → Shared → Prop} {s : Shared}
abbrev mk (P : Program) (w : World) := mixKind P w
def rowK (P : Program) (w : World) (p : Key × Value) : Int × Value := ((mk P w).hash p.1, p.2)
def Sc (P : Program) (w : World) (p : Key × Value) : Prop := (mk P w).is p.1 p.2 = true ∧ p.2.scannable = true
structure ScanS (P : Program) (w : World) (h : Heap) (a : Addr) (L : List (Key × Value)) (es : Array (Int × Value)) (ep : Nat) (t : SetTable) : Prop where
  obj : ∃ o, h.get? a = some o ∧ o.ExactSet ∧ o.data = .set es ep t
  row : es.toList = L.map (rowK P w)
  els : ∀ p ∈ L, Sc P w p
  ndp : (L.map (·.1)).Nodup
  few : L.length < scanBound
  fits : t.fits es.size = true
  ris : Ris t.place.toList
  led : w.params.followText "set-order" = true ∨ t.led = true
variable {a : Addr} {L : List (Key × Value)} {es : Array (Int × Value)} {ep : Nat} {t : SetTable} {p : Key × Value}
end
end TL
namespace TL
open PySem PySem.Spec PyProof.Rows L2
section
variable {P : Program} {w : World} {A : Around} {E : Value → Shared → Prop} {s : Shared}
/-- how a set at S is filled: Bag i h: it holds the first i things; h0: what stays -/
structure Fills (P : Program) (w : World) (U : Nat) (S : Addr) (h0 : Heap) (n : Nat) (Pv : Nat → Value → Prop) (Bag : Nat → Heap → Prop) : Prop where
  keep : ∀ i h h', Bag i h → (∀ o, h.get? S = some o → h'.get? S = some o) → (∀ b o, h0.get? b = some o → h'.get? b = some o) → Bag i h'
  step : ∀ (A : Around) (i : Nat) (v : Value) (s : Shared) (Q : Bool → Shared → Prop) (E : Value → Shared → Prop), A.units ≤ U → i < n → Pv i v → Bag i s.heap → (∀ b o, h0.get? b = some o → s.heap.get? b = some o) →
    (∀ b h' tk, s.toks ≤ tk → Heap.SameBut S s.heap h' → Bag (i + 1) h' → Q b { s with heap := h', toks := tk }) → wpAny (model P w) A (setAdd S v) Q E s
end
end TL
namespace TL
open PySem PySem.Spec PyProof.Rows L2
mutual
def kx : T → Bool
  | .int _ => true
  | .str _ => true
  | .tup ts => kxs ts
  | _ => false
def kxs : List T → Bool
  | [] => true
  | t :: ts => kx t && kxs ts
end
mutual
theorem kx_plain : ∀ t : T, kx t = true → plain t = true
  | .int _, _ => rfl
  | .str _, _ => rfl
  | .tup ts, h => kxs_plain ts h
  | .non, h => by cases h
  | .bl _, h => by cases h
  | .lst _, h => by cases h
  | .ref _, h => by cases h
  | .exc _ _ _, h => by cases h
  | .dct _ _ _, h => by cases h
  | .obj _ _ _, h => by cases h
  | .fn _, h => by cases h
  | .scr _, h => by cases h
theorem kxs_plain : ∀ ts : List T, kxs ts = true → plains ts = true
  | [], _ => rfl
  | t :: ts, h => by
    simp only [kxs, Bool.and_eq_true] at h
    simp only [plains, Bool.and_eq_true]
    exact ⟨kx_plain t h.1, kxs_plain ts h.2⟩
end
mutual
def kf : T → NestedKey
  | .int i => .num i
  | .str x => .text (txt x)
  | .tup ts => .tup (kfs ts)
  | _ => .none
def kfs : List T → List NestedKey
  | [] => []
  | t :: ts => kf t :: kfs ts
end
mutual
theorem eqt_kx : ∀ x y : T, kx x = true → kx y = true → (eqt x y = true ↔ x = y)
  | .int i, y, _, hy => by
    cases y with
    | int j => simp [eqt]
    | str z => simp [eqt]
    | tup z => simp [eqt]
    | _ => cases hy
  | .str i, y, _, hy => by
    cases y with
    | str j => simp [eqt]
    | int z => simp [eqt]
    | tup z => simp [eqt]
    | _ => cases hy
  | .tup xs, y, hx, hy => by
    cases y with
    | tup ys =>
      simp only [eqt, T.tup.injEq]
      exact eqts_kx xs ys hx hy
    | int z => simp [eqt]
    | str z => simp [eqt]
    | _ => cases hy
  | .non, _, h, _ => by cases h
  | .bl _, _, h, _ => by cases h
  | .lst _, _, h, _ => by cases h
  | .ref _, _, h, _ => by cases h
  | .exc _ _ _, _, h, _ => by cases h
  | .dct _ _ _, _, h, _ => by cases h
  | .obj _ _ _, _, h, _ => by cases h
  | .fn _, _, h, _ => by cases h
  | .scr _, _, h, _ => by cases h
theorem eqts_kx : ∀ xs ys : List T, kxs xs = true → kxs ys = true → (eqts xs ys = true ↔ xs = ys)
  | [], [], _, _ => by simp [eqts]
  | [], _ :: _, _, _ => by simp [eqts]
  | _ :: _, [], _, _ => by simp [eqts]
  | x :: xs, y :: ys, hx, hy => by
    simp only [kxs, Bool.and_eq_true] at hx hy
    simp only [eqts, Bool.and_eq_true, List.cons.injEq]
    rw [eqt_kx x y hx.1 hy.1, eqts_kx xs ys hx.2 hy.2]
end
theorem strLt_total {x y : List Sg} (h1 : strLt x y = false) (h2 : strLt y x = false) : x = y := by
  simp only [strLt, decide_eq_false_iff_not] at h1 h2
  exact map_val_inj (List.le_antisymm (List.not_lt.mp h2) (List.not_lt.mp h1))
mutual
theorem ltt_total : ∀ x y : T, kx x = true → kx y = true → alk x y = true → ltt x y = false → ltt y x = false → x = y
  | .int i, y, _, hy, ha, h1, h2 => by
    cases y with
    | int j =>
      simp only [ltt, decide_eq_false_iff_not] at h1 h2
      have : i = j := by omega
      rw [this]
    | str z => simp [alk] at ha
    | tup z => simp [alk] at ha
    | _ => cases hy
  | .str i, y, _, hy, ha, h1, h2 => by
    cases y with
    | str j => rw [strLt_total h1 h2]
    | int z => simp [alk] at ha
    | tup z => simp [alk] at ha
    | _ => cases hy
  | .tup xs, y, hx, hy, ha, h1, h2 => by
    cases y with
    | tup ys => rw [ltts_total xs ys hx hy (by simpa [alk] using ha) h1 h2]
    | int z => simp [alk] at ha
    | str z => simp [alk] at ha
    | _ => cases hy
  | .non, _, h, _, _, _, _ => by cases h
  | .bl _, _, h, _, _, _, _ => by cases h
  | .lst _, _, h, _, _, _, _ => by cases h
  | .ref _, _, h, _, _, _, _ => by cases h
  | .exc _ _ _, _, h, _, _, _, _ => by cases h
  | .dct _ _ _, _, h, _, _, _, _ => by cases h
  | .obj _ _ _, _, h, _, _, _, _ => by cases h
  | .fn _, _, h, _, _, _, _ => by cases h
  | .scr _, _, h, _, _, _, _ => by cases h
theorem ltts_total : ∀ xs ys : List T, kxs xs = true → kxs ys = true → alks xs ys = true → ltts xs ys = false → ltts ys xs = false → xs = ys
  | [], [], _, _, _, _, _ => rfl
  | [], _ :: _, _, _, _, h, _ => by simp [ltts] at h
  | _ :: _, [], _, _, _, _, h => by simp [ltts] at h
  | x :: xs, y :: ys, hx, hy, ha, h1, h2 => by
    simp only [kxs, Bool.and_eq_true] at hx hy
    simp only [alks, Bool.and_eq_true] at ha
    rw [ltts_eq] at h1 h2
    by_cases e : x = y
    · subst e
      have r := (eqt_kx x x hx.1 hx.1).mpr rfl
      rw [if_pos r] at h1 h2
      rw [ltts_total xs ys hx.2 hy.2 ha.2 h1 h2]
    · have n1 : ¬ eqt x y = true := fun z => e ((eqt_kx x y hx.1 hy.1).mp z)
      have n2 : ¬ eqt y x = true := fun z => e ((eqt_kx y x hy.1 hx.1).mp z).symm
      rw [if_neg n1] at h1
      rw [if_neg n2] at h2
      exact absurd (ltt_total x y hx.1 hy.1 ha.1 h1 h2) e
end
def dedupT : List T → List T
  | [] => []
  | t :: ts => if (dedupT ts).any (eqt t) = true then dedupT ts else t :: dedupT ts
theorem kxs_all : ∀ {ts : List T}, kxs ts = true ↔ ∀ t ∈ ts, kx t = true
  | [] => by simp [kxs]
  | t :: ts => by simp [kxs, kxs_all (ts := ts)]
theorem nodup_le {α : Type} : ∀ {l m : List α}, l.Nodup → (∀ x ∈ l, x ∈ m) → l.length ≤ m.length
  | [], _, _, _ => Nat.zero_le _
  | x :: l, m, hn, hs => by
    obtain ⟨m1, m2, rfl⟩ := List.append_of_mem (hs x List.mem_cons_self)
    have := nodup_le (l := l) (m := m1 ++ m2) (List.nodup_cons.mp hn).2 fun y hy => by
      have := hs y (List.mem_cons_of_mem _ hy)
      simp only [List.mem_append, List.mem_cons] at this ⊢
      rcases this with z | z | z
      · exact .inl z
      · subst z; exact absurd hy (List.nodup_cons.mp hn).1
      · exact .inr z
    simp only [List.length_cons, List.length_append] at this ⊢
    omega
/-- sorted, each once -/
def sortU (ts : List T) : List T := (dedupT ts).mergeSort leT'
theorem dataLe_trans {k : T → PyData} : ∀ a b c : T, PySem.W.dataLe false k a b = true → PySem.W.dataLe false k b c = true → PySem.W.dataLe false k a c = true := fun a b c h1 h2 => by
  rw [PySem.W.dataLe_eq] at *
  simp only [cond_false, Bool.not_eq_true'] at *
  cases h : PySem.W.dataLt (k c) (k a) with
  | false => rfl
  | true =>
    rcases lex_negTrans _ (PySem.W.keyToks (k b)) _ h with z | z
    · exact absurd z (by rw [show PyProof.Rows.lexLt itemOrd (PySem.W.keyToks (k c)) (PySem.W.keyToks (k b)) = PySem.W.dataLt (k c) (k b) from rfl, h2]; simp)
    · exact absurd z (by rw [show PyProof.Rows.lexLt itemOrd (PySem.W.keyToks (k b)) (PySem.W.keyToks (k a)) = PySem.W.dataLt (k b) (k a) from rfl, h1]; simp)
end TL
namespace TL
open PySem PySem.Spec PyProof.Rows L2
theorem leT_data {ts : List T} (ok : sortOk ts = true) {a b : T} (ha : a ∈ ts) (hb : b ∈ ts) : PySem.W.dataLe false dat a b = leT' a b := by
  rw [PySem.W.dataLe_eq]
  show (!PySem.W.dataLt (dat b) (dat a)) = !ltt b a
  rw [(sortOk_of ok).2.2.2 b hb a ha]
section
variable {X : Cx} {pins : List (Addr × Obj)} {s : Shared} {σ : L2.St} {H : Hp} {S : Sto} {M : Addr → Prop}
def isScan : T → Bool
  | .int _ => true
  | .str _ => true
  | _ => false
def setOk (ts : List T) : Bool := kxs ts && ((ts.all isTup && (decide (deps ts ≤ 8) && decide ((dedupT ts).length ≤ 62))) || (ts.all isScan && decide ((dedupT ts).length + 2 < scanBound)))
theorem take_at {α : Type} {l : List α} {i : Nat} {x : α} (h : l[i]? = some x) : l.take (i + 1) = l.take i ++ [x] := by rw [List.take_add_one, h]; rfl
/-- what a set that is filled holds of the first i things -/
structure GotT {α : Type} (ks : List (T × α)) (i : Nat) (L : List (T × α)) : Prop where
  sub : ∀ p ∈ L, p ∈ ks.take i
  all : ∀ p ∈ ks.take i, p.1 ∈ L.map (·.1)
theorem GotT.old {α : Type} {ks L : List (T × α)} {i : Nat} {p : T × α} (g : GotT ks i L) (h : ks[i]? = some p) (hm : p.1 ∈ L.map (·.1)) : GotT ks (i + 1) L := by
  constructor
  · intro q hq
    rw [take_at h]
    exact List.mem_append_left _ (g.sub q hq)
  · intro q hq
    rw [take_at h] at hq
    rcases List.mem_append.mp hq with z | z
    · exact g.all q z
    · rw [List.mem_singleton.mp z]; exact hm
theorem GotT.new {α : Type} {ks L L' : List (T × α)} {i : Nat} {p : T × α} (g : GotT ks i L) (h : ks[i]? = some p) (pm : L'.Perm (p :: L)) : GotT ks (i + 1) L' := by
  constructor
  · intro q hq
    rw [take_at h]
    rcases List.mem_cons.mp (pm.mem_iff.mp hq) with e | z
    · rw [e]; simp
    · exact List.mem_append_left _ (g.sub q z)
  · intro q hq
    rw [(pm.map (·.1)).mem_iff, List.map_cons]
    rw [take_at h] at hq
    rcases List.mem_append.mp hq with z | z
    · exact List.mem_cons_of_mem _ (g.all q z)
    · rw [List.mem_singleton.mp z]; exact List.mem_cons_self
end
end TL
namespace TL
open PySem PySem.Spec PyProof.Rows L2
section
variable {X : Cx} {pins : List (Addr × Obj)} {s : Shared} {σ : L2.St} {H : Hp} {S : Sto} {M : Addr → Prop}
def ssetT (S : Sto) (x : T) : Option T := match res S x with
  | .lst ts => if (setOk ts && sortOk ts) = true then some (.lst (sortU ts)) else none
  | .tup ts => if (setOk ts && sortOk ts) = true then some (.lst (sortU ts)) else none
  | _ => none
def slenT (S : Sto) (x : T) : Option T := match res S x with
  | .lst ts => if setOk ts = true then some (.int (dedupT ts).length) else none
  | .tup ts => if setOk ts = true then some (.int (dedupT ts).length) else none
  | _ => none
variable {e : Expr} {te : TTE} {p p2 pos pos2 : Pos}
end
end TL
namespace TL
open PySem PySem.Spec PyProof.Rows L2
section
variable {S : Sto} {p : Addr} {xs ts : List T}
theorem offs_ups {c : Cell} (h : S p = none) : offs (ups S p c) p = S := by
  funext b
  unfold offs ups
  split
  · rename_i e; subst e; exact h.symm
  · rfl
theorem sub_offs : Sub (offs S p) S := fun a c e => by
  unfold offs at e
  split at e
  · cases e
  · exact e
/-- a list cell is given up at the end -/
theorem Fin.lst {Q : T → Sto → Prop} (h : S p = some (.lst ts)) (q : Q (.lst ts) (offs S p)) : Fin Q (.ref p) S := ⟨offs S p, .lst ts, sub_offs, .lstc h offs_same (fzs_same ts), q⟩
where fzs_same {S S2 : Sto} : ∀ ts : List T, Fzs S S2 ts ts
  | [] => .nil
  | t :: ts => .cons (.same t) (fzs_same ts)
/-- a cell that is not told of is given up -/
theorem Fin.drop {Q : T → Sto → Prop} {z : T} (h : Fin Q z (offs S p)) : Fin Q z S := by
  obtain ⟨S2, u, k1, k2, q⟩ := h
  refine ⟨S2, u, fun a c e => sub_offs a c (k1 a c e), ?_, q⟩
  exact fz_sub k2
where
  fz_sub {S2 : Sto} : ∀ {t u : T}, Fz (offs S p) S2 t u → Fz S S2 t u
    | _, _, .same t => .same t
    | _, _, .lstc h1 h2 h3 => .lstc (sub_offs _ _ h1) h2 (fzs_sub h3)
    | _, _, .dctc h1 h2 h3 => .dctc (sub_offs _ _ h1) h2 (fzs_sub h3)
    | _, _, .insc h1 h2 h3 => .insc (sub_offs _ _ h1) h2 (fzs_sub h3)
    | _, _, .tup h => .tup (fzs_sub h)
    | _, _, .lst h => .lst (fzs_sub h)
  fzs_sub {S2 : Sto} : ∀ {ts us : List T}, Fzs (offs S p) S2 ts us → Fzs S S2 ts us
    | _, _, .nil => .nil
    | _, _, .cons a b => .cons (fz_sub a) (fzs_sub b)
theorem ssetT_lst : ssetT S (.lst xs) = if (setOk xs && sortOk xs) = true then some (.lst (sortU xs)) else none := rfl
theorem ssetT_tup : ssetT S (.tup xs) = if (setOk xs && sortOk xs) = true then some (.lst (sortU xs)) else none := rfl
theorem slenT_lst : slenT S (.lst xs) = if setOk xs = true then some (.int (dedupT xs).length) else none := rfl
theorem slenT_tup : slenT S (.tup xs) = if setOk xs = true then some (.int (dedupT xs).length) else none := rfl
theorem sortedF_lst : sortedF S [.lst xs] = if (sortOk xs && decide (xs.length ≤ sizeLine)) = true then some (.lst (xs.mergeSort leT')) else none := rfl
theorem sortedF_tup : sortedF S [.tup xs] = if (sortOk xs && decide (xs.length ≤ sizeLine)) = true then some (.lst (xs.mergeSort leT')) else none := rfl
theorem tupleF_lst : tupleF S [.lst xs] = some (.tup xs) := rfl
theorem tupleF_tup : tupleF S [.tup xs] = some (.tup xs) := rfl
theorem listF_lst : listF S [.lst xs] = some (.lst xs) := rfl
theorem listF_tup : listF S [.tup xs] = some (.lst xs) := rfl
/-- strictly rising -/
def Rise (ts : List T) : Prop := ts.Pairwise fun a b => ltt a b = true
theorem pair_data {ts : List T} (ok : sortOk ts = true) : (ts.mergeSort leT').Pairwise fun a b => leT' a b = true := by
  have h : ∀ x ∈ ts, ∀ y ∈ ts, PySem.W.dataLt (dat x) (dat y) = ltt x y := (sortOk_of ok).2.2.2
  rw [← mergeSort_leT ts h]
  have total : ∀ a b : T, (PySem.W.dataLe false dat a b || PySem.W.dataLe false dat b a) = true := fun a b => by
    rw [PySem.W.dataLe_eq]
    simp only [cond_false, Bool.or_eq_true, Bool.not_eq_true']
    cases h : PySem.W.dataLt (dat b) (dat a) with
    | false => exact .inl rfl
    | true =>
      right
      cases h2 : PySem.W.dataLt (dat a) (dat b) with
      | false => rfl
      | true =>
        have := lex_trans _ _ _ h2 h
        rw [lex_irrefl] at this
        cases this
  refine (List.pairwise_mergeSort dataLe_trans total ts).imp_of_mem fun {a b} ha hb z => ?_
  rw [leT_data ok (List.mem_mergeSort.mp ha) (List.mem_mergeSort.mp hb)] at z
  exact z
/-- each once, sorted: strictly rising -/
theorem rise_sort {ts : List T} (kt : kxs ts = true) (ok : sortOk ts = true) (nd : ts.Nodup) : Rise (ts.mergeSort leT') := by
  have nd' : (ts.mergeSort leT').Nodup := (List.mergeSort_perm ts _).nodup_iff.mpr nd
  refine ((pair_data ok).and nd').imp_of_mem fun {a b} ha hb ⟨h1, h2⟩ => ?_
  have ha' := List.mem_mergeSort.mp ha
  have hb' := List.mem_mergeSort.mp hb
  cases h3 : ltt a b with
  | true => rfl
  | false =>
    have al : alk a b = true := by
      simp only [sortOk, Bool.and_eq_true, List.all_eq_true] at ok
      exact (ok.1 a ha').2 b hb'
    simp only [leT', Bool.not_eq_true'] at h1
    exact absurd (ltt_total a b (kxs_all.mp kt a ha') (kxs_all.mp kt b hb') al h3 h1) h2
end
end TL
namespace TL
open PySem PySem.Spec PyProof.Rows L2
section
variable {S : Sto} {p : Addr} {x y : List Sg} {xs : List (List Sg)}
theorem any_strs : ((xs.map T.str).any fun z => eqt z (.str x)) = decide (x ∈ xs) := by
  induction xs with
  | nil => rfl
  | cons y ys ih =>
    rw [List.map_cons, List.any_cons, ih]
    have e : eqt (.str y) (.str x) = decide (y = x) := rfl
    rw [e]
    by_cases h : y = x
    · subst h; simp
    · have h' : ¬ x = y := fun z => h z.symm
      simp [h, h']
theorem okd_strs : okd (.lst (xs.map T.str)) = true ∧ okd (.tup (xs.map T.str)) = true := by
  have p1 : plains (xs.map T.str) = true := by
    induction xs with
    | nil => rfl
    | cons y ys ih => rw [List.map_cons]; simp only [plains, ih, Bool.and_true]; rfl
  have d1 : deps (xs.map T.str) = 0 := by
    induction xs with
    | nil => rfl
    | cons y ys ih => rw [List.map_cons]; simp only [deps]; rw [ih (by rw [List.map_cons] at p1; simp only [plains, Bool.and_eq_true] at p1; exact p1.2)]; rfl
  simp only [okd, plain, dep, p1, d1]
  exact ⟨rfl, rfl⟩
theorem inQ_strs {z : T} (h : res S z = .lst (xs.map T.str) ∨ res S z = .tup (xs.map T.str)) : inQ S (.str x) z = some (decide (x ∈ xs)) := by
  unfold inQ
  rcases h with h | h
  · rw [h]
    simp only [okd_str, okd_strs.1, Bool.and_self, if_true, any_strs]
  · rw [h]
    simp only [okd_str, okd_strs.2, Bool.and_self, if_true, any_strs]
theorem inT_strs : inT S (.str x) (.lst (xs.map T.str)) = some (.bl (decide (x ∈ xs))) := by
  unfold inT; rw [inQ_strs (.inl rfl)]; rfl
theorem ninT_strs : ninT S (.str x) (.lst (xs.map T.str)) = some (.bl (!decide (x ∈ xs))) := by
  unfold ninT; rw [inQ_strs (.inl rfl)]; rfl
theorem inT_strsT : inT S (.str x) (.tup (xs.map T.str)) = some (.bl (decide (x ∈ xs))) := by
  unfold inT; rw [inQ_strs (.inr rfl)]; rfl
theorem ninT_strsT : ninT S (.str x) (.tup (xs.map T.str)) = some (.bl (!decide (x ∈ xs))) := by
  unfold ninT; rw [inQ_strs (.inr rfl)]; rfl
end
def lowers : List Sg := q "abcdefghijklmnopqrstuvwxyz"
def NameOk (x : List Sg) : Prop := 1 ≤ x.length ∧ x.length ≤ 8 ∧ ∀ c ∈ x, c ∈ lowers
instance (x : List Sg) : Decidable (NameOk x) := by unfold NameOk; infer_instance
theorem lowers_len : lowers.length = 26 := by decide +kernel
theorem atI_mem {α : Type} {us : List α} {i : Int} (h0 : 0 ≤ i) (h1 : i < us.length) : ∃ y, y ∈ us ∧ L2.atI us i = some y := atI_ok h0 h1
def MKS : List (List Sg) := (["w", "m", "o"] : List Str).map q
def famT (f : List (List Sg)) : T := .tup (f.map T.str)
def folkT (x : List Sg × Nat) : T := .tup [.str x.1, .str (MKS.getD x.2 [])]
def kinT (x : List Sg × List (List Sg)) : T := .tup [.str x.1, famT x.2]
structure Book where
  folk : List (List Sg × Nat)
  unions : List (List (List Sg))
  births : List (List Sg × List (List Sg))
  adopts : List (List Sg × List (List Sg))
structure FamOk (names : List (List Sg)) (f : List (List Sg)) : Prop where
  lo : 1 ≤ f.length
  hi : f.length ≤ 2
  rise : Rise (f.map T.str)
  nd : f.Nodup
  mem : ∀ x ∈ f, x ∈ names
structure KinOk (names : List (List Sg)) (unions : List (List (List Sg))) (b : List Sg × List (List Sg)) : Prop where
  kid : b.1 ∈ names
  fam : b.2 ∈ unions
  own : b.1 ∉ b.2
structure BookOk (B : Book) : Prop where
  name : ∀ x ∈ B.folk, NameOk x.1 ∧ x.2 < 3
  nd : (B.folk.map (·.1)).Nodup
  rf : Rise (B.folk.map folkT)
  lf : B.folk.length ≤ 16
  un : ∀ f ∈ B.unions, FamOk (B.folk.map (·.1)) f
  ru : Rise (B.unions.map famT)
  lu : B.unions.length ≤ 16
  bi : ∀ b ∈ B.births, KinOk (B.folk.map (·.1)) B.unions b
  rb : Rise (B.births.map kinT)
  lb : B.births.length ≤ 24
  ad : ∀ b ∈ B.adopts, KinOk (B.folk.map (·.1)) B.unions b
  ra : Rise (B.adopts.map kinT)
  la : B.adopts.length ≤ 12
theorem plains_strs (xs : List (List Sg)) : plains (xs.map T.str) = true := by
  induction xs with
  | nil => rfl
  | cons y ys ih => rw [List.map_cons]; simp only [plains, ih, Bool.and_true]; rfl
theorem deps_strs (xs : List (List Sg)) : deps (xs.map T.str) = 0 := by
  induction xs with
  | nil => rfl
  | cons y ys ih => rw [List.map_cons]; simp only [deps, ih]; rfl
theorem kxs_strs (xs : List (List Sg)) : kxs (xs.map T.str) = true := by
  induction xs with
  | nil => rfl
  | cons y ys ih => rw [List.map_cons]; simp only [kxs, ih, Bool.and_true]; rfl
theorem alks_strs : ∀ xs ys : List (List Sg), alks (xs.map T.str) (ys.map T.str) = true
  | [], ys => by cases ys <;> rfl
  | x :: xs, [] => rfl
  | x :: xs, y :: ys => by rw [List.map_cons, List.map_cons]; simp only [alks, alk, alks_strs xs ys, Bool.and_self]
theorem fam_facts (f : List (List Sg)) : kx (famT f) = true ∧ okd (famT f) = true ∧ dep (famT f) = 1 := by
  refine ⟨?_, ?_, ?_⟩
  · simp only [famT, kx, kxs_strs]
  · simp only [famT, okd, plain, dep, plains_strs, deps_strs]; rfl
  · simp only [famT, dep, deps_strs]
theorem fam_alk (f g : List (List Sg)) : alk (famT f) (famT g) = true := by simp only [famT, alk, alks_strs]
theorem kin_facts (b : List Sg × List (List Sg)) : kx (kinT b) = true ∧ okd (kinT b) = true ∧ dep (kinT b) = 2 := by
  obtain ⟨h1, h2, h3⟩ := fam_facts b.2
  have h4 := okd_plain h2
  refine ⟨?_, ?_, ?_⟩
  · simp only [kinT, kx, kxs, h1]; rfl
  · simp only [kinT, okd, plain, plains, dep, deps, h3, h4]; rfl
  · simp only [kinT, dep, deps, h3]; rfl
theorem kin_alk (a b : List Sg × List (List Sg)) : alk (kinT a) (kinT b) = true := by simp only [kinT, alk, alks, fam_alk, Bool.and_self]
theorem sortOk_of_tups {α : Type} {f : α → T} {xs : List α} (h1 : ∀ x ∈ xs, okd (f x) = true) (h2 : ∀ x ∈ xs, ∀ y ∈ xs, alk (f x) (f y) = true) (h3 : ∀ x ∈ xs, ∃ a l, f x = .tup (a :: l)) : sortOk (xs.map f) = true := by
  simp only [sortOk, Bool.and_eq_true, Bool.or_eq_true, List.all_eq_true]
  refine ⟨fun x hx => ?_, .inl fun x hx => ?_⟩
  · obtain ⟨a, ha, rfl⟩ := List.mem_map.mp hx
    refine ⟨h1 a ha, fun y hy => ?_⟩
    obtain ⟨b, hb, rfl⟩ := List.mem_map.mp hy
    exact h2 a ha b hb
  · obtain ⟨a, ha, rfl⟩ := List.mem_map.mp hx
    obtain ⟨z, l, e⟩ := h3 a ha
    rw [e]
theorem sortOk_strs (xs : List (List Sg)) : sortOk (xs.map T.str) = true := by
  simp only [sortOk, Bool.and_eq_true, Bool.or_eq_true, List.all_eq_true]
  refine ⟨fun x hx => ?_, .inr fun x hx => ?_⟩
  · obtain ⟨a, ha, rfl⟩ := List.mem_map.mp hx
    refine ⟨rfl, fun y hy => ?_⟩
    obtain ⟨b, hb, rfl⟩ := List.mem_map.mp hy
    rfl
  · obtain ⟨a, ha, rfl⟩ := List.mem_map.mp hx
    rfl
theorem kxs_map {α : Type} {f : α → T} {xs : List α} (h : ∀ x ∈ xs, kx (f x) = true) : kxs (xs.map f) = true := kxs_all.mpr fun t ht => by
  obtain ⟨a, ha, rfl⟩ := List.mem_map.mp ht
  exact h a ha
theorem deps_le {ts : List T} {k : Nat} (h : ∀ t ∈ ts, dep t ≤ k) : deps ts ≤ k := by
  induction ts with
  | nil => exact Nat.zero_le _
  | cons t ts ih =>
    simp only [deps]
    have := h t List.mem_cons_self
    have := ih fun x hx => h x (List.mem_cons_of_mem _ hx)
    omega
theorem plains_map {α : Type} {f : α → T} {xs : List α} (h : ∀ x ∈ xs, plain (f x) = true) : plains (xs.map f) = true := by
  induction xs with
  | nil => rfl
  | cons y ys ih =>
    rw [List.map_cons]
    simp only [plains, h y List.mem_cons_self, ih fun x hx => h x (List.mem_cons_of_mem _ hx), Bool.and_self]
theorem okd_map {α : Type} {f : α → T} {xs : List α} (h : ∀ x ∈ xs, okd (f x) = true ∧ dep (f x) ≤ 60) : okd (.lst (xs.map f)) = true ∧ okd (.tup (xs.map f)) = true := by
  have p := plains_map (f := f) fun x hx => okd_plain (h x hx).1
  have d : deps (xs.map f) ≤ 60 := deps_le fun t ht => by
    obtain ⟨a, ha, rfl⟩ := List.mem_map.mp ht
    exact (h a ha).2
  constructor
  · show (plains (xs.map f) && decide (deps (xs.map f) + 1 ≤ 64)) = true
    rw [p, decide_eq_true (by omega)]; rfl
  · show (plains (xs.map f) && decide (deps (xs.map f) + 1 ≤ 64)) = true
    rw [p, decide_eq_true (by omega)]; rfl
theorem nodup_map {α β : Type} {f : α → β} (inj : ∀ a b, f a = f b → a = b) {l : List α} (h : l.Nodup) : (l.map f).Nodup := List.pairwise_map.mpr (h.imp fun {a b} hne e => hne (inj a b e))
theorem str_inj {a b : List Sg} (h : T.str a = T.str b) : a = b := by injection h
end TL
namespace TL
open PySem PySem.Spec PyProof.Rows L2
def SqB (b : Bool) (K : PySem.W.Frag) (H : Hp) (a : Addr) (xs : List V) : Prop := cond b (SqL K H a xs) (SqT K H a xs)
def ItB (b : Bool) (h : Heap) (it l : Addr) (i : Nat) : Prop := cond b (h.IsListIter it l i) (h.IsTupleIter it l i)
def SeB (b : Bool) (h : Heap) (l : Addr) (items : Array Value) : Prop := cond b (h.IsList l items) (h.IsTuple l items)
def objB (b : Bool) (l : Addr) : Obj := cond b { cls := .type "list_iterator", data := .fields #[.ref l, .int 0 0] } { cls := .type "tuple_iterator", data := .fields #[.ref l, .int 0 0] }
theorem drawsB (b : Bool) {prog : Program} {w : World} {A : Around} (hh : A.handled = none) (it l : Addr) (hne : l ≠ it) (items : Array Value) :
    Draws prog w A it [it, l] items.size (fun i v => items[i]? = some v) (fun i h => ItB b h it l i ∧ SeB b h l items) := by
  cases b
  · exact Draws.tuple hh it l hne items
  · exact Draws.list hh it l hne items
theorem begins_B (b : Bool) (l : Addr) (items : Array Value) : Begins (.ref l) (objB b l) fun h => SeB b h l items := by
  cases b
  · exact begins_tuple l items
  · exact begins_list l items
theorem ItB.at {b : Bool} {h h' : Heap} {it l : Addr} {i : Nat} (x : ItB b h it l i) (k : ∀ o, h.get? it = some o → h'.get? it = some o) : ItB b h' it l i := by
  cases b
  · exact Heap.IsTupleIter.at x k
  · exact Heap.IsListIter.at x k
theorem ItB.obj {b : Bool} {h : Heap} {it l : Addr} {i : Nat} (x : ItB b h it l i) : ∃ o, h.get? it = some o ∧ ∀ v, o.data ≠ .cell v := by
  cases b
  · obtain ⟨o, ho, _, hd⟩ := x
    exact ⟨o, ho, fun v q => by rw [hd] at q; cases q⟩
  · obtain ⟨o, ho, _, hd⟩ := x
    exact ⟨o, ho, fun v q => by rw [hd] at q; cases q⟩
theorem ItB.new {b : Bool} {h : Heap} {it l : Addr} (x : h.get? it = some (objB b l)) : ItB b h it l 0 := by
  cases b
  · exact ⟨_, x, rfl, rfl⟩
  · exact ⟨_, x, rfl, rfl⟩
section
variable {X : Cx} {pins : List (Addr × Obj)} {σ : L2.St} {H : Hp} {s : Shared}
theorem sqB_get {b : Bool} {a : Addr} {xs : List V} (I : Inv X pins σ H s) (h : SqB b X.K H a xs) : ∃ its : List Value, Vals xs its ∧ SeB b s.heap a its.toArray ∧ a < s.heap.objs.size := by
  cases b
  · obtain ⟨its, rv, p, _⟩ := I.tuple h
    obtain ⟨o, ho, _⟩ := id p
    exact ⟨its, rv, p, Heap.lt_size ho⟩
  · obtain ⟨its, rv, p, _⟩ := I.list h
    exact ⟨its, rv, p.isList, p.lt⟩
theorem sqB_inj {b : Bool} {a : Addr} {xs ys : List V} (I : Inv X pins σ H s) (h : SqB b X.K H a xs) (k : SqB b X.K H a ys) : xs = ys := by
  cases b
  · exact I.tuple_inj h k
  · exact I.list_inj h k
end
/-- the row at a as it stands at each turn, each item in a new pair -/
def IteB (b : Bool) (K : PySem.W.Frag) (a : Addr) : It :=
  ⟨fun i H => ∃ (xs : List V) (x : V), SqB b K H a xs ∧ xs[i]? = some x, fun i H v H' => ∃ T x, v = .ref T ∧ H T = none ∧ (∃ o : Obj, o.dict = none ∧ H' = upd H T (fT o [.int (i : Nat), x])) ∧ ∀ xs, SqB b K H a xs → xs[i]? = some x, fun i H => ∃ xs : List V, SqB b K H a xs ∧ xs.length = i⟩
theorem turn_enumB (b : Bool) {P : Program} {w : World} {K : PySem.W.Frag} {elts : List Expr} {kk : Nat} {tpos : Pos} (a e it : Addr) (hei : e ≠ it) (hea : e ≠ a) (hai : a ≠ it) :
    Turn P w K (.Tuple elts kk tpos) (IteB b K a) [e, it] e (fun i h => (∃ old, IsEnum h e it ((i : Nat) : Int) old) ∧ ItB b h it a i) where
  mem := by simp
  obj := fun i h st c hc => by
    obtain ⟨⟨old, he⟩, hi⟩ := st
    have e' : c = e ∨ c = it := by simpa using hc
    rcases e' with z | z
    · rw [z]; exact ⟨_, he, fun v q => nomatch q⟩
    · rw [z]; exact hi.obj
  keep := fun i h h' st k => let ⟨⟨old, he⟩, hi⟩ := st; ⟨⟨old, k e (by simp) _ he⟩, hi.at fun o q => k it (by simp) o q⟩
  item := by
    intro X hP hw hK hc i pins s σ H E I hf st hg
    subst hP hw hK
    obtain ⟨⟨old, he⟩, hit⟩ := st
    obtain ⟨xs, x, hq, hx⟩ := hg
    obtain ⟨its, rv, p, _⟩ := sqB_get I hq
    obtain ⟨u, hu, ru⟩ := rv.get hx
    have hel : e < s.heap.objs.size := Heap.lt_size he
    have hil : it < s.heap.objs.size := by obtain ⟨_, q, _⟩ := hit.obj; exact Heap.lt_size q
    have hef : e ∉ [it, a] := by simp [hei, hea]
    have hlt : i < its.toArray.size := by
      have := (List.getElem?_eq_some_iff.mp hu).1
      simpa using this
    refine wpAny_pyNext_enum_itemD (drawsB b (A := X.A.in1) (I.ok.hd hc) it a hai its.toArray) he ⟨hit, p⟩ hlt hei hef fun x' h' tk hx' ho st' hT hsz hk => ?_
    have ex : x' = u := by
      have h1 : its.toArray[i]? = some u := by simpa using hu
      exact (Option.some.inj (h1.symm.trans hx')).symm
    subst ex
    refine ⟨_, rfl, wpAny_letOwnedTupleGo_enum (s := { s with heap := h', toks := tk + 1 }) ho fun h'' he' sb => ?_⟩
    have hT2 : h''.get? s.heap.objs.size = some { cls := .type "tuple", data := .seq #[.int i tk, x'] } := (sb.2 _ (Nat.ne_of_gt hel)).trans hT
    have new : ObjOk X.prog X.w (upd H s.heap.objs.size (fT { cls := .type "tuple", data := .seq #[.int i tk, x'] } [.int (i : Nat), x])) h'' s.heap.objs.size (fT { cls := .type "tuple", data := .seq #[.int i tk, x'] } [.int (i : Nat), x]) :=
      ⟨hT2, by show 2 ≤ sizeLine; decide, [.int i tk, x'], .cons ⟨_, rfl⟩ (.cons ru .nil), ⟨_, hT2, rfl, _, rfl⟩⟩
    have I1 : Inv X pins σ (upd H s.heap.objs.size (fT { cls := .type "tuple", data := .seq #[.int i tk, x'] } [.int (i : Nat), x])) { s with heap := h'', toks := tk + 1 } :=
      I.turnedNew (t' := tk + 1) (ch := [e, it]) (fun b ob hb q => (sb.2 b (fun z => hb (by simp [z]))).trans (hk b ob (fun z => hb (by simp [z])) (fun z => hb (by simp [z])) q)) hf (Nat.le_refl _) new
    refine ⟨.ref s.heap.objs.size, _, I1, rfl, ⟨_, x, rfl, I.hok.fresh (Nat.le_refl _), ⟨_, rfl, rfl⟩, fun ys hy => by rw [sqB_inj I hy hq]; exact hx⟩, ⟨⟨x', ?_⟩, st'.1.at fun o q => (sb.2 it (Ne.symm hei)).trans q⟩, fun b hb => ?_⟩
    · have e1 : ((i + 1 : Nat) : Int) = (i : Int) + 1 := by omega
      rw [e1]; exact he'
    · have hb' : b < s.heap.objs.size := by
        have e' : b = e ∨ b = it := by simpa using hb
        rcases e' with z | z
        · rw [z]; exact hel
        · rw [z]; exact hil
      rw [upd_ne (Nat.ne_of_lt hb')]
      exact (hf b hb).1
  done := by
    intro X hP hw hK hc i pins s σ H E I hf st hg
    subst hP hw hK
    obtain ⟨⟨old, he⟩, hit⟩ := st
    obtain ⟨xs, hq, hx⟩ := hg
    obtain ⟨its, rv, p, _⟩ := sqB_get I hq
    obtain ⟨f0, f1, f2, f3, f4, f5⟩ := hf it (by simp)
    have hl := rv.length
    have en : i = its.toArray.size := by simp; omega
    subst en
    exact wpAny_pyNext_enum_endD (drawsB b (A := X.A.in1) (I.ok.hd hc) it a hai its.toArray) he ⟨hit, p⟩ fun h' eb => ⟨rfl, I.turned (t' := s.toks) (fun b o hb q => eb b o hb q) f0 f1 f3 f4 f5⟩
  self := fun A i s Q E st h => let ⟨⟨_, he⟩, _⟩ := st; wpAny_pyIter_enum he h
theorem meets_enumerate_new1 {v : Value} {o : Obj} {H : Heap → Prop} (B : Begins v o H) :
    Meets (Builtin.«enumerate.__new__» ⟨[.type "enumerate", v], []⟩) (fun _ R s => H s.heap ∧
      R (.ok (.ret (.ref (s.heap.push o).objs.size))) { s with heap := (s.heap.push o).push { cls := .type "enumerate", data := .fields #[.none, .bool false, .ref s.heap.objs.size, rawInt 0, .none, .none] } }) :=
  .of_wp fun prog w A R s h => by
    obtain ⟨hp, g, d, tk, os⟩ := s; obtain ⟨h1, h⟩ := h
    have hsub := sub_enumerate
    have q1 : ∀ {A' : Around} {E : Value → Shared → Prop} {Q : Value → Shared → Prop}, Q (.ref hp.objs.size) ⟨hp.push o, g, d, tk, os⟩ → wpAny (model prog w) A' (pyIter v) Q E ⟨hp, g, d, tk, os⟩ :=
      fun q => B.iter prog w _ _ ⟨hp, g, d, tk, os⟩ _ h1 q
    wp_walk using q1
    refine wpAny_stack_any fun st => wpAny_pure ?_
    split
    · rename_i c _ _ _ _ _
      cases (c == Value.type "enumerate")
      · wp_walk using q1
        exact ⟨_, rfl, h⟩
      · wp_walk using q1
        exact ⟨_, rfl, h⟩
    · wp_walk using q1
      exact ⟨_, rfl, h⟩
theorem enum_begins1 {prog : Program} {w : World} {A : Around} {E : Value → Shared → Prop} {s : Shared} {v : Value} {o : Obj} {H : Heap → Prop} {Q : Value → Shared → Prop} (B : Begins v o H) (h1 : H s.heap)
    (h : ∀ h', IsEnum h' (s.heap.objs.size + 1) s.heap.objs.size 0 .none → h'.get? s.heap.objs.size = some o → h'.objs.size = s.heap.objs.size + 2 →
      (∀ b o, s.heap.get? b = some o → h'.get? b = some o) → Q (.ref (s.heap.objs.size + 1)) { s with heap := h' }) :
    wpAny (model prog w) A (call (.type "enumerate") [v]) Q E s := by
  refine callType_new F.called_enumerate (by decide) (F.typeCall_enumerate_1 _) (F.newCall_enumerate_1 _) (fun obj => F.args_object_init_2 obj _) F.entry_enumerate_new
    (meets_enumerate_new1 B) ⟨h1, ?_⟩
  have hz : (s.heap.push o).objs.size = s.heap.objs.size + 1 := Heap.size_push ..
  show _ ∧ _
  rw [hz]
  have he : IsEnum ((s.heap.push o).push { cls := .type "enumerate", data := .fields #[.none, .bool false, .ref s.heap.objs.size, rawInt 0, .none, .none] }) (s.heap.objs.size + 1) s.heap.objs.size 0 .none := by
    have := Heap.get?_push_size (s.heap.push o) (o := { cls := .type "enumerate", data := .fields #[.none, .bool false, .ref s.heap.objs.size, rawInt 0, .none, .none] }) rfl
    rw [hz] at this; exact this
  refine ⟨⟨_, he, rfl⟩, h _ he (Heap.get?_push_of_some _ (Heap.get?_push_size _ B.free)) (by rw [Heap.size_push, hz]) fun b o x => Heap.get?_push_of_some _ (Heap.get?_push_of_some _ x)⟩
def iEnumB (K : PySem.W.Frag) (ta : L2.TA) : L2.TI := fun σ H R => ta σ H fun vs H1 => ∃ b a xs, vs = [.ref a] ∧ SqB b K H1 a xs ∧ R (IteB b K a) H1
theorem pi_enumB {X : Cx} {e : Expr} {ta : L2.TA} {p pos tpos : Pos} {elts : List Expr} {kk : Nat} (hg : Gl X "enumerate") (hm : X.mg "enumerate" = none) (ha : PA X [e] ta) (hs : starEach [e] X.env = [(false, eval e X.env)] := by rfl) :
    PI X (.Tuple elts kk tpos) (.Call (.Name "enumerate" p) [e] [] pos) (iEnumB X.K ta) := by
  refine ⟨fun pins s σ H R I h => ?_⟩
  refine Call_ (ld_blt I hg hm boot_enumerate (PyProof.Rows.callWith_type1 (thn (ha.run pos pins s σ H _ I h) fun us s1 ⟨vs, H1, I1, r1, q1⟩ => ?_) hs rfl))
  obtain ⟨b, a, xs, ex, hq, q⟩ := q1
  subst ex
  cases r1 with
  | cons r rr =>
    cases rr
    cases r
    obtain ⟨its, rv, p', hl⟩ := sqB_get I1 hq
    refine enum_begins1 (begins_B b a its.toArray) p' fun h' he hit hsz hk => wpAny_pyIter_enum he ?_
    have I2 : Inv X pins σ H1 { s1 with heap := h' } := I1.kept (t' := s1.toks) hk
    refine ⟨s1.heap.objs.size + 1, [s1.heap.objs.size + 1, s1.heap.objs.size], _, _, H1, rfl, I2, turn_enumB b a (s1.heap.objs.size + 1) s1.heap.objs.size (Nat.succ_ne_self _) (Nat.ne_of_gt (Nat.lt_succ_of_lt hl)) (Nat.ne_of_lt hl), ⟨⟨.none, he⟩, ItB.new hit⟩, fun b hb => ?_, q⟩
    have e' : b = s1.heap.objs.size + 1 ∨ b = s1.heap.objs.size := by simpa using hb
    have hle : s1.heap.objs.size ≤ b := by
      rcases e' with z | z
      · rw [z]; exact Nat.le_add_right _ _
      · rw [z]; exact Nat.le_refl _
    exact I1.fpOk hle (I1.hok.fresh hle)
/-- the rows at a and c as they stand at each turn, the items in new pairs -/
def ItzB (b1 b2 : Bool) (K : PySem.W.Frag) (a c : Addr) : It :=
  ⟨fun i H => ∃ (xs ys : List V) (x y : V), SqB b1 K H a xs ∧ SqB b2 K H c ys ∧ xs[i]? = some x ∧ ys[i]? = some y,
    fun i H v H' => ∃ T x y, v = .ref T ∧ H T = none ∧ (∃ o : Obj, o.dict = none ∧ H' = upd H T (fT o [x, y])) ∧ (∀ xs, SqB b1 K H a xs → xs[i]? = some x) ∧ ∀ ys, SqB b2 K H c ys → ys[i]? = some y,
    fun i H => ∃ xs ys : List V, SqB b1 K H a xs ∧ SqB b2 K H c ys ∧ i ≤ xs.length ∧ i ≤ ys.length ∧ (i = xs.length ∨ i = ys.length)⟩
theorem turn_zipB (b1 b2 : Bool) {P : Program} {w : World} {K : PySem.W.Frag} {elts : List Expr} {kk : Nat} {tpos : Pos} {a c z TI TO i1 i2 : Addr} (D : ZipSep2 z TI TO i1 i2 [i1, a] [i2, c]) (n1 : a ≠ i1) (n2 : c ≠ i2) :
    Turn P w K (.Tuple elts kk tpos) (ItzB b1 b2 K a c) [z, TI, TO, i1, i2] z (fun i h => IsZip h z TI TO .none ∧ IsTupOf2 h TI (.ref i1) (.ref i2) ∧ (∃ x y, IsTupOf2 h TO x y) ∧ ItB b1 h i1 a i ∧ ItB b2 h i2 c i) where
  mem := by simp
  obj := fun i h st d hd => by
    obtain ⟨hz, hTI, ⟨x, y, hTO⟩, h1, h2⟩ := st
    have e' : d = z ∨ d = TI ∨ d = TO ∨ d = i1 ∨ d = i2 := by simpa using hd
    rcases e' with q | q | q | q | q
    · rw [q]; exact ⟨_, hz, fun v q => nomatch q⟩
    · rw [q]; exact ⟨_, hTI, fun v q => nomatch q⟩
    · rw [q]; exact ⟨_, hTO, fun v q => nomatch q⟩
    · rw [q]; exact h1.obj
    · rw [q]; exact h2.obj
  keep := fun i h h' st k => by
    obtain ⟨hz, hTI, ⟨x, y, hTO⟩, h1, h2⟩ := st
    exact ⟨k z (by simp) _ hz, k TI (by simp) _ hTI, ⟨x, y, k TO (by simp) _ hTO⟩, h1.at fun o q => k i1 (by simp) o q, h2.at fun o q => k i2 (by simp) o q⟩
  item := by
    intro X hP hw hK hc i pins s σ H E I hf st hg
    subst hP hw hK
    obtain ⟨hz, hTI, ⟨x0, y0, hTO⟩, h1, h2⟩ := st
    obtain ⟨xs, ys, x, y, hqx, hqy, hx, hy⟩ := hg
    obtain ⟨its, rv, p, _⟩ := sqB_get I hqx
    obtain ⟨its2, rv2, p2, _⟩ := sqB_get I hqy
    obtain ⟨u, hu, ru⟩ := rv.get hx
    obtain ⟨u2, hu2, ru2⟩ := rv2.get hy
    have hzl : z < s.heap.objs.size := Heap.lt_size hz
    have hlt1 : i < its.toArray.size := by
      have := (List.getElem?_eq_some_iff.mp hu).1
      simpa using this
    have hlt2 : i < its2.toArray.size := by
      have := (List.getElem?_eq_some_iff.mp hu2).1
      simpa using this
    refine wpAny_pyNext_zipD2_item D (drawsB b1 (A := X.A.in1) (I.ok.hd hc) i1 a n1 its.toArray) (drawsB b2 (A := X.A.in1) (I.ok.hd hc) i2 c n2 its2.toArray) hz hTI hTO ⟨h1, p⟩ ⟨h2, p2⟩ hlt1 hlt2 fun x' y' h' tk hx' hy' z' TO' st1 st2 hT hsz hk => ?_
    have ex : x' = u := by
      have q : its.toArray[i]? = some u := by simpa using hu
      exact (Option.some.inj (q.symm.trans hx')).symm
    have ey : y' = u2 := by
      have q : its2.toArray[i]? = some u2 := by simpa using hu2
      exact (Option.some.inj (q.symm.trans hy')).symm
    subst ex ey
    refine ⟨_, rfl, wpAny_letOwnedTupleGo_zip (s := { s with heap := h', toks := tk }) z' fun h'' z'' sb => ?_⟩
    have hT2 : h''.get? s.heap.objs.size = some { cls := .type "tuple", data := .seq #[x', y'] } := (sb.2 _ (Nat.ne_of_gt hzl)).trans hT
    have new : ObjOk X.prog X.w (upd H s.heap.objs.size (fT { cls := .type "tuple", data := .seq #[x', y'] } [x, y])) h'' s.heap.objs.size (fT { cls := .type "tuple", data := .seq #[x', y'] } [x, y]) :=
      ⟨hT2, by show 2 ≤ sizeLine; decide, [x', y'], .cons ru (.cons ru2 .nil), ⟨_, hT2, rfl, _, rfl⟩⟩
    have I1 : Inv X pins σ (upd H s.heap.objs.size (fT { cls := .type "tuple", data := .seq #[x', y'] } [x, y])) { s with heap := h'', toks := tk } :=
      I.turnedNew (t' := tk) (ch := [z, TI, TO, i1, i2]) (fun d o hb q => (sb.2 d (fun q' => hb (by simp [q']))).trans (hk d o (fun q' => hb (by simp [q'])) (fun q' => hb (by simp [q'])) (fun q' => hb (by simp [q'])) (fun q' => hb (by simp [q'])) q)) hf (Nat.le_refl _) new
    refine ⟨.ref s.heap.objs.size, _, I1, rfl, ⟨_, x, y, rfl, I.hok.fresh (Nat.le_refl _), ⟨_, rfl, rfl⟩, fun l hl => by rw [sqB_inj I hl hqx]; exact hx, fun l hl => by rw [sqB_inj I hl hqy]; exact hy⟩, ⟨z'', ?_, ⟨x', y', ?_⟩, ?_, ?_⟩, fun d hcm => ?_⟩
    · exact (sb.2 _ D.TIz).trans (hk _ _ D.TIz D.TITO D.TIi1 D.TIi2 hTI)
    · exact (sb.2 _ D.TOz).trans TO'
    · exact st1.1.at fun o q => (sb.2 _ (Ne.symm D.zi1)).trans q
    · exact st2.1.at fun o q => (sb.2 _ (Ne.symm D.zi2)).trans q
    · have hlt : d < s.heap.objs.size := by
        have e' : d = z ∨ d = TI ∨ d = TO ∨ d = i1 ∨ d = i2 := by simpa using hcm
        rcases e' with q | q | q | q | q
        · rw [q]; exact hzl
        · rw [q]; exact Heap.lt_size hTI
        · rw [q]; exact Heap.lt_size hTO
        · rw [q]; obtain ⟨_, e1, _⟩ := h1.obj; exact Heap.lt_size e1
        · rw [q]; obtain ⟨_, e2, _⟩ := h2.obj; exact Heap.lt_size e2
      rw [upd_ne (Nat.ne_of_lt hlt)]
      exact (hf d hcm).1
  done := by
    intro X hP hw hK hc i pins s σ H E I hf st hg
    subst hP hw hK
    obtain ⟨hz, hTI, ⟨x0, y0, hTO⟩, h1, h2⟩ := st
    obtain ⟨xs, ys, hqx, hqy, l1, l2, hend⟩ := hg
    obtain ⟨its, rv, p, _⟩ := sqB_get I hqx
    obtain ⟨its2, rv2, p2, _⟩ := sqB_get I hqy
    have k1 := rv.length
    have k2 := rv2.length
    exact wpAny_pyNext_zipD2_end D (drawsB b1 (A := X.A.in1) (I.ok.hd hc) i1 a n1 its.toArray) (drawsB b2 (A := X.A.in1) (I.ok.hd hc) i2 c n2 its2.toArray) hz hTI hTO ⟨h1, p⟩ ⟨h2, p2⟩ (by simp; omega) (by simp; omega) (by simp; omega) fun h' tk hk => ⟨rfl, I.turnedL (t' := tk) (ch := [z, TI, TO, i1, i2]) (fun d o hb q =>
      hk d o (fun q' => hb (by simp [q'])) (fun q' => hb (by simp [q'])) (fun q' => hb (by simp [q'])) (fun q' => hb (by simp [q'])) q) hf⟩
  self := fun A i s Q E st h => wpAny_pyIter_zip st.1 h
def iZipB (K : PySem.W.Frag) (ta : L2.TA) : L2.TI := fun σ H R => ta σ H fun vs H1 => ∃ b1 b2 a c xs ys, vs = [.ref a, .ref c] ∧ SqB b1 K H1 a xs ∧ SqB b2 K H1 c ys ∧ R (ItzB b1 b2 K a c) H1
theorem pi_zipB {X : Cx} {e e2 : Expr} {ta : L2.TA} {p pos tpos : Pos} {elts : List Expr} {kk : Nat} (hg : Gl X "zip") (hm : X.mg "zip" = none) (ha : PA X [e, e2] ta)
    (hs : starEach [e, e2] X.env = (false, eval e X.env) :: starEach [e2] X.env := by rfl) (hpl : (backTo pos (starEach [e2] X.env)).any (·.1) = false := by rfl) :
    PI X (.Tuple elts kk tpos) (.Call (.Name "zip" p) [e, e2] [] pos) (iZipB X.K ta) := by
  refine ⟨fun pins s σ H R I h => ?_⟩
  refine Call_ (ld_blt I hg hm PyProof.Rows.boot_zip (PyProof.Rows.callWith_type1 (thn (ha.run pos pins s σ H _ I h) fun us s1 ⟨vs, H1, I1, r1, q1⟩ => ?_) hs hpl))
  obtain ⟨b1, b2, a, c, xs, ys, ex, hqx, hqy, q⟩ := q1
  subst ex
  cases r1 with
  | cons r rr =>
    cases rr with
    | cons r' rr =>
      cases rr
      cases r
      cases r'
      have fresh5 : ∀ d, d ∈ [s1.heap.objs.size + 4, s1.heap.objs.size + 2, s1.heap.objs.size + 3, s1.heap.objs.size, s1.heap.objs.size + 1] → FpOk X pins H1 d := fun d hcm => by
        have e' : d = s1.heap.objs.size + 4 ∨ d = s1.heap.objs.size + 2 ∨ d = s1.heap.objs.size + 3 ∨ d = s1.heap.objs.size ∨ d = s1.heap.objs.size + 1 := by simpa using hcm
        have hle : s1.heap.objs.size ≤ d := by
          rcases e' with z | z | z | z | z
          · rw [z]; exact Nat.le_add_right _ _
          · rw [z]; exact Nat.le_add_right _ _
          · rw [z]; exact Nat.le_add_right _ _
          · rw [z]; exact Nat.le_refl _
          · rw [z]; exact Nat.le_add_right _ _
        exact I1.fpOk hle (I1.hok.fresh hle)
      obtain ⟨its, rv, p1, l1⟩ := sqB_get I1 hqx
      obtain ⟨its2, rv2, p2, l2⟩ := sqB_get I1 hqy
      refine zip_begins2 (begins_B b1 a its.toArray) (begins_B b2 c its2.toArray) p1 p2 fun h' hz hTI hTO h1 h2 hsz hk => wpAny_pyIter_zip hz ?_
      have I2 : Inv X pins σ H1 { s1 with heap := h' } := I1.kept (t' := s1.toks) hk
      exact ⟨s1.heap.objs.size + 4, [s1.heap.objs.size + 4, s1.heap.objs.size + 2, s1.heap.objs.size + 3, s1.heap.objs.size, s1.heap.objs.size + 1], _, _, H1, rfl, I2,
        turn_zipB b1 b2 (zip_sep2 (fp1 := [a]) (fp2 := [c]) (fun b hb => by rw [List.mem_singleton.mp hb]; exact l1) fun b hb => by rw [List.mem_singleton.mp hb]; exact l2) (Nat.ne_of_lt l1) (Nat.ne_of_lt (Nat.lt_succ_of_lt l2)), ⟨hz, hTI, ⟨_, _, hTO⟩, ItB.new h1, ItB.new h2⟩, fresh5, q⟩

def rowOf : T → Option (List T)
  | .tup xs => some xs
  | .lst xs => some xs
  | _ => none
/-- a row's place: a list or a tuple that stands -/
structure RowAt (G : Gd) (b : Bool) (a : Addr) (ts : List T) (S1 : Sto) (H1 : Hp) : Prop where
  get : ∀ (M' : Addr → Prop) S H, (∀ a, M' a → ¬ G.M a → H1 a = none) → StoOk (G.mask M') H S → Ext S1 H1 S H → ∃ ws, SqB b G.K H a ws ∧ Reps (G.mask M') H S ts ws
  len : ∀ S H, Ext S1 H1 S H → ∃ ws, SqB b G.K H a ws ∧ ws.length = ts.length
section
variable {G : Gd} {S1 : Sto} {H1 : Hp}
theorem row_list {a : Addr} {ws : List V} {ts : List T} (h : LstAt G H1 S1 a ws) (r : Reps G H1 S1 ts ws) : RowAt G true a ts S1 H1 :=
  ⟨fun M' S H nk o x => ⟨ws, (h.ext x).sq, Reps.ext x _ _ (Reps.mask (newK nk) _ _ r)⟩, fun S H x => ⟨ws, (h.ext x).sq, r.length.symm⟩⟩
theorem row_tup {a : Addr} {ws : List V} {ts : List T} (h : TupAt G H1 S1 a ws) (r : Reps G H1 S1 ts ws) : RowAt G false a ts S1 H1 :=
  ⟨fun M' S H nk o x => ⟨ws, (h.ext x).sq, Reps.ext x _ _ (Reps.mask (newK nk) _ _ r)⟩, fun S H x => ⟨ws, (h.ext x).sq, r.length.symm⟩⟩
theorem row_of {x : T} {v : V} {ts : List T} (r : Rep G H1 S1 x v) (e : rowOf x = some ts) : ∃ b a, v = .ref a ∧ RowAt G b a ts S1 H1 := by
  cases r with
  | tup h1 h2 =>
    obtain rfl := Option.some.inj e
    exact ⟨false, _, rfl, row_tup h1 h2⟩
  | lst h1 h2 =>
    obtain rfl := Option.some.inj e
    exact ⟨true, _, rfl, row_list h1 h2⟩
  | _ => cases e
def enumL (ts : List T) : List T := ts.zipIdx.map fun p => .tup [.int (p.2 : Nat), p.1]
def zipL (xs ys : List T) : List T := (xs.zip ys).map fun p => .tup [p.1, p.2]
theorem wks_enum {b : Bool} {a : Addr} {ts : List T} (h : RowAt G b a ts S1 H1) : Wks G (IteB b G.K a) (enumL ts) yes S1 H1 where
  go := fun M' S H i z nk o x _ hz => by
    obtain ⟨ws, q, r⟩ := h.get M' S H nk o x
    unfold enumL at hz
    rw [List.getElem?_map, List.getElem?_zipIdx] at hz
    cases hc : ts[i]? with
    | none => rw [hc] at hz; cases hz
    | some c =>
      rw [hc] at hz
      obtain rfl : T.tup [.int ((0 + i : Nat) : Int), c] = z := Option.some.inj hz
      obtain ⟨v, h1, h2⟩ := r.get hc
      refine ⟨⟨ws, v, q, h1⟩, ?_⟩
      rintro y H' ⟨A, w, rfl, hn, ⟨ob, nd, rfl⟩, hy⟩
      obtain rfl : v = w := Option.some.inj (h1.symm.trans (hy ws q))
      refine ⟨o.new hn, Ext.new hn, .tup (.inl ⟨ob, ⟨upd_same, nd⟩, o.free hn, o.nom hn⟩) (.cons ?_ (.cons (Rep.ext (Ext.new hn) _ _ h2) .nil))⟩
      rw [Nat.zero_add]
      exact .int _
  stop := fun M' S H o x _ => by
    obtain ⟨ws, q, l⟩ := h.len S H x
    exact ⟨ws, q, by unfold enumL; rw [List.length_map, List.length_zipIdx]; exact l⟩
theorem wks_zip {b1 b2 : Bool} {a c : Addr} {ts us : List T} (h : RowAt G b1 a ts S1 H1) (g : RowAt G b2 c us S1 H1) : Wks G (ItzB b1 b2 G.K a c) (zipL ts us) yes S1 H1 where
  go := fun M' S H i z nk o x _ hz => by
    obtain ⟨ws, q, r⟩ := h.get M' S H nk o x
    obtain ⟨ws2, q2, r2⟩ := g.get M' S H nk o x
    unfold zipL at hz
    rw [List.getElem?_map] at hz
    cases hc : (ts.zip us)[i]? with
    | none => rw [hc] at hz; cases hz
    | some p =>
      rw [hc] at hz
      obtain rfl : T.tup [p.1, p.2] = z := Option.some.inj hz
      obtain ⟨e1, e2⟩ := List.getElem?_zip_eq_some.mp hc
      obtain ⟨v, h1, h2⟩ := r.get e1
      obtain ⟨v2, k1, k2⟩ := r2.get e2
      refine ⟨⟨ws, ws2, v, v2, q, q2, h1, k1⟩, ?_⟩
      rintro y H' ⟨A, w, w2, rfl, hn, ⟨ob, nd, rfl⟩, hy, hy2⟩
      obtain rfl : v = w := Option.some.inj (h1.symm.trans (hy ws q))
      obtain rfl : v2 = w2 := Option.some.inj (k1.symm.trans (hy2 ws2 q2))
      exact ⟨o.new hn, Ext.new hn, .tup (.inl ⟨ob, ⟨upd_same, nd⟩, o.free hn, o.nom hn⟩) (.cons (Rep.ext (Ext.new hn) _ _ h2) (.cons (Rep.ext (Ext.new hn) _ _ k2) .nil))⟩
  stop := fun M' S H o x _ => by
    obtain ⟨ws, q, l⟩ := h.len S H x
    obtain ⟨ws2, q2, l2⟩ := g.len S H x
    have e : (zipL ts us).length = min ts.length us.length := by unfold zipL; rw [List.length_map, List.length_zip]
    exact ⟨ws, ws2, q, q2, by omega, by omega, by omega⟩
end
def iEnum (e : TTE) : TTI := fun τ S Q E => e τ S (fun x S1 => ∃ ts, rowOf x = some ts ∧ Q (enumL ts) yes S1) E
def iZip (a b : TTE) : TTI := fun τ S Q E => a τ S (fun x S1 => b τ S1 (fun y S2 => ∃ ts us, rowOf x = some ts ∧ rowOf y = some us ∧ Q (zipL ts us) yes S2) E) E
section
variable {X : Cx} {tg e a b : Expr} {te ta tb : TTE} {p pos tpos : Pos} {elts : List Expr} {kk : Nat}
theorem ti_enum (hg : Gl X "enumerate") (hm : X.mg "enumerate" = none) (ha : TE X a ta) (hs : starEach [a] X.env = [(false, eval a X.env)] := by rfl) : TI X (.Tuple elts kk tpos) (.Call (.Name "enumerate" p) [a] [] pos) (iEnum ta) := fun M S0 H0 E tk =>
  (pi_enumB hg hm (ta_cons ha ta_nil hs M S0 H0 E tk) hs).weak fun σ H R ⟨τ, S, Qt, rel, q, k⟩ => ⟨τ, S, fun zs S1 => ∃ x ts, zs = [x] ∧ rowOf x = some ts ∧ Qt (enumL ts) yes S1, rel, by
    have e : (fun (x : T) (S1 : Sto) => ∃ y ts, [x] = [y] ∧ rowOf y = some ts ∧ Qt (enumL ts) yes S1) = fun (x : T) (S1 : Sto) => ∃ ts, rowOf x = some ts ∧ Qt (enumL ts) yes S1 := by
      funext x S1
      simp only [List.cons.injEq, and_true]
      apply propext
      constructor
      · rintro ⟨y, ts, rfl, h⟩; exact ⟨ts, h⟩
      · rintro ⟨ts, h⟩; exact ⟨x, ts, rfl, h⟩
    show ta τ S (fun (x : T) (S1 : Sto) => ∃ y ts, [x] = [y] ∧ rowOf y = some ts ∧ Qt (enumL ts) yes S1) fun x S' => E x τ S'
    rw [e]
    exact q, fun zs S1 vs H1 hq o1 x1 r1 => by
    obtain ⟨x, ts, rfl, h1, hq⟩ := hq
    cases r1 with
    | cons r1 r2 =>
      cases r2
      obtain ⟨b, a, rfl, hr⟩ := row_of r1 h1
      obtain ⟨ws, q1, _⟩ := hr.len S1 H1 Ext.refl
      exact ⟨b, a, ws, rfl, q1, k _ _ S1 _ H1 hq o1 x1 (wks_enum hr)⟩⟩
theorem ti_zip (hg : Gl X "zip") (hm : X.mg "zip" = none) (ha : TE X a ta) (hb : TE X b tb) (hs : starEach [a, b] X.env = (false, eval a X.env) :: starEach [b] X.env := by rfl) (hs2 : starEach [b] X.env = [(false, eval b X.env)] := by rfl) (hpl : (backTo pos (starEach [b] X.env)).any (·.1) = false := by rfl) :
    TI X (.Tuple elts kk tpos) (.Call (.Name "zip" p) [a, b] [] pos) (iZip ta tb) := fun M S0 H0 E tk =>
  (pi_zipB hg hm (ta_cons ha (ta_cons hb ta_nil hs2) hs M S0 H0 E tk) hs hpl).weak fun σ H R ⟨τ, S, Qt, rel, q, k⟩ => ⟨τ, S, fun zs S1 => ∃ x y ts us, zs = [x, y] ∧ rowOf x = some ts ∧ rowOf y = some us ∧ Qt (zipL ts us) yes S1, rel, by
    have e : ∀ (x y : T) (S2 : Sto), (∃ x' y' ts us, [x, y] = [x', y'] ∧ rowOf x' = some ts ∧ rowOf y' = some us ∧ Qt (zipL ts us) yes S2) = ∃ ts us, rowOf x = some ts ∧ rowOf y = some us ∧ Qt (zipL ts us) yes S2 := fun x y S2 => by
      simp only [List.cons.injEq, and_true]
      apply propext
      constructor
      · rintro ⟨x', y', ts, us, ⟨rfl, rfl⟩, h⟩; exact ⟨ts, us, h⟩
      · rintro ⟨ts, us, h⟩; exact ⟨x, y, ts, us, ⟨rfl, rfl⟩, h⟩
    show ta τ S (fun x S1 => tb τ S1 (fun y S2 => ∃ x' y' ts us, [x, y] = [x', y'] ∧ rowOf x' = some ts ∧ rowOf y' = some us ∧ Qt (zipL ts us) yes S2) fun x S' => E x τ S') fun x S' => E x τ S'
    simp only [e]
    exact q, fun zs S1 vs H1 hq o1 x1 r1 => by
    obtain ⟨x, y, ts, us, rfl, h1, h2, hq⟩ := hq
    cases r1 with
    | cons r1 r2 =>
      cases r2 with
      | cons r2 r3 =>
        cases r3
        obtain ⟨b, a, rfl, hr⟩ := row_of r1 h1
        obtain ⟨b2, c, rfl, hr2⟩ := row_of r2 h2
        obtain ⟨ws, q1, _⟩ := hr.len S1 H1 Ext.refl
        obtain ⟨ws2, q2, _⟩ := hr2.len S1 H1 Ext.refl
        exact ⟨b, b2, a, c, ws, ws2, rfl, q1, q2, k _ _ S1 _ H1 hq o1 x1 (wks_zip hr hr2)⟩⟩
end
end TL
namespace TL
open PySem PySem.Spec PyProof.Rows L2
def kyT : T → Option Key
  | .int i => some (.inl i)
  | .str x => some (.inr (txt x))
  | _ => none
def dLk : List T → List T → Key → Option T
  | k :: ks, v :: vs, x => if kyT k = some x then some v else dLk ks vs x
  | _, _, _ => none
def dHs : List T → Key → Bool
  | k :: ks, x => if kyT k = some x then true else dHs ks x
  | [], _ => false
def dRp : List T → List T → Key → T → List T
  | k :: ks, v :: vs, x, y => (if kyT k = some x then y else v) :: dRp ks vs x y
  | _, _, _, _ => []
def dPk (ks : List T) (x : Key) (t : T) : List T := if dHs ks x = true then ks else ks ++ [t]
def dPv (ks vs : List T) (x : Key) (y : T) : List T := if dHs ks x = true then dRp ks vs x y else vs ++ [y]
section
variable {G : Gd} {H : Hp} {S : Sto}
theorem ky_rep {t : T} {v : V} {k : Key} (r : Rep G H S t v) (e : kyT t = some k) : v = kV k := by
  cases r <;> (cases e <;> rfl)
theorem ky_of {t : T} {k : Key} (r : Rep G H S t (kV k)) : kyT t = some k := by
  cases k with
  | inl i => cases r; rfl
  | inr x =>
    have : ∀ {v : V}, Rep G H S t v → v = .str x → kyT t = some (.inr x) := fun r e => by
      cases r <;> (cases e <;> rfl)
    exact this r rfl
theorem lk_rep : ∀ {ks vs : List T} {kvs : List (Key × V)} (k : Key), Reps G H S ks (kvs.map fun p => kV p.1) → Reps G H S vs (kvs.map (·.2)) →
    (∀ t, dLk ks vs k = some t → ∃ v, valV kvs k = some v ∧ Rep G H S t v) ∧ (dLk ks vs k = none → valV kvs k = none)
  | _, _, [], k, r1, r2 => by
    cases r1; cases r2
    exact ⟨fun t e => (by cases e), fun _ => rfl⟩
  | _, _, p :: kvs, k, r1, r2 => by
    cases r1 with
    | cons a1 a2 =>
      cases r2 with
      | cons b1 b2 =>
        have ih := lk_rep k a2 b2
        have e1 := ky_of a1
        unfold dLk
        rw [e1]
        by_cases q : p.1 = k
        · rw [if_pos (by rw [q]), valV_pos q]
          exact ⟨fun t e => (by cases e; exact ⟨_, rfl, b1⟩), fun e => (by cases e)⟩
        · rw [if_neg (fun z => q (Option.some.inj z)), valV_neg q]
          exact ih
theorem hs_rep : ∀ {ks : List T} {kvs : List (Key × V)} (k : Key), Reps G H S ks (kvs.map fun p => kV p.1) → (kvs.any fun kv => decide (kv.1 = k)) = dHs ks k
  | _, [], k, r1 => by cases r1; rfl
  | _, p :: kvs, k, r1 => by
    cases r1 with
    | cons a1 a2 =>
      have ih := hs_rep k a2
      have e1 := ky_of a1
      unfold dHs
      rw [e1, List.any_cons, ih]
      by_cases q : p.1 = k
      · rw [if_pos (by rw [q])]; simp [q]
      · rw [if_neg (fun z => q (Option.some.inj z))]; simp [q]
theorem rp_rep : ∀ {ks vs : List T} {kvs : List (Key × V)} (k : Key) {y : T} {v : V}, Reps G H S ks (kvs.map fun p => kV p.1) → Reps G H S vs (kvs.map (·.2)) → Rep G H S y v →
    Reps G H S ks ((kvs.map fun kv => if kv.1 = k then (kv.1, v) else kv).map fun p => kV p.1) ∧ Reps G H S (dRp ks vs k y) ((kvs.map fun kv => if kv.1 = k then (kv.1, v) else kv).map (·.2))
  | _, _, [], k, y, v, r1, r2, r => by
    cases r1; cases r2
    exact ⟨.nil, .nil⟩
  | _, _, p :: kvs, k, y, v, r1, r2, r => by
    cases r1 with
    | cons a1 a2 =>
      cases r2 with
      | cons b1 b2 =>
        obtain ⟨i1, i2⟩ := rp_rep k a2 b2 r
        have e1 := ky_of a1
        unfold dRp
        rw [e1]
        by_cases q : p.1 = k
        · rw [if_pos (by rw [q]), List.map_cons, if_pos q]
          exact ⟨.cons a1 i1, .cons r i2⟩
        · rw [if_neg (fun z => q (Option.some.inj z)), List.map_cons, if_neg q]
          exact ⟨.cons a1 i1, .cons b1 i2⟩
theorem put_rep {ks vs : List T} {kvs : List (Key × V)} {t y : T} {k : Key} {v : V} (r1 : Reps G H S ks (kvs.map fun p => kV p.1)) (r2 : Reps G H S vs (kvs.map (·.2))) (ht : Rep G H S t (kV k)) (r : Rep G H S y v) :
    Reps G H S (dPk ks k t) ((putK kvs k v).map fun p => kV p.1) ∧ Reps G H S (dPv ks vs k y) ((putK kvs k v).map (·.2)) := by
  unfold dPk dPv putK
  rw [hs_rep k r1]
  by_cases q : dHs ks k = true
  · rw [if_pos q, if_pos q, if_pos q]
    exact rp_rep k r1 r2 r
  · rw [if_neg q, if_neg q, if_neg q, List.map_append, List.map_append]
    exact ⟨r1.append (.cons ht .nil), r2.append (.cons r .nil)⟩
def dView (S : Sto) : T → Option (List T × List T)
  | .dct false ks vs => some (ks, vs)
  | .ref a => match S a with
    | some (.dct false ks vs) => some (ks, vs)
    | _ => none
  | _ => none
theorem dView_rep {x : T} {v : V} {p : List T × List T} (o : StoOk G H S) (r : Rep G H S x v) (e : dView S x = some p) : ∃ a kvs, v = .ref a ∧ Rd H a (.dK kvs) ∧ Reps G H S p.1 (kvs.map fun p => kV p.1) ∧ Reps G H S p.2 (kvs.map (·.2)) := by
  cases r with
  | dK h1 h2 h3 => cases e; exact ⟨_, _, rfl, h1.1, h2, h3⟩
  | ref a =>
    unfold dView at e
    cases q : S a with
    | none => simp [q] at e
    | some c =>
      cases c with
      | dct n ks vs =>
        cases n with
        | true => simp [q] at e
        | false =>
          simp only [q] at e
          cases e
          obtain ⟨kvs, h1, h2, h3⟩ := o.at_ a _ q
          exact ⟨a, kvs, rfl, .inl h1, h2, h3⟩
      | _ => simp [q] at e
  | _ => cases e
end
def dgT (S : Sto) (x y : T) : Option T := match dView S x, kyT y with
  | some p, some k => dLk p.1 p.2 k
  | _, _ => none
def dinQ (S : Sto) (x y : T) : Option Bool := match dView S y, kyT x with
  | some p, some k => some (dLk p.1 p.2 k).isSome
  | _, _ => none
def dninT (S : Sto) (x y : T) : Option T := (dinQ S x y).map fun b => .bl (!b)
def dg2T (S : Sto) (x y z : T) : Option T := match dView S x, kyT y with
  | some p, some k => some ((dLk p.1 p.2 k).getD z)
  | _, _ => none
def cGet2 (a b c : TTE) : TTE := fun τ S Q E => a τ S (fun x S1 => (∃ p, dView S1 x = some p) ∧ b τ S1 (fun y S2 => c τ S2 (fun z S3 => ∃ w, dg2T S3 x y z = some w ∧ Q w S3) E) E) E
def cDput (o i e : TTE) : TTS := fun D τ S E => e τ S (fun z S1 => o τ S1 (fun x S2 => i τ S2 (fun y S3 => ∃ a ks vs k, x = .ref a ∧ S3 a = some (.dct false ks vs) ∧ kyT y = some k ∧ ks.length < sizeLine ∧ D.nx τ (ups S3 a (.dct false (dPk ks k y) (dPv ks vs k z))))
  (fun x S' => E x τ S')) (fun x S' => E x τ S')) (fun x S' => E x τ S')
def cDnew : TTE := fun _ S Q _ => Q (.dct false [] []) S
def cDnewM : TTE := fun _ S Q _ => ∀ p, S p = none → Q (.ref p) (ups S p (.dct false [] []))
/-- pairs laid one behind the other -/
def mrgT : List T → List T → List T → Option (List T × List T)
  | [], ks, vs => some (ks, vs)
  | .tup [k, v] :: ts, ks, vs => match kyT k with
    | some x => mrgT ts (dPk ks x k) (dPv ks vs x v)
    | none => none
  | _ :: _, _, _ => none
def dictF (S : Sto) : List T → Option T
  | [x] => match res S x with
    | .lst ts => (mrgT ts [] []).map fun p => .dct false p.1 p.2
    | .tup ts => (mrgT ts [] []).map fun p => .dct false p.1 p.2
    | _ => none
  | _ => none
section
variable {X : Cx} {a b c o i e : Expr} {ta tb tc to ti te : TTE} {pos pos' apos cpos : Pos}
theorem te_dg (hu : X.A.units + 64 < cLine) (ha : TE X a ta) (hb : TE X b tb) (hs : NoSl b := by intro _ _; rfl) : TE X (.Subscript a b pos) (cOp dgT ta tb) := fun M S0 H0 E tk =>
  (pe_dget (by omega) (ha M S0 H0 E tk) (hb M S0 H0 E tk) hs).weak fun σ H Q ⟨τ, S, Qt, rel, h, k⟩ => ⟨τ, S, _, rel, h, fun zx S1 x H1 hb1 o1 x1 r1 => ⟨τ, S1, _, rel.step o1 x1, hb1, fun zy S2 y H2 ⟨z, e, hq⟩ o2 x2 r2 => by
    unfold dgT at e
    split at e
    · rename_i p kk h1 h2
      obtain ⟨d, kvs, rfl, hd, q1, q2⟩ := dView_rep o2 (Rep.ext x2 _ _ r1) h1
      obtain rfl := ky_rep r2 h2
      obtain ⟨v, e1, e2⟩ := (lk_rep kk q1 q2).1 z e
      exact ⟨d, v, rfl, .inl ⟨kvs, kk, hd, rfl, e1.symm⟩, k z S2 v H2 hq o2 (x1.trans x2) e2⟩
    · cases e⟩⟩
theorem op_dninT (hu : X.A.units + 65 < cLine) : OpT X (compareOp .NotIn) dninT := by
  intro pins s σ H x y v u Q I rx ry h
  obtain ⟨M, S, tx, ty, t, o, hx, hy, e, fin⟩ := h
  obtain ⟨b, hb, rfl⟩ := Option.map_eq_some_iff.mp e
  unfold dinQ at hb
  split at hb
  · rename_i p kk h1 h2
    obtain ⟨d, kvs, rfl, hd, q1, q2⟩ := dView_rep o hy h1
    obtain rfl := ky_rep hx h2
    obtain rfl := Option.some.inj hb
    obtain rfl : u = Value.ref d := ry
    refine d_notIn (by omega) I (.inl ⟨kvs, kk, hd, rfl, rfl⟩) rx fun s' I' => ⟨.bl _, H, I', rfl, ?_⟩
    have hl := lk_rep kk q1 q2
    cases q : dLk p.1 p.2 kk with
    | none =>
      rw [hl.2 q]
      rw [q] at fin
      exact fin _ H o Ext.refl (.bl _)
    | some z =>
      obtain ⟨v, e1, _⟩ := hl.1 z q
      rw [e1]
      rw [q] at fin
      exact fin _ H o Ext.refl (.bl _)
  · cases hb
theorem te_get2 (hu : X.A.units + 64 < cLine) (ha : TE X o ta) (hb : TE X b tb) (hc : TE X c tc) (m : M2 X o "get" apos b c cpos := by exact ⟨rfl, rfl, rfl, rfl⟩) : TE X (.Call (.Attribute o "get" apos) [b, c] [] cpos) (cGet2 ta tb tc) := fun M S0 H0 E tk =>
  (pe_dget2 (by omega) (ha M S0 H0 E tk) (hb M S0 H0 E tk) (hc M S0 H0 E tk) m).weak fun σ H Q ⟨τ, S, Qt, rel, h, k⟩ => ⟨τ, S, _, rel, h, fun zx S1 x H1 ⟨⟨p1, hp1⟩, hb1⟩ o1 x1 r1 => by
    obtain ⟨d, kvs, rfl, hd, q1, q2⟩ := dView_rep o1 r1 hp1
    exact ⟨d, rfl, .inl ⟨kvs, hd⟩, τ, S1, _, rel.step o1 x1, hb1, fun zy S2 y H2 hc1 o2 x2 r2 => ⟨τ, S2, _, rel.step o2 (x1.trans x2), hc1, fun zz S3 z H3 ⟨w, e, hq⟩ o3 x3 r3 => by
      unfold dg2T at e
      split at e
      · rename_i p kk h1 h2
        obtain ⟨d', kvs', ed, hd', q1', q2'⟩ := dView_rep o3 (Rep.ext (x2.trans x3) _ _ r1) h1
        cases ed
        obtain rfl := ky_rep r2 h2
        obtain rfl := Option.some.inj e
        have hl := lk_rep kk q1' q2'
        refine ⟨_, .inl ⟨kvs', kk, hd', rfl, rfl⟩, k _ S3 _ H3 hq o3 ((x1.trans x2).trans x3) ?_⟩
        cases q : dLk p.1 p.2 kk with
        | none => rw [hl.2 q]; exact r3
        | some t =>
          obtain ⟨v, e1, e2⟩ := hl.1 t q
          rw [e1]; exact e2
      · cases e⟩⟩⟩
theorem te_dnew : TE X (.Dict [] [] pos) cDnew := fun M S0 H0 E tk => pe_dnewK.weak fun σ H Q ⟨τ, S, Qt, rel, h, k⟩ p n => k _ S _ _ h (rel.sto.new n) (Ext.new n) (.dK (kvs := []) ⟨.inl upd_same, rel.sto.free n, rel.sto.nom n⟩ .nil .nil)
theorem te_dnewM : TE X (.Dict [] [] pos) cDnewM := fun M S0 H0 E tk => pe_dnewK.weak fun σ H Q ⟨τ, S, Qt, rel, h, k⟩ p n =>
  k (.ref p) (ups S p (.dct false [] [])) (.ref p) _ (h p (rel.sto.free n)) (rel.sto.cell (.inl n) ⟨[], upd_same, .nil, .nil⟩) (Ext.cell (.inl n)) (.ref p)
theorem ts_dput {i' : Expr} (hu : X.A.units + 64 < cLine) (ho : TE X o to) (hi : TE X i' ti) (hv : TE X e te) (hs : swapsWith e (some (.Subscript o i' pos')) pos.line X.env = pure false := by rfl) : TS X (.Assign [.Subscript o i' pos'] e pos) (cDput to ti te) := fun M S0 H0 E tk =>
  (ps_dput (by omega) (ho M S0 H0 E tk) (hi M S0 H0 E tk) (hv M S0 H0 E tk) hs).weak fun D σ H ⟨τ, S, B, rel, h, k1, _⟩ => ⟨τ, S, _, rel, h, fun zz S1 z H1 h1 o1 x1 r1 => ⟨τ, S1, _, rel.step o1 x1, h1, fun zx S2 x H2 h2 o2 x2 r2 => ⟨τ, S2, _, rel.step o2 (x1.trans x2), h2, fun zy S3 y H3 ⟨a, ks, vs, kk, ea, es, ek, hl, hn⟩ o3 x3 r3 => by
    subst ea
    cases r2
    obtain ⟨kvs, g1, g2, g3⟩ := o3.at_ a _ es
    obtain rfl := ky_rep r3 ek
    have hlen : kvs.length < sizeLine := by
      have := g2.length
      rw [List.length_map] at this
      omega
    obtain ⟨p1, p2⟩ := put_rep g2 g3 r3 (Rep.ext (x2.trans x3) _ _ r1)
    have xc : Ext S3 H3 (ups S3 a (.dct false (dPk ks kk zy) (dPv ks vs kk zz))) (upd H3 a (.dK (putK kvs kk z))) := Ext.cell (.inr ⟨_, es⟩)
    refine ⟨a, upd H3 a (.dK (putK kvs kk z)), rfl, .inl ⟨kvs, kk, g1, rfl, hlen, rfl⟩, ?_⟩
    have rel4 := rel.step (o3.cell (o := .dK (putK kvs kk z)) (c := .dct false (dPk ks kk zy) (dPv ks vs kk zz)) (.inr ⟨_, es⟩) ⟨putK kvs kk z, upd_same, Reps.ext xc _ _ p1, Reps.ext xc _ _ p2⟩) (((x1.trans x2).trans x3).trans xc)
    exact k1 σ _ τ _ rel4 (((x1.trans x2).trans x3).trans xc) hn⟩⟩⟩
theorem mrg_rep {G : Gd} {H : Hp} {S : Sto} : ∀ {ts ks vs : List T} {ps : List V} {acc : List (Key × V)} {r : List T × List T}, mrgT ts ks vs = some r → Reps G H S ts ps → Reps G H S ks (acc.map fun p => kV p.1) → Reps G H S vs (acc.map (·.2)) →
    ∃ (as : List Addr) (kvs : List (Key × V)), ps = as.map V.ref ∧ Paired (fun p (kv : Key × V) => SqT G.K H p [kV kv.1, kv.2]) as kvs ∧ Reps G H S r.1 ((mergeK acc kvs).map fun p => kV p.1) ∧ Reps G H S r.2 ((mergeK acc kvs).map (·.2))
  | [], ks, vs, ps, acc, r, e, h, h1, h2 => by
    cases h
    cases e
    exact ⟨[], [], rfl, .nil, h1, h2⟩
  | t :: ts, ks, vs, ps, acc, r, e, h, h1, h2 => by
    unfold mrgT at e
    split at e
    · rename_i h0; cases h0
    · rename_i k v ts' e0
      cases e0
      split at e
      · rename_i x hx
        cases h with
        | cons a1 a2 =>
          cases a1 with
          | tup b1 b2 =>
            cases b2 with
            | cons c1 c2 =>
              cases c2 with
              | cons c2 c3 =>
                cases c3
                obtain rfl := ky_rep c1 hx
                obtain ⟨p1, p2⟩ := put_rep h1 h2 c1 c2
                obtain ⟨as, kvs, e1, e2, e3, e4⟩ := mrg_rep e a2 p1 p2
                exact ⟨_ :: as, (x, _) :: kvs, by rw [e1]; rfl, .cons b1.sq e2, e3, e4⟩
      · cases e
    · cases e
theorem fn_dict (hc : X.calm = true) : CallT X (.type "dict") dictF := by
  intro pins s σ H xs us Q I r h
  obtain ⟨M, S, ts, t, o, rs, e, fin⟩ := h
  unfold dictF at e
  split at e
  · obtain ⟨v, rfl, ry⟩ := rs.one
    split at e
    · rename_i zs hz
      obtain ⟨p, hp, rfl⟩ := Option.map_eq_some_iff.mp e
      obtain ⟨a, ws, rfl, h1, h2⟩ := res_lst o ry hz
      obtain ⟨as, kvs, rfl, e2, e3, e4⟩ := mrg_rep (acc := []) hp h2 .nil .nil
      exact call_dictP hc pins s σ H _ us Q I r ⟨a, as, kvs, rfl, SqL.of h1, e2, fun q n => fin _ _ (o.new n) (Ext.new n) (.dK ⟨.inl upd_same, o.free n, o.nom n⟩ (Reps.ext (Ext.new n) _ _ e3) (Reps.ext (Ext.new n) _ _ e4))⟩
    · rename_i zs hz
      obtain ⟨p, hp, rfl⟩ := Option.map_eq_some_iff.mp e
      obtain rfl := res_id hz fun _ z => nomatch z
      cases ry with
      | tup h1 h2 =>
        obtain ⟨as, kvs, rfl, e2, e3, e4⟩ := mrg_rep (acc := []) hp h2 .nil .nil
        exact call_dictT hc pins s σ H _ us Q I r ⟨_, as, kvs, rfl, h1.bare, e2, fun q n => fin _ _ (o.new n) (Ext.new n) (.dK ⟨.inl upd_same, o.free n, o.nom n⟩ (Reps.ext (Ext.new n) _ _ e3) (Reps.ext (Ext.new n) _ _ e4))⟩
    · cases e
  · cases e
end
end TL
namespace TL
open PySem PySem.Spec PyProof.Rows L2
inductive Res (κ α : Type) where
  | ok (a : α) (k : κ)
  | exc (x : T) (k : κ)
  | bad
def PM (κ α : Type) := κ → Res κ α
section
variable {κ α β γ : Type}
def pu (a : α) : PM κ α := fun k => .ok a k
def bd (m : PM κ α) (f : α → PM κ β) : PM κ β := fun k => match m k with
  | .ok a k' => f a k'
  | .exc x k' => .exc x k'
  | .bad => .bad
def thr (x : T) : PM κ α := fun k => .exc x k
def stuck : PM κ α := fun _ => .bad
def ofO (o : Option α) : PM κ α := fun k => match o with
  | some a => .ok a k
  | none => .bad
def gd (b : Prop) [Decidable b] : PM κ Unit := if b then pu () else stuck
def lft (m : PM Unit α) : PM κ α := fun k => match m () with
  | .ok a _ => .ok a k
  | .exc x _ => .exc x k
  | .bad => .bad
def Sat (r : Res κ α) (P : α → κ → Prop) (X : T → κ → Prop) : Prop := match r with
  | .ok a k => P a k
  | .exc x k => X x k
  | .bad => False
theorem bd_pu (m : PM κ α) : bd m pu = m := by
  funext k
  unfold bd pu
  cases m k <;> rfl
theorem pu_bd (a : α) (f : α → PM κ β) : bd (pu a) f = f a := rfl
theorem bd_bd (m : PM κ α) (f : α → PM κ β) (g : β → PM κ γ) : bd (bd m f) g = bd m fun a => bd (f a) g := by
  funext k
  unfold bd
  cases m k <;> rfl
theorem stuck_bd (f : α → PM κ β) : bd (stuck : PM κ α) f = stuck := rfl
theorem thr_bd (x : T) (f : α → PM κ β) : bd (thr x : PM κ α) f = thr x := rfl
theorem lft_pu (a : α) : lft (κ := κ) (pu a) = pu a := rfl
theorem ofO_some (a : α) : ofO (κ := κ) (some a) = pu a := rfl
theorem gd_true {b : Prop} [Decidable b] (h : b) : gd (κ := κ) b = pu () := if_pos h
theorem Sat.bd {m : PM κ α} {f : α → PM κ β} {k : κ} {P : β → κ → Prop} {X : T → κ → Prop} : Sat (bd m f k) P X ↔ Sat (m k) (fun a k' => Sat (f a k') P X) X := by
  unfold TL.bd
  cases m k <;> exact Iff.rfl
theorem Sat.mono {r : Res κ α} {P P' : α → κ → Prop} {X X' : T → κ → Prop} (h : Sat r P X) (h1 : ∀ a k, P a k → P' a k) (h2 : ∀ x k, X x k → X' x k) : Sat r P' X' := by
  cases r with
  | ok a k => exact h1 _ _ h
  | exc x k => exact h2 _ _ h
  | bad => exact h
theorem Sat.lft {m : PM Unit α} {k : κ} {P : α → κ → Prop} {X : T → κ → Prop} : Sat (lft m k) P X ↔ Sat (m ()) (fun a _ => P a k) (fun x _ => X x k) := by
  unfold TL.lft
  cases m () <;> exact Iff.rfl
end
abbrev Cs := List (Addr × Cell)
def emp : Sto := fun _ => none
structure SI {κ : Type} (W : κ → Sto) (l : Cs) (k : κ) (S : Sto) : Prop where
  at_ : ∀ e ∈ l, S e.1 = some e.2
  own : ∀ e ∈ l, W k e.1 = none
  nd : (l.map (·.1)).Nodup
  base : ∀ a c, W k a = some c → S a = some c
def En : TEnv → TEnv → Prop
  | [], [] => True
  | p :: ps, t :: ts => (p = none ∨ p = t) ∧ En ps ts
  | _, _ => False
theorem En.refl : ∀ τ, En τ τ
  | [] => trivial
  | _ :: ts => ⟨.inr rfl, En.refl ts⟩
theorem En.len : ∀ {p τ : TEnv}, En p τ → p.length = τ.length
  | [], [], _ => rfl
  | _ :: _, _ :: _, h => by rw [List.length_cons, List.length_cons, En.len h.2]
  | [], _ :: _, h => h.elim
  | _ :: _, [], h => h.elim
theorem En.get : ∀ {p τ : TEnv} {i : Nat} {x : T}, En p τ → p[i]? = some (some x) → τ[i]? = some (some x)
  | [], [], _, _, _, e => by simp at e
  | _ :: _, [], _, _, h, _ => h.elim
  | [], _ :: _, _, _, h, _ => h.elim
  | p :: ps, t :: ts, 0, x, h, e => by
    rw [List.getElem?_cons_zero] at e ⊢
    cases e
    rcases h.1 with z | z
    · cases z
    · rw [← z]
  | p :: ps, t :: ts, i + 1, x, h, e => by
    rw [List.getElem?_cons_succ] at e ⊢
    exact En.get h.2 e
theorem En.set : ∀ {p τ : TEnv} {i : Nat} {x : Option T}, En p τ → En (p.set i x) (τ.set i x)
  | [], [], _, _, h => h
  | _ :: _, [], _, _, h => h.elim
  | [], _ :: _, _, _, h => h.elim
  | _ :: _, _ :: _, 0, _, h => ⟨.inr rfl, h.2⟩
  | _ :: _, _ :: _, i + 1, _, h => ⟨h.1, En.set h.2⟩
theorem En.trans : ∀ {p q τ : TEnv}, En p q → En q τ → En p τ
  | [], [], [], _, _ => trivial
  | _ :: _, _ :: _, _ :: _, h, g => ⟨h.1.elim .inl fun e => g.1.elim (fun z => .inl (e.trans z)) fun z => .inr (e.trans z), En.trans h.2 g.2⟩
  | [], _ :: _, _, h, _ => h.elim
  | _ :: _, [], _, h, _ => h.elim
  | [], [], _ :: _, _, g => g.elim
  | _ :: _, _ :: _, [], _, g => g.elim
theorem En.wipe {p τ : TEnv} (h : En p τ) (vs : List Nat) : En (wipeT p vs) (wipeT τ vs) := by
  induction vs with
  | nil => exact h
  | cons v vs ih => exact En.set ih
/-- z, seen as v -/
def Vw (l : Cs) (z v : T) : Prop := z = v ∨ (∃ a xs, z = .ref a ∧ (a, Cell.lst xs) ∈ l ∧ v = .lst xs) ∨ ∃ a n ks vs, z = .ref a ∧ (a, Cell.dct n ks vs) ∈ l ∧ v = .dct n ks vs
def VwS (S : Sto) (z v : T) : Prop := z = v ∨ (∃ a xs, z = .ref a ∧ S a = some (.lst xs) ∧ v = .lst xs) ∨ ∃ a n ks vs, z = .ref a ∧ S a = some (.dct n ks vs) ∧ v = .dct n ks vs
section
variable {κ : Type} {W : κ → Sto} {l : Cs} {k : κ} {S : Sto}
theorem Vw.at {z v : T} (i : SI W l k S) (h : Vw l z v) : VwS S z v := h.imp id (Or.imp (fun ⟨a, xs, e, m, f⟩ => ⟨a, xs, e, i.at_ _ m, f⟩) fun ⟨a, n, ks, vs, e, m, f⟩ => ⟨a, n, ks, vs, e, i.at_ _ m, f⟩)
inductive VwsS (S : Sto) : List T → List T → Prop
  | nil : VwsS S [] []
  | cons {z v : T} {zs vs : List T} : VwS S z v → VwsS S zs vs → VwsS S (z :: zs) (v :: vs)
inductive Vws (l : Cs) : List T → List T → Prop
  | nil : Vws l [] []
  | cons {z v : T} {zs vs : List T} : Vw l z v → Vws l zs vs → Vws l (z :: zs) (v :: vs)
theorem Vws.at : ∀ {zs vs : List T}, SI W l k S → Vws l zs vs → VwsS S zs vs
  | _, _, _, .nil => .nil
  | _, _, i, .cons h t => .cons (h.at i) (Vws.at i t)
theorem SI.tail {e : Addr × Cell} (i : SI W (e :: l) k S) : SI W l k S := ⟨fun x h => i.at_ x (List.mem_cons_of_mem _ h), fun x h => i.own x (List.mem_cons_of_mem _ h), (List.nodup_cons.mp i.nd).2, i.base⟩
theorem SI.nil (i : SI W l k S) : SI W [] k S := ⟨fun _ h => (nomatch h), fun _ h => (nomatch h), List.nodup_nil, i.base⟩
/-- a new cell -/
theorem SI.new {a : Addr} {c : Cell} (i : SI W l k S) (n : S a = none) : SI W ((a, c) :: l) k (ups S a c) := by
  have na : ∀ e ∈ l, e.1 ≠ a := fun e h z => by have := i.at_ e h; rw [z, n] at this; cases this
  have nw : W k a = none := by
    cases q : W k a with
    | none => rfl
    | some d => rw [i.base a d q] at n; cases n
  refine ⟨fun e h => ?_, fun e h => ?_, List.nodup_cons.mpr ⟨fun h => ?_, i.nd⟩, fun b d h => ?_⟩
  · rcases List.mem_cons.mp h with z | z
    · subst z; exact ups_same
    · rw [ups_ne (na e z)]; exact i.at_ e z
  · rcases List.mem_cons.mp h with z | z
    · subst z; exact nw
    · exact i.own e z
  · obtain ⟨e, he, q⟩ := List.mem_map.mp h
    exact na e he q
  · have : b ≠ a := fun z => by rw [z, nw] at h; cases h
    rw [ups_ne this]
    exact i.base b d h
/-- a cell written -/
theorem SI.put {a : Addr} {c d : Cell} {l1 l2 : Cs} (i : SI W (l1 ++ (a, c) :: l2) k S) : SI W (l1 ++ (a, d) :: l2) k (ups S a d) := by
  have nd := i.nd
  rw [List.map_append, List.map_cons] at nd
  have hm : ∀ e, e ∈ l1 ++ l2 → e ∈ l1 ++ (a, c) :: l2 ∧ e.1 ≠ a := fun e h => by
    obtain ⟨n1, n2, n3⟩ := List.nodup_append.mp nd
    rcases List.mem_append.mp h with z | z
    · exact ⟨List.mem_append_left _ z, fun q => n3 e.1 (List.mem_map_of_mem z) a (by simp) q⟩
    · exact ⟨List.mem_append_right _ (List.mem_cons_of_mem _ z), fun q => (List.nodup_cons.mp n2).1 (by rw [← q]; exact List.mem_map_of_mem (f := (·.1)) z)⟩
  have ow := i.own (a, c) (List.mem_append_right _ List.mem_cons_self)
  have cut : ∀ e, e ∈ l1 ++ (a, d) :: l2 → e = (a, d) ∨ e ∈ l1 ++ l2 := fun e h => by
    rcases List.mem_append.mp h with z | z
    · exact .inr (List.mem_append_left _ z)
    · rcases List.mem_cons.mp z with z | z
      · exact .inl z
      · exact .inr (List.mem_append_right _ z)
  refine ⟨fun e h => ?_, fun e h => ?_, by rw [List.map_append, List.map_cons]; exact nd, fun b e h => ?_⟩
  · rcases cut e h with z | z
    · subst z; exact ups_same
    · obtain ⟨q1, q2⟩ := hm e z
      rw [ups_ne q2]
      exact i.at_ e q1
  · rcases cut e h with z | z
    · subst z; exact ow
    · exact i.own e (hm e z).1
  · have : b ≠ a := fun z => by rw [z] at h; rw [ow] at h; cases h
    rw [ups_ne this]
    exact i.base b e h
end
def OpV (op : Sto → T → T → Option T) : Prop := ∀ S z1 v1 z2 v2 r, VwS S z1 v1 → VwS S z2 v2 → op emp v1 v2 = some r → op S z1 z2 = some r
def UnV (op : Sto → T → Option T) : Prop := ∀ S z v r, VwS S z v → op emp v = some r → op S z = some r
def FnV (f : Sto → List T → Option T) : Prop := ∀ S zs vs r, VwsS S zs vs → f emp vs = some r → f S zs = some r
def MtV (f : Sto → T → List T → Option T) : Prop := ∀ S z v zs vs r, VwS S z v → VwsS S zs vs → f emp v vs = some r → f S z zs = some r
theorem res_ref_emp (a : Addr) : res emp (.ref a) = .ref a := rfl
/-- either resolved alike, or a thing that no operation takes -/
theorem VwS.res {S : Sto} {z v : T} (h : VwS S z v) : res S z = v ∧ res emp v = v ∨ (∃ a, v = .ref a) ∨ ∃ n ks vs, v = .dct n ks vs := by
  rcases h with rfl | ⟨a, xs, rfl, h, rfl⟩ | ⟨a, n, ks, vs, rfl, h, rfl⟩
  · cases z with
    | ref a => exact .inr (.inl ⟨a, rfl⟩)
    | _ => exact .inl ⟨rfl, rfl⟩
  · exact .inl ⟨by simp only [TL.res, h], rfl⟩
  · exact .inr (.inr ⟨n, ks, vs, rfl⟩)
theorem res_dct_emp (n : Bool) (ks vs : List T) : res emp (.dct n ks vs) = .dct n ks vs := rfl
theorem opv_of {op : Sto → T → T → Option T} (g : T → T → Option T) (h : ∀ S x y, op S x y = g (res S x) (res S y)) (n1 : ∀ a y, g (.ref a) y = none) (n2 : ∀ a x, g x (.ref a) = none)
    (n3 : ∀ n ks vs y, g (.dct n ks vs) y = none) (n4 : ∀ n ks vs x, g x (.dct n ks vs) = none) : OpV op := fun S z1 v1 z2 v2 r h1 h2 e => by
  rw [h] at e ⊢
  rcases h1.res with ⟨e1, e1'⟩ | ⟨a, rfl⟩ | ⟨n, ks, vs, rfl⟩
  · rcases h2.res with ⟨e2, e2'⟩ | ⟨a, rfl⟩ | ⟨n, ks, vs, rfl⟩
    · rw [e1, e2, ← e1', ← e2']; rw [e1', e2'] at e ⊢; exact e
    · rw [res_ref_emp, n2] at e; cases e
    · rw [res_dct_emp, n4] at e; cases e
  · rw [res_ref_emp, n1] at e; cases e
  · rw [res_dct_emp, n3] at e; cases e
theorem unv_of {op : Sto → T → Option T} (g : T → Option T) (h : ∀ S x, op S x = g (res S x)) (n1 : ∀ a, g (.ref a) = none) (n3 : ∀ n ks vs, g (.dct n ks vs) = none) : UnV op := fun S z v r h1 e => by
  rw [h] at e ⊢
  rcases h1.res with ⟨e1, e1'⟩ | ⟨a, rfl⟩ | ⟨n, ks, vs, rfl⟩
  · rw [e1]; rw [e1'] at e; exact e
  · rw [res_ref_emp, n1] at e; cases e
  · rw [res_dct_emp, n3] at e; cases e
/-- the first by its resolution, the second as it is -/
theorem opv_of1 {op : Sto → T → T → Option T} (g : T → T → Option T) (h : ∀ S x y, op S x y = g (res S x) y) (n1 : ∀ a y, g (.ref a) y = none) (n3 : ∀ n ks vs y, g (.dct n ks vs) y = none) (n2 : ∀ x ts, g x (.lst ts) = none) (n4 : ∀ n ks vs x, g x (.dct n ks vs) = none) : OpV op := fun S z1 v1 z2 v2 r h1 h2 e => by
  rw [h] at e ⊢
  have e2 : z2 = v2 := by
    rcases h2 with q | ⟨a, xs, _, _, rfl⟩ | ⟨a, n, ks, vs, _, _, rfl⟩
    · exact q
    · rw [n2] at e; cases e
    · rw [n4] at e; cases e
  subst e2
  rcases h1.res with ⟨e1, e1'⟩ | ⟨a, rfl⟩ | ⟨n, ks, vs, rfl⟩
  · rw [e1]; rw [e1'] at e; exact e
  · rw [res_ref_emp, n1] at e; cases e
  · rw [res_dct_emp, n3] at e; cases e
/-- numbers alone -/
theorem opv_flat {op : Sto → T → T → Option T} (g : T → T → Option T) (h : ∀ S x y, op S x y = g x y) (n1 : ∀ ts y, g (.lst ts) y = none) (n3 : ∀ n ks vs y, g (.dct n ks vs) y = none) (n2 : ∀ x ts, g x (.lst ts) = none) (n4 : ∀ n ks vs x, g x (.dct n ks vs) = none) : OpV op := fun S z1 v1 z2 v2 r h1 h2 e => by
  rw [h] at e ⊢
  have e2 : z2 = v2 := by
    rcases h2 with q | ⟨a, xs, _, _, rfl⟩ | ⟨a, n, ks, vs, _, _, rfl⟩
    · exact q
    · rw [n2] at e; cases e
    · rw [n4] at e; cases e
  have e1 : z1 = v1 := by
    rcases h1 with q | ⟨a, xs, _, _, rfl⟩ | ⟨a, n, ks, vs, _, _, rfl⟩
    · exact q
    · rw [n1] at e; cases e
    · rw [n3] at e; cases e
  rw [e1, e2]
  exact e
theorem opv_addT : OpV addT := opv_of (fun x y => match x, y with
  | .int i, .int j => some (.int (i + j))
  | .str a, .str b => if a.length + b.length ≤ sizeLine then some (.str (a ++ b)) else none
  | .tup a, .tup b => if a.length + b.length ≤ sizeLine then some (.tup (a ++ b)) else none
  | .lst a, .lst b => if a.length + b.length ≤ sizeLine then some (.lst (a ++ b)) else none
  | _, _ => none) (fun _ _ _ => rfl) (fun _ _ => rfl) (fun _ x => by cases x <;> rfl) (fun _ _ _ _ => rfl) fun _ _ _ x => by cases x <;> rfl
theorem opv_i2 {c : Int → Int → Bool} {f : Int → Int → T} : OpV (i2 c f) := opv_flat (fun x y => i2 c f emp x y) (fun _ _ _ => rfl) (fun _ _ => rfl) (fun _ _ _ _ => rfl) (fun x _ => by cases x <;> rfl) fun _ _ _ x => by cases x <;> rfl
theorem opv_subT : OpV subT := opv_i2
theorem opv_modT : OpV modT := opv_i2
theorem opv_mulT2 : OpV mulT2 := opv_flat (fun x y => mulT2 emp x y) (fun _ _ _ => rfl) (fun _ _ => rfl) (fun _ _ _ _ => rfl) (fun x _ => by cases x <;> rfl) fun _ _ _ x => by cases x <;> rfl
theorem okd_refN (a : Addr) : okd (.ref a) = false := rfl
theorem okd_dctN (n : Bool) (ks vs : List T) : okd (.dct n ks vs) = false := rfl
theorem opv_eqT : OpV eqT := opv_of (fun x y => if (okd x && okd y) = true then some (.bl (eqt x y)) else none) (fun _ _ _ => rfl) (fun _ _ => rfl) (fun _ x => by rw [okd_refN, Bool.and_false]; rfl) (fun _ _ _ _ => rfl) fun _ _ _ x => by rw [okd_dctN, Bool.and_false]; rfl
theorem opv_neT : OpV neT := opv_of (fun x y => if (okd x && okd y) = true then some (.bl (!eqt x y)) else none) (fun _ _ _ => rfl) (fun _ _ => rfl) (fun _ x => by rw [okd_refN, Bool.and_false]; rfl) (fun _ _ _ _ => rfl) fun _ _ _ x => by rw [okd_dctN, Bool.and_false]; rfl
/-- as they are -/
def OpX' (op : Sto → T → T → Option T) : Prop := ∀ S v1 v2 r, op emp v1 v2 = some r → op S v1 v2 = some r
theorem opx_ltT : OpX' ltT := fun _ _ _ _ h => h
theorem opx_gtT : OpX' gtT := fun _ _ _ _ h => h
theorem opx_leT : OpX' leT := fun _ _ _ _ h => h
theorem opx_isnT : OpX' isnT := fun _ _ _ _ h => h
theorem inQ_v {S : Sto} {x y v : T} {b : Bool} (h : VwS S y v) (e : inQ emp x v = some b) : inQ S x y = some b := by
  rcases h.res with ⟨e1, e1'⟩ | ⟨a, rfl⟩ | ⟨n, ks, vs, rfl⟩
  · unfold inQ at e ⊢
    rw [e1]
    rw [e1'] at e
    exact e
  · cases e
  · cases e
theorem opv_inT : ∀ S x y v r, VwS S y v → inT emp x v = some r → inT S x y = some r := fun S x y v r h e => by
  unfold inT at e ⊢
  cases q : inQ emp x v with
  | none => rw [q] at e; cases e
  | some b => rw [inQ_v h q]; rw [q] at e; exact e
theorem opv_ninT : ∀ S x y v r, VwS S y v → ninT emp x v = some r → ninT S x y = some r := fun S x y v r h e => by
  unfold ninT at e ⊢
  cases q : inQ emp x v with
  | none => rw [q] at e; cases e
  | some b => rw [inQ_v h q]; rw [q] at e; exact e
theorem opv_ixT : OpV ixT := opv_of1 (fun x y => match x, y with
  | .lst ts, .int i => L2.atI ts i
  | .tup ts, .int i => L2.atI ts i
  | .str z, .int i => if z.length ≤ sizeLine then (L2.atI z i).map fun c => .str [c] else none
  | _, _ => none) (fun _ _ _ => rfl) (fun _ _ => rfl) (fun _ _ _ _ => rfl) (fun x _ => by cases x <;> rfl) fun _ _ _ x => by cases x <;> rfl
theorem unv_negT : UnV negT := fun S z v r h e => by
  rcases h with rfl | ⟨a, xs, _, _, rfl⟩ | ⟨a, n, ks, vs, _, _, rfl⟩
  · exact e
  · cases e
  · cases e
theorem kdOf_v {S : Sto} {z v : T} {k : Kd} (h : VwS S z v) (e : kdOf emp v = some k) : kdOf S z = some k := by
  rcases h with rfl | ⟨a, xs, rfl, h, rfl⟩ | ⟨a, n, ks', vs, rfl, h, rfl⟩
  · cases z with
    | ref a => cases e
    | dct n ks vs => cases n <;> exact e
    | _ => exact e
  · simp only [kdOf, h]
    exact e
  · cases n with
    | false => simp only [kdOf, h]; exact e
    | true => cases e
theorem unv_isiT {ks : List Kd} : UnV (isiT ks) := fun S z v r h e => by
  unfold isiT at e ⊢
  cases q : kdOf emp v with
  | none => rw [q] at e; cases e
  | some k => rw [kdOf_v h q]; rw [q] at e; exact e
theorem fnv_one {f : Sto → List T → Option T} (g : T → Option T) (h : ∀ S x, f S [x] = g (res S x)) (n0 : f emp [] = none) (n2 : ∀ x y zs, f emp (x :: y :: zs) = none) (n1 : ∀ a, g (.ref a) = none) (n3 : ∀ n ks vs, g (.dct n ks vs) = none) : FnV f := fun S zs vs r hv e => by
  cases hv with
  | nil => rw [n0] at e; cases e
  | cons h1 ht =>
    cases ht with
    | nil =>
      exact unv_of (op := fun S x => f S [x]) g h n1 n3 S _ _ r h1 e
    | cons h2 ht => rw [n2] at e; cases e
theorem fnv_lenF : FnV lenF := fnv_one (fun x => match x with
  | .lst ts => some (.int ts.length)
  | .tup ts => some (.int ts.length)
  | .str z => if z.length ≤ sizeLine then some (.int z.length) else none
  | _ => none) (fun _ _ => rfl) rfl (fun _ _ _ => rfl) (fun _ => rfl) fun _ _ _ => rfl
theorem fnv_tupleF : FnV tupleF := fnv_one (fun x => match x with
  | .lst ts => some (.tup ts)
  | .tup ts => some (.tup ts)
  | _ => none) (fun _ _ => rfl) rfl (fun _ _ _ => rfl) (fun _ => rfl) fun _ _ _ => rfl
theorem fnv_allF : FnV allF := fnv_one (fun x => match x with
  | .lst ts => (blsOf ts).map fun bs => .bl (bs.all id)
  | _ => none) (fun _ _ => rfl) rfl (fun _ _ _ => rfl) (fun _ => rfl) fun _ _ _ => rfl
theorem fnv_sortedF : FnV sortedF := fnv_one (fun x => match x with
  | .lst ts => if (sortOk ts && decide (ts.length ≤ sizeLine)) = true then some (.lst (ts.mergeSort leT')) else none
  | .tup ts => if (sortOk ts && decide (ts.length ≤ sizeLine)) = true then some (.lst (ts.mergeSort leT')) else none
  | _ => none) (fun _ _ => rfl) rfl (fun _ _ _ => rfl) (fun _ => rfl) fun _ _ _ => rfl
/-- no views: a function of the values alone -/
def FnX' (f : Sto → List T → Option T) : Prop := ∀ S vs r, f emp vs = some r → f S vs = some r
theorem fnx_max2F : FnX' max2F := fun _ _ _ h => h
theorem VwsS.same {S : Sto} : ∀ (vs : List T), VwsS S vs vs
  | [] => .nil
  | _ :: vs => .cons (.inl rfl) (VwsS.same vs)
theorem mtv_joinF : MtV joinF := fun S z v zs vs r h hv e => by
  have hz : z = v := by
    rcases h with q | ⟨a, xs, _, _, rfl⟩ | ⟨a, n, ks, vs, _, _, rfl⟩
    · exact q
    · cases e
    · cases e
  subst hz
  cases hv with
  | nil => cases z <;> cases e
  | cons h1 ht =>
    cases ht with
    | cons h2 ht => cases z <;> cases e
    | nil =>
      cases z with
      | str a =>
        rcases h1.res with ⟨e1, e1'⟩ | ⟨b, rfl⟩ | ⟨n, ks, vs, rfl⟩
        · unfold joinF at e ⊢
          simp only at e ⊢
          rw [e1]
          rw [e1'] at e
          exact e
        · cases e
        · cases e
      | _ => cases e
theorem dView_v {S : Sto} {z v : T} {p : List T × List T} (h : VwS S z v) (e : dView emp v = some p) : dView S z = some p := by
  rcases h with rfl | ⟨a, xs, rfl, h, rfl⟩ | ⟨a, n, ks, vs, rfl, h, rfl⟩
  · cases z with
    | ref a => cases e
    | dct n ks vs => cases n <;> exact e
    | _ => exact e
  · cases e
  · cases n with
    | false => simp only [dView, h]; exact e
    | true => cases e
theorem kyT_v {S : Sto} {z v : T} {k : Key} (h : VwS S z v) (e : kyT v = some k) : z = v := by
  rcases h with q | ⟨a, xs, _, _, rfl⟩ | ⟨a, n, ks, vs, _, _, rfl⟩
  · exact q
  · cases e
  · cases e
theorem opv_dgT : OpV dgT := fun S z1 v1 z2 v2 r h1 h2 e => by
  unfold dgT at e ⊢
  split at e
  · rename_i p k e1 e2
    rw [dView_v h1 e1, kyT_v h2 e2, e2]
    exact e
  · cases e
theorem dinQ_v {S : Sto} {x y v : T} {b : Bool} (h : VwS S y v) (e : dinQ emp x v = some b) : dinQ S x y = some b := by
  unfold dinQ at e ⊢
  split at e
  · rename_i p k e1 e2
    rw [dView_v h e1, e2]
    exact e
  · cases e
theorem opv_dninT : ∀ S x y v r, VwS S y v → dninT emp x v = some r → dninT S x y = some r := fun S x y v r h e => by
  unfold dninT at e ⊢
  cases q : dinQ emp x v with
  | none => rw [q] at e; cases e
  | some b => rw [dinQ_v h q]; rw [q] at e; exact e
theorem dg2T_v {S : Sto} {x v y z r : T} (h : VwS S x v) (e : dg2T emp v y z = some r) : dg2T S x y z = some r := by
  unfold dg2T at e ⊢
  split at e
  · rename_i p k e1 e2
    rw [dView_v h e1, e2]
    exact e
  · cases e
theorem fnv_dictF : FnV dictF := fnv_one (fun x => match x with
  | .lst ts => (mrgT ts [] []).map fun p => .dct false p.1 p.2
  | .tup ts => (mrgT ts [] []).map fun p => .dct false p.1 p.2
  | _ => none) (fun _ _ => rfl) rfl (fun _ _ _ => rfl) (fun _ => rfl) fun _ _ _ => rfl
theorem slT_v {S : Sto} {z v r : T} {lo hi : Option Int} (h : VwS S z v) (e : slT emp v lo hi = some r) : slT S z lo hi = some r := by
  rcases h.res with ⟨e1, e1'⟩ | ⟨a, rfl⟩ | ⟨n, ks, vs, rfl⟩
  · unfold slT at e ⊢
    rw [e1]
    rw [e1'] at e
    exact e
  · cases e
  · cases e
end TL
namespace TL
open PySem PySem.Spec PyProof.Rows L2
section
variable {κ : Type} {α β γ : Type}
def XE (W : κ → Sto) (p : TEnv) (l : Cs) (e : TTE) (m : PM κ T) : Prop := ∀ (Q E : T → Sto → Prop) k τ S, En p τ → SI W l k S → Sat (m k) (fun v k' => ∀ S', SI W l k' S' → Q v S') (fun x k' => ∀ S', SI W [] k' S' → E x S') → e τ S Q E
def XV (W : κ → Sto) (p : TEnv) (l : Cs) (e : TTE) (m : PM κ T) : Prop := ∀ (Q E : T → Sto → Prop) k τ S, En p τ → SI W l k S → Sat (m k) (fun v k' => ∀ z S', SI W l k' S' → Vw l z v → Q z S') (fun x k' => ∀ S', SI W [] k' S' → E x S') → e τ S Q E
def XTs (W : κ → Sto) (p : TEnv) (l : Cs) (e : TTB) (m : PM κ Bool) : Prop := ∀ (Q : Bool → Sto → Prop) (E : T → Sto → Prop) k τ S, En p τ → SI W l k S → Sat (m k) (fun v k' => ∀ S', SI W l k' S' → Q v S') (fun x k' => ∀ S', SI W [] k' S' → E x S') → e τ S Q E
def XO (W : κ → Sto) (p : TEnv) (l : Cs) (e : TTO) (m : PM κ (Option Int)) : Prop := ∀ (Q : Option Int → Sto → Prop) (E : T → Sto → Prop) k τ S, En p τ → SI W l k S → Sat (m k) (fun v k' => ∀ S', SI W l k' S' → Q v S') (fun x k' => ∀ S', SI W [] k' S' → E x S') → e τ S Q E
/-- arguments, exact or seen; in continuation form -/
def XA (W : κ → Sto) (p : TEnv) (l : Cs) (n : Nat) (a : TTA) (m : (List T → PM κ β) → PM κ β) : Prop := ∀ (K : List T → PM κ β) (P : β → κ → Prop) (X : T → κ → Prop) (Q : List T → Sto → Prop) (E : T → Sto → Prop) k τ S, En p τ → SI W l k S → Sat (m K k) P X →
  (∀ zs k' S', zs.length = n → SI W l k' S' → Sat (K zs k') P X → Q zs S') → (∀ x k' S', SI W [] k' S' → X x k' → E x S') → a τ S Q E
def XAV (W : κ → Sto) (p : TEnv) (l : Cs) (a : TTA) (m : (List T → PM κ β) → PM κ β) : Prop := ∀ (K : List T → PM κ β) (P : β → κ → Prop) (X : T → κ → Prop) (Q : List T → Sto → Prop) (E : T → Sto → Prop) k τ S, En p τ → SI W l k S → Sat (m K k) P X →
  (∀ zs vs k' S', Vws l zs vs → SI W l k' S' → Sat (K vs k') P X → Q zs S') → (∀ x k' S', SI W [] k' S' → X x k' → E x S') → a τ S Q E
/-- what is walked; y: nothing hangs on the store -/
def XI (W : κ → Sto) (p : TEnv) (l : Cs) (it : TTI) (m : PM κ (List T)) : Prop := ∀ (Q : List T → (Sto → Prop) → Sto → Prop) (E : T → Sto → Prop) k τ S, En p τ → SI W l k S → Sat (m k) (fun xs k' => ∀ S' g, SI W l k' S' → (∀ k S, SI W l k S → g S) → Q xs g S') (fun x k' => ∀ S', SI W [] k' S' → E x S') → it τ S Q E
def XIy (W : κ → Sto) (p : TEnv) (l : Cs) (it : TTI) (m : PM κ (List T)) : Prop := ∀ (Q : List T → (Sto → Prop) → Sto → Prop) (E : T → Sto → Prop) k τ S, En p τ → SI W l k S → Sat (m k) (fun xs k' => ∀ S', SI W l k' S' → Q xs yes S') (fun x k' => ∀ S', SI W [] k' S' → E x S') → it τ S Q E
variable {W : κ → Sto} {p : TEnv} {l : Cs} {e a b c : TTE} {m ma mb mc : PM κ T}
theorem XE.v (h : XE W p l e m) : XV W p l e m := fun Q E k τ S hE i s => h Q E k τ S hE i (s.mono (fun v k' q S' j => q v S' j (.inl rfl)) fun _ _ q => q)
theorem XIy.i {it : TTI} {m : PM κ (List T)} (h : XIy W p l it m) : XI W p l it m := fun Q E k τ S hE i s => h Q E k τ S hE i (s.mono (fun v k' q S' j => q S' yes j fun _ _ _ => trivial) fun _ _ q => q)
theorem xe_c {t : T} : XE W p l (cC t) (pu t) := fun Q E k τ S hE i s => s S i
theorem xe_var {i : Nat} {x : T} (h : p[i]? = some (some x)) : XE W p l (cVar i) (pu x) := fun Q E k τ S hE i s => ⟨x, hE.get h, s S i⟩
theorem xv_cell {i : Nat} {a : Addr} {xs : List T} (h : p[i]? = some (some (.ref a))) (hm : (a, Cell.lst xs) ∈ l) : XV W p l (cVar i) (pu (.lst xs)) := fun Q E k τ S hE i s => ⟨.ref a, hE.get h, s (.ref a) S i (.inr (.inl ⟨a, xs, rfl, hm, rfl⟩))⟩
theorem xv_dcell {i : Nat} {a : Addr} {n : Bool} {ks vs : List T} (h : p[i]? = some (some (.ref a))) (hm : (a, Cell.dct n ks vs) ∈ l) : XV W p l (cVar i) (pu (.dct n ks vs)) := fun Q E k τ S hE i s => ⟨.ref a, hE.get h, s (.ref a) S i (.inr (.inr ⟨a, n, ks, vs, rfl, hm, rfl⟩))⟩
theorem xe_op {op : Sto → T → T → Option T} (ho : OpV op) (ha : XV W p l a ma) (hb : XV W p l b mb) : XE W p l (cOp op a b) (bd ma fun x => bd mb fun y => ofO (op emp x y)) := fun Q E k τ S hE i s => by
  refine ha _ _ k τ S hE i ((Sat.bd.mp s).mono (fun v k1 s1 z S1 i1 w1 => ?_) fun _ _ q => q)
  refine hb _ _ k1 τ S1 hE i1 ((Sat.bd.mp s1).mono (fun v2 k2 s2 z2 S2 i2 w2 => ?_) fun _ _ q => q)
  unfold ofO at s2
  cases q : op emp v v2 with
  | none => rw [q] at s2; exact s2.elim
  | some r => rw [q] at s2; exact ⟨r, ho S2 _ _ _ _ r (w1.at i2) (w2.at i2) q, s2 S2 i2⟩
theorem xe_opx {op : Sto → T → T → Option T} (ho : OpX' op) (ha : XE W p l a ma) (hb : XE W p l b mb) : XE W p l (cOp op a b) (bd ma fun x => bd mb fun y => ofO (op emp x y)) := fun Q E k τ S hE i s => by
  refine ha _ _ k τ S hE i ((Sat.bd.mp s).mono (fun v k1 s1 S1 i1 => ?_) fun _ _ q => q)
  refine hb _ _ k1 τ S1 hE i1 ((Sat.bd.mp s1).mono (fun v2 k2 s2 S2 i2 => ?_) fun _ _ q => q)
  unfold ofO at s2
  cases q : op emp v v2 with
  | none => rw [q] at s2; exact s2.elim
  | some r => rw [q] at s2; exact ⟨r, ho S2 _ _ r q, s2 S2 i2⟩
/-- the first exact, the second seen (in, not in) -/
theorem xe_opr {op : Sto → T → T → Option T} (ho : ∀ S x y v r, VwS S y v → op emp x v = some r → op S x y = some r) (ha : XE W p l a ma) (hb : XV W p l b mb) : XE W p l (cOp op a b) (bd ma fun x => bd mb fun y => ofO (op emp x y)) := fun Q E k τ S hE i s => by
  refine ha _ _ k τ S hE i ((Sat.bd.mp s).mono (fun v k1 s1 S1 i1 => ?_) fun _ _ q => q)
  refine hb _ _ k1 τ S1 hE i1 ((Sat.bd.mp s1).mono (fun v2 k2 s2 z2 S2 i2 w2 => ?_) fun _ _ q => q)
  unfold ofO at s2
  cases q : op emp v v2 with
  | none => rw [q] at s2; exact s2.elim
  | some r => rw [q] at s2; exact ⟨r, ho S2 _ _ _ r (w2.at i2) q, s2 S2 i2⟩
theorem xe_un {op : Sto → T → Option T} (ho : UnV op) (ha : XV W p l a ma) : XE W p l (cUn op a) (bd ma fun x => ofO (op emp x)) := fun Q E k τ S hE i s => by
  refine ha _ _ k τ S hE i ((Sat.bd.mp s).mono (fun v k1 s1 z S1 i1 w1 => ?_) fun _ _ q => q)
  unfold ofO at s1
  cases q : op emp v with
  | none => rw [q] at s1; exact s1.elim
  | some r => rw [q] at s1; exact ⟨r, ho S1 _ _ r (w1.at i1) q, s1 S1 i1⟩
def tb (x : T) : PM κ Bool := match x with
  | .bl b => pu b
  | _ => stuck
theorem tb_bl {b : Bool} : tb (κ := κ) (.bl b) = pu b := rfl
theorem sat_tb {x : T} {k : κ} {P : Bool → κ → Prop} {X : T → κ → Prop} (h : Sat (tb x k) P X) : ∃ b, x = .bl b ∧ P b k := by
  cases x with
  | bl b => exact ⟨b, rfl, h⟩
  | _ => exact h.elim
theorem xb_val (ha : XE W p l a ma) : XTs W p l (bVal a) (bd ma tb) := fun Q E k τ S hE i s => by
  refine ha _ _ k τ S hE i ((Sat.bd.mp s).mono (fun v k1 s1 S1 i1 => ?_) fun _ _ q => q)
  obtain ⟨b, e, q⟩ := sat_tb s1
  exact ⟨b, e, q S1 i1⟩
variable {ca cb : TTB} {na nb : PM κ Bool}
theorem xb_and (ha : XTs W p l ca na) (hb : XTs W p l cb nb) : XTs W p l (bAnd ca cb) (bd na fun t => if t = true then nb else pu false) := fun Q E k τ S hE i s => by
  refine ha _ _ k τ S hE i ((Sat.bd.mp s).mono (fun v k1 s1 S1 i1 => ?_) fun _ _ q => q)
  cases v with
  | true => exact hb _ _ k1 τ S1 hE i1 s1
  | false => exact s1 S1 i1
theorem xb_or (ha : XTs W p l ca na) (hb : XTs W p l cb nb) : XTs W p l (bOr ca cb) (bd na fun t => if t = true then pu true else nb) := fun Q E k τ S hE i s => by
  refine ha _ _ k τ S hE i ((Sat.bd.mp s).mono (fun v k1 s1 S1 i1 => ?_) fun _ _ q => q)
  cases v with
  | false => exact hb _ _ k1 τ S1 hE i1 s1
  | true => exact s1 S1 i1
theorem xb_not (ha : XTs W p l ca na) : XTs W p l (bNot ca) (bd na fun t => pu !t) := fun Q E k τ S hE i s => by
  refine ha _ _ k τ S hE i ((Sat.bd.mp s).mono (fun v k1 s1 S1 i1 => s1 S1 i1) fun _ _ q => q)
theorem xe_chain {f g : Sto → T → T → Option T} (hf : OpX' f) (hg : OpX' g) (ha : XE W p l a ma) (hb : XE W p l b mb) (hc : XE W p l c mc) :
    XE W p l (cChain f g a b c) (bd ma fun x => bd mb fun y => bd (ofO (f emp x y)) fun z => bd (tb z) fun t => if t = true then bd mc fun w => ofO (g emp y w) else pu (.bl false)) := fun Q E k τ S hE i s => by
  refine ha _ _ k τ S hE i ((Sat.bd.mp s).mono (fun v k1 s1 S1 i1 => ?_) fun _ _ q => q)
  refine hb _ _ k1 τ S1 hE i1 ((Sat.bd.mp s1).mono (fun v2 k2 s2 S2 i2 => ?_) fun _ _ q => q)
  have s3 := Sat.bd.mp s2
  unfold ofO at s3
  cases q : f emp v v2 with
  | none => rw [q] at s3; exact s3.elim
  | some r =>
    rw [q] at s3
    obtain ⟨t, e, s4⟩ := sat_tb (Sat.bd.mp s3)
    subst e
    refine ⟨t, hf S2 _ _ _ q, ?_⟩
    cases t with
    | false => exact s4 S2 i2
    | true =>
      refine hc _ _ k2 τ S2 hE i2 ((Sat.bd.mp s4).mono (fun v3 k3 s5 S3 i3 => ?_) fun _ _ q => q)
      unfold ofO at s5
      cases q3 : g emp v2 v3 with
      | none => rw [q3] at s5; exact s5.elim
      | some r3 => rw [q3] at s5; exact ⟨r3, hg S3 _ _ _ q3, s5 S3 i3⟩
theorem xa_nil : XA (β := β) W p l 0 cNil (fun K => K []) := fun K P X Q E k τ S hE i s h _ => h [] k S rfl i s
theorem xa_cons {n : Nat} {r : TTA} {mr : (List T → PM κ β) → PM κ β} (ha : XE W p l a ma) (hr : XA W p l n r mr) : XA W p l (n + 1) (cCons a r) (fun K => bd ma fun x => mr fun xs => K (x :: xs)) := fun K P X Q E k τ S hE i s h hx => by
  refine ha _ _ k τ S hE i ((Sat.bd.mp s).mono (fun v k1 s1 S1 i1 => ?_) fun x k1 q S1 i1 => hx x k1 S1 i1 q)
  exact hr _ P X _ E k1 τ S1 hE i1 s1 (fun zs k2 S2 e i2 s2 => h (v :: zs) k2 S2 (by rw [List.length_cons, e]) i2 s2) hx
theorem xav_nil : XAV (β := β) W p l cNil (fun K => K []) := fun K P X Q E k τ S hE i s h _ => h [] [] k S .nil i s
theorem xav_cons {r : TTA} {mr : (List T → PM κ β) → PM κ β} (ha : XV W p l a ma) (hr : XAV W p l r mr) : XAV W p l (cCons a r) (fun K => bd ma fun x => mr fun xs => K (x :: xs)) := fun K P X Q E k τ S hE i s h hx => by
  refine ha _ _ k τ S hE i ((Sat.bd.mp s).mono (fun v k1 s1 z S1 i1 w1 => ?_) fun x k1 q S1 i1 => hx x k1 S1 i1 q)
  exact hr _ P X _ E k1 τ S1 hE i1 s1 (fun zs vs k2 S2 w2 i2 s2 => h (z :: zs) (v :: vs) k2 S2 (.cons w1 w2) i2 s2) hx
theorem small_line {n : Nat} (h : n ≤ 1000) : n ≤ sizeLine := by have := sizeLine_eq; omega
theorem xe_tup {n : Nat} {r : TTA} {mr : (List T → PM κ T) → PM κ T} (h : XA W p l n r mr) (hn : n ≤ 1000 := by decide) : XE W p l (cTup r) (mr fun xs => pu (.tup xs)) := fun Q E k τ S hE i s =>
  h _ _ _ _ E k τ S hE i s (fun zs k' S' e i' s' => ⟨by rw [e]; exact small_line hn, s' S' i'⟩) fun x k' S' i' q => q S' i'
theorem xe_lst {n : Nat} {r : TTA} {mr : (List T → PM κ T) → PM κ T} (h : XA W p l n r mr) (hn : n ≤ 1000 := by decide) : XE W p l (cLst r) (mr fun xs => pu (.lst xs)) := fun Q E k τ S hE i s =>
  h _ _ _ _ E k τ S hE i s (fun zs k' S' e i' s' => ⟨by rw [e]; exact small_line hn, s' S' i'⟩) fun x k' S' i' q => q S' i'
theorem xe_fn {g : Sto → List T → Option T} {r : TTA} {mr : (List T → PM κ T) → PM κ T} (hg : FnV g) (h : XAV W p l r mr) : XE W p l (cFn g r) (mr fun xs => ofO (g emp xs)) := fun Q E k τ S hE i s =>
  h _ _ _ _ E k τ S hE i s (fun zs vs k' S' w i' s' => by
    unfold ofO at s'
    cases q : g emp vs with
    | none => rw [q] at s'; exact s'.elim
    | some r => rw [q] at s'; exact ⟨r, hg S' _ _ r (w.at i') q, s' S' i'⟩) fun x k' S' i' q => q S' i'
theorem xe_fnx {g : Sto → List T → Option T} {r : TTA} {n : Nat} {mr : (List T → PM κ T) → PM κ T} (hg : FnX' g) (h : XA W p l n r mr) : XE W p l (cFn g r) (mr fun xs => ofO (g emp xs)) := fun Q E k τ S hE i s =>
  h _ _ _ _ E k τ S hE i s (fun zs k' S' e i' s' => by
    unfold ofO at s'
    cases q : g emp zs with
    | none => rw [q] at s'; exact s'.elim
    | some r => rw [q] at s'; exact ⟨r, hg S' _ r q, s' S' i'⟩) fun x k' S' i' q => q S' i'
/-- methods of texts and tuples -/
theorem xe_m {kk : T → Bool} {f : Sto → T → List T → Option T} {r : TTA} {mr : T → (List T → PM κ T) → PM κ T} (hf : MtV f) (ha : XE W p l a ma) (h : ∀ x, XAV W p l r (mr x)) :
    XE W p l (cM kk f a r) (bd ma fun x => bd (gd (kk x = true)) fun _ => mr x fun xs => ofO (f emp x xs)) := fun Q E k τ S hE i s => by
  refine ha _ _ k τ S hE i ((Sat.bd.mp s).mono (fun v k1 s1 S1 i1 => ?_) fun _ _ q => q)
  have s2 := Sat.bd.mp s1
  unfold gd at s2
  by_cases hk : kk v = true
  · rw [if_pos hk] at s2
    refine ⟨hk, h v _ _ _ _ E k1 τ S1 hE i1 s2 (fun zs vs k' S' w i' s' => ?_) fun x k' S' i' q => q S' i'⟩
    unfold ofO at s'
    cases q : f emp v vs with
    | none => rw [q] at s'; exact s'.elim
    | some r => rw [q] at s'; exact ⟨r, hf S' _ _ _ _ r (.inl rfl) (w.at i') q, s' S' i'⟩
  · rw [if_neg hk] at s2; exact s2.elim
def intO (x : T) : PM κ Int := match x with
  | .int i => pu i
  | _ => stuck
theorem intO_int {i : Int} : intO (κ := κ) (.int i) = pu i := rfl
theorem xo_no : XO W p l oNo (pu none) := fun Q E k τ S hE i s => s S i
theorem xo_some (ha : XE W p l a ma) : XO W p l (oSome a) (bd ma fun x => bd (intO x) fun i => pu (some i)) := fun Q E k τ S hE i s => by
  refine ha _ _ k τ S hE i ((Sat.bd.mp s).mono (fun v k1 s1 S1 i1 => ?_) fun _ _ q => q)
  cases v with
  | int j => exact ⟨j, rfl, s1 S1 i1⟩
  | _ => exact s1.elim
theorem xe_sl {lo hi : TTO} {ml mh : PM κ (Option Int)} (ha : XV W p l a ma) (hl : XO W p l lo ml) (hh : XO W p l hi mh) : XE W p l (cSl a lo hi) (bd ma fun x => bd ml fun i => bd mh fun j => ofO (slT emp x i j)) := fun Q E k τ S hE i s => by
  refine ha _ _ k τ S hE i ((Sat.bd.mp s).mono (fun v k1 s1 z S1 i1 w1 => ?_) fun _ _ q => q)
  refine hl _ _ k1 τ S1 hE i1 ((Sat.bd.mp s1).mono (fun v2 k2 s2 S2 i2 => ?_) fun _ _ q => q)
  refine hh _ _ k2 τ S2 hE i2 ((Sat.bd.mp s2).mono (fun v3 k3 s3 S3 i3 => ?_) fun _ _ q => q)
  unfold ofO at s3
  cases q : slT emp v v2 v3 with
  | none => rw [q] at s3; exact s3.elim
  | some r => rw [q] at s3; exact ⟨r, slT_v (w1.at i3) q, s3 S3 i3⟩
theorem xe_dnew : XE W p l cDnew (pu (.dct false [] [])) := fun Q E k τ S hE i s => s S i
theorem xe_get2 (ha : XV W p l a ma) (hb : XE W p l b mb) (hc : XE W p l c mc) : XE W p l (cGet2 a b c) (bd ma fun x => bd (gd ((dView emp x).isSome = true)) fun _ => bd mb fun y => bd mc fun z => ofO (dg2T emp x y z)) := fun Q E k τ S hE i s => by
  refine ha _ _ k τ S hE i ((Sat.bd.mp s).mono (fun v k1 s1 z S1 i1 w1 => ?_) fun _ _ q => q)
  have s1 := Sat.bd.mp s1
  unfold gd at s1
  by_cases hd : (dView emp v).isSome = true
  · rw [if_pos hd] at s1
    obtain ⟨p, hp⟩ := Option.isSome_iff_exists.mp hd
    refine ⟨⟨p, dView_v (w1.at i1) hp⟩, ?_⟩
    refine hb _ _ k1 τ S1 hE i1 ((Sat.bd.mp s1).mono (fun v2 k2 s2 S2 i2 => ?_) fun _ _ q => q)
    refine hc _ _ k2 τ S2 hE i2 ((Sat.bd.mp s2).mono (fun v3 k3 s3 S3 i3 => ?_) fun _ _ q => q)
    unfold ofO at s3
    cases q : dg2T emp v v2 v3 with
    | none => rw [q] at s3; exact s3.elim
    | some r => rw [q] at s3; exact ⟨r, dg2T_v (w1.at i3) q, s3 S3 i3⟩
  · rw [if_neg hd] at s1; exact s1.elim
def itemsM (v : T) : PM κ (List T) := match v with
  | .tup xs => pu xs
  | .lst xs => pu xs
  | .str x => pu (x.map fun c => .str [c])
  | _ => stuck
theorem itemsM_tup {xs : List T} : itemsM (κ := κ) (.tup xs) = pu xs := rfl
theorem itemsM_lst {xs : List T} : itemsM (κ := κ) (.lst xs) = pu xs := rfl
theorem itemsM_str {x : List Sg} : itemsM (κ := κ) (.str x) = pu (x.map fun c => .str [c]) := rfl
theorem xiy_seq (ha : XE W p l a ma) : XIy W p l (iSeq a) (bd ma itemsM) := fun Q E k τ S hE i s => by
  refine ha _ _ k τ S hE i ((Sat.bd.mp s).mono (fun v k1 s1 S1 i1 => ?_) fun _ _ q => q)
  cases v with
  | tup xs => exact ⟨_, rfl, s1 S1 i1⟩
  | lst xs => exact ⟨_, rfl, s1 S1 i1⟩
  | str xs => exact ⟨_, rfl, s1 S1 i1⟩
  | _ => exact s1.elim
def rng1 (x : T) : PM κ (List T) := match x with
  | .int j => bd (gd (-(2 ^ 62) ≤ j ∧ j < 2 ^ 62)) fun _ => pu ((List.range j.toNat).map fun i => T.int (0 + (i : Nat)))
  | _ => stuck
theorem rng1_int {j : Int} (h : -(2 ^ 62) ≤ j ∧ j < 2 ^ 62) : rng1 (κ := κ) (.int j) = pu ((List.range j.toNat).map fun i => T.int (0 + (i : Nat))) := by
  show bd (gd _) _ = _
  rw [gd_true h]; rfl
theorem sat_gd {b : Prop} [Decidable b] {k : κ} {P : Unit → κ → Prop} {X : T → κ → Prop} (h : Sat (gd b k) P X) : b ∧ P () k := by
  unfold gd at h
  split at h
  · exact ⟨by assumption, h⟩
  · exact h.elim
theorem xiy_range1 (ha : XE W p l a ma) : XIy W p l (iRange1 a) (bd ma rng1) := fun Q E k τ S hE i s => by
  refine ha _ _ k τ S hE i ((Sat.bd.mp s).mono (fun v k1 s1 S1 i1 => ?_) fun _ _ q => q)
  cases v with
  | int j =>
    obtain ⟨hb, q⟩ := sat_gd (Sat.bd.mp s1)
    exact ⟨j, rfl, hb.1, hb.2, q S1 i1⟩
  | _ => exact s1.elim
def enumM (v : T) : PM κ (List T) := match rowOf v with
  | some ts => pu (enumL ts)
  | none => stuck
def zipM (x y : T) : PM κ (List T) := match rowOf x, rowOf y with
  | some ts, some us => pu (zipL ts us)
  | _, _ => stuck
theorem xiy_enum (ha : XE W p l a ma) : XIy W p l (iEnum a) (bd ma enumM) := fun Q E k τ S hE i s => by
  refine ha _ _ k τ S hE i ((Sat.bd.mp s).mono (fun v k1 s1 S1 i1 => ?_) fun _ _ q => q)
  unfold enumM at s1
  cases q : rowOf v with
  | none => simp only [q] at s1; exact s1.elim
  | some ts => simp only [q] at s1; exact ⟨ts, rfl, s1 S1 i1⟩
theorem xiy_zip (ha : XE W p l a ma) (hb : XE W p l b mb) : XIy W p l (iZip a b) (bd ma fun x => bd mb fun y => zipM x y) := fun Q E k τ S hE i s => by
  refine ha _ _ k τ S hE i ((Sat.bd.mp s).mono (fun v k1 s1 S1 i1 => ?_) fun _ _ q => q)
  refine hb _ _ k1 τ S1 hE i1 ((Sat.bd.mp s1).mono (fun v2 k2 s2 S2 i2 => ?_) fun _ _ q => q)
  unfold zipM at s2
  cases q : rowOf v with
  | none => simp only [q] at s2; exact s2.elim
  | some ts =>
    cases q2 : rowOf v2 with
    | none => simp only [q, q2] at s2; exact s2.elim
    | some us => simp only [q, q2] at s2; exact ⟨ts, us, rfl, rfl, s2 S2 i2⟩
theorem enumM_tup {xs : List T} : enumM (κ := κ) (.tup xs) = pu (enumL xs) := rfl
theorem zipM_tt {xs ys : List T} : zipM (κ := κ) (.tup xs) (.tup ys) = pu (zipL xs ys) := rfl
def spU (f : List T → PM Unit T) : SpT := fun ts S Q E => Sat (f ts ()) (fun v _ => Q v S) (fun x _ => E x S)
def spP (f : List T → PM Cell T) : SpT := fun ts S Q E => ∃ p rest c, ts = .ref p :: rest ∧ S p = some c ∧ Sat (f rest c) (fun v c' => Q v (ups S p c')) (fun x c' => E x (ups S p c'))
theorem xe_call {n : Nat} {f : List T → PM Unit T} {r : TTA} {mr : (List T → PM κ T) → PM κ T} (h : XA W p l n r mr) : XE W p l (cCall (spU f) r) (mr fun xs => lft (f xs)) := fun Q E k τ S hE i s =>
  h _ _ _ _ E k τ S hE i s (fun zs k' S' e i' s' => (Sat.lft.mp s').mono (fun v _ q => q S' i') fun x _ q => q S' i'.nil) fun x k' S' i' q => q S' i'
/-- by the pen -/
abbrev penW (S0 : Sto) (a : Addr) : Cell → Sto := fun c => ups S0 a c
theorem SI.pen {S0 : Sto} {a : Addr} {c d : Cell} {S : Sto} (i : SI (penW S0 a) l c S) : SI (penW S0 a) l d (ups S a d) := by
  have ne : ∀ e ∈ l, e.1 ≠ a := fun e h z => by
    have := i.own e h
    rw [z] at this
    rw [show penW S0 a c a = some c from ups_same] at this
    cases this
  refine ⟨fun e h => by rw [ups_ne (ne e h)]; exact i.at_ e h, fun e h => ?_, i.nd, fun b q h => ?_⟩
  · have := i.own e h
    rw [show penW S0 a c e.1 = S0 e.1 from ups_ne (ne e h)] at this
    rw [show penW S0 a d e.1 = S0 e.1 from ups_ne (ne e h)]
    exact this
  · by_cases hb : b = a
    · subst hb
      rw [show penW S0 b d b = some d from ups_same] at h
      cases h
      exact ups_same
    · rw [show penW S0 a d b = S0 b from ups_ne hb] at h
      rw [ups_ne hb]
      exact i.base b q (by rw [show penW S0 a c b = S0 b from ups_ne hb]; exact h)
end
section
variable {S0 : Sto} {pa : Addr} {p : TEnv} {l : Cs}
theorem xe_callP {n : Nat} {f : List T → PM Cell T} {i : Nat} {r : TTA} {mr : (List T → PM Cell T) → PM Cell T} (hp : p[i]? = some (some (.ref pa))) (h : XA (penW S0 pa) p l n r mr) : XE (penW S0 pa) p l (cCall (spP f) (cCons (cVar i) r)) (mr f) := fun Q E k τ S hE i s => by
  refine ⟨.ref pa, hE.get hp, ?_⟩
  refine h _ _ _ _ E k τ S hE i s (fun zs k' S' e i' s' => ?_) fun x k' S' i' q => q S' i'
  exact ⟨pa, zs, k', rfl, i'.base pa k' ups_same, s'.mono (fun v c' q => q _ i'.pen) fun x c' q => q _ i'.pen.nil⟩
end
end TL
namespace TL
open PySem PySem.Spec PyProof.Rows L2
def FzE (S S2 : Sto) (τ τ2 : TEnv) : Prop := τ.length = τ2.length ∧ ∀ (i : Nat) (u : T), τ2[i]? = some (some u) → ∃ t, τ[i]? = some (some t) ∧ Fz S S2 t u
def cDrop (t : TTS) : TTS := fun D τ S E => ∃ τ2 S2, Sub S2 S ∧ FzE S S2 τ τ2 ∧ t D τ2 S2 E
theorem tss_drop {X : Cx} {rest : List Stmt} {t : TTS} (h : TSs X rest t) : TSs X rest (cDrop t) := fun M S0 H0 E tk =>
  (h M S0 H0 E tk).weak fun D σ H ⟨τ, S, B, rel, ⟨τ2, S2, sub, fz, q⟩, k1, k2, k3, k4⟩ =>
    have x := sub.ext (H := H)
    ⟨τ2, S2, B, ⟨⟨rel.env.1.trans fz.1, fun i u e => by
      obtain ⟨t, e1, f⟩ := fz.2 i u e
      obtain ⟨v, h1, h2⟩ := rel.env.2 i t e1
      exact ⟨v, h1, Fz.rep rel.sto sub f h2⟩⟩, rel.sto.drop sub, rel.ext.trans x⟩, q, fun σ' H' τ' S' r x' => k1 σ' H' τ' S' r (x.trans x'), fun z S' v H' o x' => k2 z S' v H' o (x.trans x'),
      fun σ' H' τ' S' r x' => k3 σ' H' τ' S' r (x.trans x'), fun σ' H' τ' S' r x' => k4 σ' H' τ' S' r (x.trans x')⟩

inductive Dest where
  | nx (p : TEnv) (l : Cs)
  | rt (v : T)
  | bk (p : TEnv) (l : Cs)
  | ct (p : TEnv) (l : Cs)
  | fin
section
variable {κ : Type} {α β γ σ : Type}
def DOk (W : κ → Sto) (D : TD) (k : κ) : Dest → Prop
  | .nx p l => ∀ τ S, En p τ → SI W l k S → D.nx τ S
  | .rt v => ∀ l z S, SI W l k S → Vw l z v → D.rt z S
  | .bk p l => ∀ τ S, En p τ → SI W l k S → D.bk τ S
  | .ct p l => ∀ τ S, En p τ → SI W l k S → D.ct τ S
  | .fin => ∀ τ l S, SI W l k S → D.nx τ S
def XS (W : κ → Sto) (p : TEnv) (l : Cs) (t : TTS) (m : PM κ β) (post : β → Dest) : Prop := ∀ (D : TD) (E : T → TEnv → Sto → Prop) k τ S, En p τ → SI W l k S →
  Sat (m k) (fun b k' => DOk W D k' (post b)) (fun x k' => ∀ τ' S', SI W [] k' S' → E x τ' S') → t D τ S E
/-- a target, a body -/
def XF (W : κ → Sto) (p : TEnv) (l : Cs) (g : TTG) (t : TTS) (m : PM κ β) (post : β → Dest) (z : T) : Prop := ∀ (D : TD) (E : T → TEnv → Sto → Prop) k τ S, En p τ → SI W l k S →
  Sat (m k) (fun b k' => DOk W D k' (post b)) (fun x k' => ∀ τ' S', SI W [] k' S' → E x τ' S') → g z τ S fun τ1 S1 => t D τ1 S1 E
/-- a comprehension's turn -/
def XCi (W : κ → Sto) (p : TEnv) (l : Cs) (g : TTG) (c : TTB) (e : TTE) (m : PM κ (Option T)) (z : T) : Prop := ∀ (R : T → Sto → Prop) (N : Sto → Prop) k τ S, En p τ → SI W l k S →
  Sat (m k) (fun o k' => ∀ S', SI W l k' S' → match o with | some y => R y S' | none => N S') (fun _ _ => False) → g z τ S fun τ1 S1 => c τ1 S1 (fun b S2 => if b = true then e τ1 S2 R (fun _ _ => False) else N S2) fun _ _ => False
def XGt (g : TTG) (p : TEnv) (u : T → Option β) (pf : β → TEnv) : Prop := ∀ z b τ S Q, u z = some b → En p τ → (∀ τ', En (pf b) τ' → Q τ' S) → g z τ S Q
def un2 : T → Option (T × T)
  | .tup [a, b] => some (a, b)
  | _ => none
def un3 : T → Option (T × T × T)
  | .tup [a, b, c] => some (a, b, c)
  | _ => none
def un4 : T → Option (T × T × T × T)
  | .tup [a, b, c, d] => some (a, b, c, d)
  | _ => none
theorem un2_tup {a b : T} : un2 (.tup [a, b]) = some (a, b) := rfl
theorem un3_tup {a b c : T} : un3 (.tup [a, b, c]) = some (a, b, c) := rfl
theorem un4_tup {a b c d : T} : un4 (.tup [a, b, c, d]) = some (a, b, c, d) := rfl
theorem un2_is {z : T} {b : T × T} (h : un2 z = some b) : z = .tup [b.1, b.2] := by
  unfold un2 at h
  split at h
  · cases h; rfl
  · cases h
theorem un3_is {z : T} {b : T × T × T} (h : un3 z = some b) : z = .tup [b.1, b.2.1, b.2.2] := by
  unfold un3 at h
  split at h
  · cases h; rfl
  · cases h
variable {W : κ → Sto} {p : TEnv} {l : Cs}
theorem xg_2 {i j : Nat} : XGt (gT (gC (gN i) (gC (gN j) gZ))) p un2 (fun b => (p.set i (some b.1)).set j (some b.2)) := fun z b τ S Q e h q => by
  rw [un2_is e]
  exact ⟨_, rfl, _, _, rfl, _, _, rfl, rfl, q _ h.set.set⟩
theorem xg_3 {i j k : Nat} : XGt (gT (gC (gN i) (gC (gN j) (gC (gN k) gZ)))) p un3 (fun b => ((p.set i (some b.1)).set j (some b.2.1)).set k (some b.2.2)) := fun z b τ S Q e h q => by
  rw [un3_is e]
  exact ⟨_, rfl, _, _, rfl, _, _, rfl, _, _, rfl, rfl, q _ h.set.set.set⟩
theorem sat_ofO {o : Option α} {k : κ} {P : α → κ → Prop} {X : T → κ → Prop} (h : Sat (ofO o k) P X) : ∃ a, o = some a ∧ P a k := by
  cases o with
  | none => exact h.elim
  | some a => exact ⟨a, rfl, h⟩
theorem xf_name {i : Nat} {t : TTS} {m : PM κ β} {post : β → Dest} {z : T} (h : XS W (p.set i (some z)) l t m post) : XF W p l (gN i) t m post z := fun D E k τ S hE i s => h D E k _ S hE.set i s
theorem xf_un {δ : Type} {g : TTG} {t : TTS} {u : T → Option δ} {pf : δ → TEnv} {f : δ → PM κ β} {post : β → Dest} {z : T} (hg : XGt g p u pf) (h : ∀ b, XS W (pf b) l t (f b) post) : XF W p l g t (bd (ofO (u z)) f) post z := fun D E k τ S hE i s => by
  obtain ⟨b, e, s1⟩ := sat_ofO (Sat.bd.mp s)
  exact hg z b τ S _ e hE fun τ' hE' => h b D E k τ' S hE' i s1
/-- nothing is raised -/
def nox (m : PM κ α) : PM κ α := fun k => match m k with
  | .ok a k' => .ok a k'
  | _ => .bad
theorem nox_pu {a : α} : nox (κ := κ) (pu a) = pu a := rfl
theorem sat_nox {m : PM κ α} {k : κ} {P : α → κ → Prop} {X : T → κ → Prop} (h : Sat (nox m k) P X) : Sat (m k) P (fun _ _ => False) := by
  unfold nox at h
  cases q : m k with
  | ok a k' => rw [q] at h; exact h
  | exc x k' => rw [q] at h; exact h
  | bad => rw [q] at h; exact h
def compM (f : T → PM κ (Option T)) : List T → PM κ (List T)
  | [] => pu []
  | x :: xs => bd (nox (f x)) fun o => bd (compM f xs) fun ys => pu (o.toList ++ ys)
def compG (f : T → PM κ (Option T)) (xs : List T) : PM κ (List T) := bd (gd (xs.length ≤ sizeLine)) fun _ => compM f xs
section
variable {g : TTG} {c : TTB} {e : TTE} {own : List Nat} {it : TTI} {mi : PM κ (List T)} {f : T → PM κ (Option T)}
theorem comp_run {gd : Sto → Prop} (hgd : ∀ k S, SI W l k S → gd S) (hf : ∀ x, XCi W (wipeT p own) l g c e (f x) x) {K : List T → Sto → Prop} {X : T → κ → Prop} {τ : TEnv} (hE : En p τ) : ∀ (xs acc : List T) (k : κ) (S : Sto), SI W l k S → acc.length + xs.length ≤ sizeLine →
    Sat (compM f xs k) (fun ys k' => ∀ S', SI W l k' S' → K (acc ++ ys) S') X → compT g c e own gd τ K xs acc S
  | [], acc, k, S, i, _, s => ⟨hgd _ _ i, by simpa using s S i⟩
  | x :: xs, acc, k, S, i, hl, s => by
    rw [List.length_cons] at hl
    refine ⟨hgd _ _ i, hf x _ _ k _ S (hE.wipe own) i ((sat_nox (Sat.bd.mp s)).mono (fun o k1 s1 S1 i1 => ?_) fun _ _ q => q)⟩
    have s2 := Sat.bd.mp s1
    cases o with
    | none => exact comp_run hgd hf hE xs acc k1 S1 i1 (by omega) (X := X) (s2.mono (fun ys k2 q S' i' => q S' i') fun _ _ q => q)
    | some y => exact ⟨by omega, comp_run hgd hf hE xs (acc ++ [y]) k1 S1 i1 (by simp; omega) (X := X) (s2.mono (fun ys k2 q S' i' => by
        have q := q S' i'
        simpa using q) fun _ _ q => q)⟩
theorem xe_comp (hi : XI W p l it mi) (hf : ∀ x, XCi W (wipeT p own) l g c e (f x) x) : XE W p l (cComp it g c e own) (bd mi fun xs => bd (compG f xs) fun ys => pu (.lst ys)) := fun Q E k τ S hE i s => by
  refine hi _ _ k τ S hE i ((Sat.bd.mp s).mono (fun xs k1 s1 S1 gd i1 hgd => ?_) fun _ _ q => q)
  have s2 := Sat.bd.mp s1
  obtain ⟨hl, s3⟩ := sat_gd (Sat.bd.mp s2)
  exact comp_run hgd hf hE xs [] k1 S1 i1 (by simpa using hl) s3
theorem xc_name {i : Nat} {mc : PM κ Bool} {me : PM κ T} {z : T} (hc : XTs W (p.set i (some z)) l c mc) (he : XE W (p.set i (some z)) l e me) : XCi W p l (gN i) c e (bd mc fun t => if t = true then bd me fun y => pu (some y) else pu none) z := fun R N k τ S hE i s => by
  refine hc _ _ k _ S hE.set i ((Sat.bd.mp s).mono (fun b k1 s1 S1 i1 => ?_) fun _ _ q => q.elim)
  cases b with
  | true => exact he _ _ k1 _ S1 hE.set i1 ((Sat.bd.mp s1).mono (fun v k2 s2 S2 i2 => s2 S2 i2) fun _ _ q => q.elim)
  | false => exact s1 S1 i1
theorem xc_nameY {i : Nat} {me : PM κ T} {z : T} (he : XE W (p.set i (some z)) l e me) : XCi W p l (gN i) bYes e (bd me fun y => pu (some y)) z := fun R N k τ S hE i s =>
  he _ _ k _ S hE.set i ((Sat.bd.mp s).mono (fun v k2 s2 S2 i2 => s2 S2 i2) fun _ _ q => q.elim)
theorem xc_unY {δ : Type} {u : T → Option δ} {pf : δ → TEnv} {me : δ → PM κ T} {z : T} (hg : XGt g p u pf) (he : ∀ b, XE W (pf b) l e (me b)) : XCi W p l g bYes e (bd (ofO (u z)) fun b => bd (me b) fun y => pu (some y)) z := fun R N k τ S hE i s => by
  obtain ⟨b, e, s⟩ := sat_ofO (Sat.bd.mp s)
  refine hg z b τ S _ e hE fun τ' hE' => ?_
  exact he b _ _ k _ S hE' i ((Sat.bd.mp s).mono (fun v k2 s2 S2 i2 => s2 S2 i2) fun _ _ q => q.elim)
end
def XN (W : κ → Sto) (p : TEnv) (l : Cs) (e : TTE) (m : PM κ α) (z : α → Addr → T) (cc : α → Addr → Cs) : Prop := ∀ (Q E : T → Sto → Prop) k τ S, En p τ → SI W l k S → Sat (m k) (fun v k' => ∀ S' a, SI W (cc v a ++ l) k' S' → Q (z v a) S') (fun x k' => ∀ S', SI W [] k' S' → E x S') → e τ S Q E
theorem xn_lst {n : Nat} {r : TTA} {mr : (List T → PM κ (List T)) → PM κ (List T)} (h : XA W p l n r mr) (hn : n ≤ 1000 := by decide) : XN W p l (cLstM r) (mr fun xs => pu xs) (fun _ a => .ref a) (fun xs a => [(a, .lst xs)]) := fun Q E k τ S hE i s =>
  h _ _ _ _ E k τ S hE i s (fun zs k' S' e i' s' => ⟨by rw [e]; exact small_line hn, fun a na => s' _ a (i'.new na)⟩) fun x k' S' i' q => q S' i'
variable {t u : TTS} {post : β → Dest} {e : TTE} {m : PM κ T}
theorem xs_assoc {t1 t2 : TTS} {m : PM κ β} (h : XS W p l (cSeq t1 (cSeq t2 u)) m post) : XS W p l (cSeq (cSeq t1 t2) u) m post := h
theorem xs_skipseq {m : PM κ β} (h : XS W p l u m post) : XS W p l (cSeq cSkip u) m post := h
theorem xs_skip {b : β} {p' : TEnv} (hp : post b = .nx p' l) (h : En p' p) : XS W p l cSkip (pu b) post := fun D E k τ S hE i s => by
  have s : DOk W D k (post b) := s
  rw [hp] at s
  exact s τ S (h.trans hE) i
theorem xs_ret {g : T → β} (hp : ∀ v, post (g v) = .rt v) (h : XV W p l e m) : XS W p l (cSeq (cRet e) u) (bd m fun v => pu (g v)) post := fun D E k τ S hE i s =>
  h _ _ k τ S hE i ((Sat.bd.mp s).mono (fun v k1 s1 z S1 i1 w1 => by
    have s1 : DOk W D k1 (post (g v)) := s1
    rw [hp] at s1
    exact s1 l z S1 i1 w1) fun x k1 q S1 i1 => q τ S1 i1)
theorem xs_set {i : Nat} {f : T → PM κ β} (he : XE W p l e m) (h : ∀ v, XS W (p.set i (some v)) l u (f v) post) : XS W p l (cSeq (cSet i e) u) (bd m f) post := fun D E k τ S hE j s =>
  he _ _ k τ S hE j ((Sat.bd.mp s).mono (fun v k1 s1 S1 i1 => h v D E k1 _ S1 hE.set i1 s1) fun x k1 q S1 i1 => q τ S1 i1)
theorem xs_new {i : Nat} {m : PM κ α} {z : α → Addr → T} {cc : α → Addr → Cs} {f : α → PM κ β} (he : XN W p l e m z cc) (h : ∀ v a, XS W (p.set i (some (z v a))) (cc v a ++ l) u (f v) post) : XS W p l (cSeq (cSet i e) u) (bd m f) post := fun D E k τ S hE j s =>
  he _ _ k τ S hE j ((Sat.bd.mp s).mono (fun v k1 s1 S1 a i1 => h v a D E k1 _ S1 hE.set i1 s1) fun x k1 q S1 i1 => q τ S1 i1)
theorem xs_asg {δ : Type} {g : TTG} {un : T → Option δ} {pf : δ → TEnv} {f : δ → PM κ β} (he : XE W p l e m) (hg : XGt g p un pf) (h : ∀ b, XS W (pf b) l u (f b) post) : XS W p l (cSeq (cAsg e g) u) (bd m fun z => bd (ofO (un z)) f) post := fun D E k τ S hE j s =>
  he _ _ k τ S hE j ((Sat.bd.mp s).mono (fun v k1 s1 S1 i1 => by
    obtain ⟨b, e1, s2⟩ := sat_ofO (Sat.bd.mp s1)
    exact hg v b τ S1 _ e1 hE fun τ' hE' => h b D E k1 τ' S1 hE' i1 s2) fun x k1 q S1 i1 => q τ S1 i1)
def appM (xs : List T) (y : T) : PM κ (List T) := bd (gd (xs.length < sizeLine)) fun _ => pu (xs ++ [y])
def extM (xs : List T) (y : T) : PM κ (List T) := match y with
  | .lst zs => bd (gd (xs.length + zs.length ≤ sizeLine)) fun _ => pu (xs ++ zs)
  | .tup zs => bd (gd (xs.length + zs.length ≤ sizeLine)) fun _ => pu (xs ++ zs)
  | _ => stuck
theorem xs_app {i : Nat} {a : Addr} {xs : List T} {l1 l2 : Cs} {f : List T → PM κ β} (hp : p[i]? = some (some (.ref a))) (he : XE W p (l1 ++ (a, .lst xs) :: l2) e m) (h : ∀ ys, XS W p (l1 ++ (a, .lst ys) :: l2) u (f ys) post) :
    XS W p (l1 ++ (a, .lst xs) :: l2) (cSeq (cDo (cApp (cVar i) e)) u) (bd m fun y => bd (appM xs y) f) post := fun D E k τ S hE j s => by
  refine ⟨.ref a, hE.get hp, a, xs, rfl, j.at_ (a, .lst xs) (by simp), ?_⟩
  refine he _ _ k τ S hE j ((Sat.bd.mp s).mono (fun v k1 s1 S1 i1 => ?_) fun x k1 q S1 i1 => q τ S1 i1)
  obtain ⟨hl, s2⟩ := sat_gd (Sat.bd.mp (Sat.bd.mp s1))
  exact ⟨xs, i1.at_ (a, .lst xs) (by simp), hl, h _ D E k1 τ _ hE i1.put s2⟩
theorem xs_ext {i : Nat} {a : Addr} {xs : List T} {l1 l2 : Cs} {f : List T → PM κ β} (hp : p[i]? = some (some (.ref a))) (he : XV W p (l1 ++ (a, .lst xs) :: l2) e m) (h : ∀ ys, XS W p (l1 ++ (a, .lst ys) :: l2) u (f ys) post) :
    XS W p (l1 ++ (a, .lst xs) :: l2) (cSeq (cDo (cExt (cVar i) e)) u) (bd m fun y => bd (extM xs y) f) post := fun D E k τ S hE j s => by
  refine ⟨.ref a, hE.get hp, a, xs, rfl, j.at_ (a, .lst xs) (by simp), ?_⟩
  refine he _ _ k τ S hE j ((Sat.bd.mp s).mono (fun v k1 s1 z S1 i1 w1 => ?_) fun x k1 q S1 i1 => q τ S1 i1)
  have s2 := Sat.bd.mp s1
  cases v with
  | lst zs =>
    obtain ⟨hl, s2⟩ := sat_gd (Sat.bd.mp s2)
    have hz : sqv (res S1 z) = some zs := by
      rcases (w1.at i1).res with ⟨e1, _⟩ | ⟨b, e1⟩ | ⟨n, ks, vs, e1⟩
      · rw [e1]; rfl
      · cases e1
      · cases e1
    exact ⟨xs, zs, i1.at_ (a, .lst xs) (by simp), hz, hl, h _ D E k1 τ _ hE i1.put s2⟩
  | tup zs =>
    obtain ⟨hl, s2⟩ := sat_gd (Sat.bd.mp s2)
    have hz : sqv (res S1 z) = some zs := by
      rcases (w1.at i1).res with ⟨e1, _⟩ | ⟨b, e1⟩ | ⟨n, ks, vs, e1⟩
      · rw [e1]; rfl
      · cases e1
      · cases e1
    exact ⟨xs, zs, i1.at_ (a, .lst xs) (by simp), hz, hl, h _ D E k1 τ _ hE i1.put s2⟩
  | _ => exact s2.elim
def dputM (r : List T × List T) (y z : T) : PM κ (List T × List T) := match kyT y with
  | some k => bd (gd (r.1.length < sizeLine)) fun _ => pu (dPk r.1 k y, dPv r.1 r.2 k z)
  | none => stuck
theorem xs_dput {i : Nat} {a : Addr} {r : List T × List T} {l1 l2 : Cs} {ei : TTE} {mi : PM κ T} {f : List T × List T → PM κ β} (hp : p[i]? = some (some (.ref a))) (he : XE W p (l1 ++ (a, .dct false r.1 r.2) :: l2) e m) (hi : XE W p (l1 ++ (a, .dct false r.1 r.2) :: l2) ei mi) (h : ∀ ys, XS W p (l1 ++ (a, .dct false ys.1 ys.2) :: l2) u (f ys) post) :
    XS W p (l1 ++ (a, .dct false r.1 r.2) :: l2) (cSeq (cDput (cVar i) ei e) u) (bd m fun z => bd mi fun y => bd (dputM r y z) f) post := fun D E k τ S hE j s => by
  refine he _ _ k τ S hE j ((Sat.bd.mp s).mono (fun v k1 s1 S1 i1 => ?_) fun x k1 q S1 i1 => q τ S1 i1)
  refine ⟨.ref a, hE.get hp, ?_⟩
  refine hi _ _ k1 τ S1 hE i1 ((Sat.bd.mp s1).mono (fun y k2 s2 S2 i2 => ?_) fun x k1 q S1 i1 => q τ S1 i1)
  have s3 := Sat.bd.mp s2
  unfold dputM at s3
  cases q : kyT y with
  | none => simp only [q] at s3; exact s3.elim
  | some kk =>
    simp only [q] at s3
    obtain ⟨hl, s3⟩ := sat_gd (Sat.bd.mp s3)
    exact ⟨a, r.1, r.2, kk, rfl, i2.at_ (a, .dct false r.1 r.2) (by simp), rfl, hl, h _ D E k2 τ _ hE i2.put s3⟩
/-- the pen's own cell -/
theorem xs_if {c : TTB} {mc : PM κ Bool} {A B : TTS} {mA mB : PM κ β} (hc : XTs W p l c mc) (hA : XS W p l A mA post) (hB : XS W p l B mB post) : XS W p l (cIfS c A B) (bd mc fun t => if t = true then mA else mB) post := fun D E k τ S hE i s => by
  refine hc _ _ k τ S hE i ((Sat.bd.mp s).mono (fun b k1 s1 S1 i1 => ?_) fun x k1 q S1 i1 => q τ S1 i1)
  cases b with
  | true => exact hA D E k1 τ S1 hE i1 s1
  | false => exact hB D E k1 τ S1 hE i1 s1
theorem xs_ifE {c : TTB} {mc : PM κ Bool} {A B : TTS} {mA mB : PM κ β} (hc : XTs W p l c mc) (hA : XS W p l (cSeq A u) mA post) (hB : XS W p l (cSeq B u) mB post) : XS W p l (cSeq (cIfS c A B) u) (bd mc fun t => if t = true then mA else mB) post := fun D E k τ S hE i s => by
  refine hc _ _ k τ S hE i ((Sat.bd.mp s).mono (fun b k1 s1 S1 i1 => ?_) fun x k1 q S1 i1 => q τ S1 i1)
  cases b with
  | true => exact hA D E k1 τ S1 hE i1 s1
  | false => exact hB D E k1 τ S1 hE i1 s1
theorem xs_seq {P : σ → TEnv} {C : σ → Cs} {m : PM κ σ} {f : σ → PM κ β} (h1 : XS W p l t m fun s => .nx (P s) (C s)) (h2 : ∀ s, XS W (P s) (C s) u (f s) post) : XS W p l (cSeq t u) (bd m f) post := fun D E k τ S hE i s =>
  h1 _ E k τ S hE i ((Sat.bd.mp s).mono (fun b k1 s1 τ1 S1 hE1 i1 => h2 b D E k1 τ1 S1 hE1 i1 s1) fun _ _ q => q)
def sumD (P : σ → TEnv) (C : σ → Cs) : σ ⊕ T → Dest
  | .inl s => .nx (P s) (C s)
  | .inr v => .rt v
theorem xs_seqR {P : σ → TEnv} {C : σ → Cs} {m : PM κ (σ ⊕ T)} {f : σ → PM κ β} {g : T → β} (hg : ∀ v, post (g v) = .rt v) (h1 : XS W p l t m (sumD P C)) (h2 : ∀ s, XS W (P s) (C s) u (f s) post) : XS W p l (cSeq t u) (bd m fun r => Sum.elim f (fun v => pu (g v)) r) post := fun D E k τ S hE i s =>
  h1 _ E k τ S hE i ((Sat.bd.mp s).mono (fun b k1 s1 => by
    cases b with
    | inl b => exact fun τ1 S1 hE1 i1 => h2 b D E k1 τ1 S1 hE1 i1 s1
    | inr v =>
      have s1 : DOk W D k1 (post (g v)) := s1
      rw [hg] at s1
      exact s1) fun _ _ q => q)
inductive Fl (σ : Type) where
  | nx (s : σ)
  | rt (v : T)
  | bk (s : σ)
  | ct (s : σ)
def flD (P : σ → TEnv) (C : σ → Cs) : Fl σ → Dest
  | .nx s => .nx (P s) (C s)
  | .rt v => .rt v
  | .bk s => .bk (P s) (C s)
  | .ct s => .ct (P s) (C s)
def forM (f : T → σ → PM κ σ) : List T → σ → PM κ σ
  | [], s => pu s
  | x :: xs, s => bd (f x s) (forM f xs)
def forR (f : T → σ → PM κ (Fl σ)) : List T → σ → PM κ (σ ⊕ T)
  | [], s => pu (.inl s)
  | x :: xs, s => bd (f x s) fun r => match r with
    | .nx s => forR f xs s
    | .ct s => forR f xs s
    | .bk s => pu (.inl s)
    | .rt v => pu (.inr v)
def whM (c : σ → PM κ Bool) (b : σ → PM κ σ) : Nat → σ → PM κ σ
  | 0, _ => stuck
  | n + 1, s => bd (c s) fun t => if t = true then bd (b s) (whM c b n) else pu s
section
variable {P : σ → TEnv} {C : σ → Cs} {s0 : σ} {it : TTI} {g : TTG} {mi : PM κ (List T)}
theorem for_run {f : T → σ → PM κ σ} {gd : Sto → Prop} (hgd : ∀ s k S, SI W (C s) k S → gd S) (hb : ∀ x s, XF W (P s) (C s) g t (f x s) (fun s' => .nx (P s') (C s')) x) {D : TD} {E : T → TEnv → Sto → Prop} : ∀ (xs : List T) (s : σ) k τ S, En (P s) τ → SI W (C s) k S →
    Sat (forM f xs s k) (fun s' k' => DOk W D k' (.nx (P s') (C s'))) (fun x k' => ∀ τ' S', SI W [] k' S' → E x τ' S') → forT g t gd D E xs τ S
  | [], s, k, τ, S, hE, i, h => ⟨hgd _ _ _ i, h τ S hE i⟩
  | x :: xs, s, k, τ, S, hE, i, h => ⟨hgd _ _ _ i, hb x s _ E k τ S hE i ((Sat.bd.mp h).mono (fun s' k' h' τ' S' hE' i' => for_run hgd hb xs s' k' τ' S' hE' i' h') fun _ _ q => q)⟩
theorem xs_for {f : T → σ → PM κ σ} (hi : XIy W p l it mi) (hs : En (P s0) p) (hl : l = C s0) (hb : ∀ x s, XF W (P s) (C s) g t (f x s) (fun s' => .nx (P s') (C s')) x) : XS W p l (cFor it g t) (bd mi fun xs => forM f xs s0) (fun s => .nx (P s) (C s)) := fun D E k τ S hE i s =>
  hi _ _ k τ S hE i ((Sat.bd.mp s).mono (fun xs k1 s1 S1 i1 => for_run (fun _ _ _ _ => trivial) hb xs s0 k1 τ S1 (hs.trans hE) (hl ▸ i1) s1) fun x k1 q S1 i1 => q τ S1 i1)
theorem forR_run {f : T → σ → PM κ (Fl σ)} {gd : Sto → Prop} (hgd : ∀ s k S, SI W (C s) k S → gd S) (hb : ∀ x s, XF W (P s) (C s) g t (f x s) (flD P C) x) {D : TD} {E : T → TEnv → Sto → Prop} : ∀ (xs : List T) (s : σ) k τ S, En (P s) τ → SI W (C s) k S →
    Sat (forR f xs s k) (fun s' k' => DOk W D k' (sumD P C s')) (fun x k' => ∀ τ' S', SI W [] k' S' → E x τ' S') → forT g t gd D E xs τ S
  | [], s, k, τ, S, hE, i, h => ⟨hgd _ _ _ i, h τ S hE i⟩
  | x :: xs, s, k, τ, S, hE, i, h => ⟨hgd _ _ _ i, hb x s _ E k τ S hE i ((Sat.bd.mp h).mono (fun r k' h' => match r, h' with
    | .nx s', h' => fun τ' S' hE' i' => forR_run hgd hb xs s' k' τ' S' hE' i' h'
    | .ct s', h' => fun τ' S' hE' i' => forR_run hgd hb xs s' k' τ' S' hE' i' h'
    | .bk s', h' => h'
    | .rt v, h' => h') fun _ _ q => q)⟩
theorem xs_forR {f : T → σ → PM κ (Fl σ)} (hi : XIy W p l it mi) (hs : En (P s0) p) (hl : l = C s0) (hb : ∀ x s, XF W (P s) (C s) g t (f x s) (flD P C) x) : XS W p l (cFor it g t) (bd mi fun xs => forR f xs s0) (sumD P C) := fun D E k τ S hE i s =>
  hi _ _ k τ S hE i ((Sat.bd.mp s).mono (fun xs k1 s1 S1 i1 => forR_run (fun _ _ _ _ => trivial) hb xs s0 k1 τ S1 (hs.trans hE) (hl ▸ i1) s1) fun x k1 q S1 i1 => q τ S1 i1)
theorem xs_wh {c : TTB} {mc : σ → PM κ Bool} {mb : σ → PM κ σ} {n : Nat} (hs : En (P s0) p) (hl : l = C s0) (hc : ∀ s, XTs W (P s) (C s) c (mc s)) (hb : ∀ s, XS W (P s) (C s) t (mb s) (fun s' => .nx (P s') (C s'))) : XS W p l (cWhile c t) (whM mc mb n s0) (fun s => .nx (P s) (C s)) := fun D E k τ S hE i s => by
  refine ⟨fun m τ' S' => ∃ k' s', En (P s') τ' ∧ SI W (C s') k' S' ∧ Sat (whM mc mb m s' k') (fun b k' => DOk W D k' (.nx (P b) (C b))) (fun x k' => ∀ τ' S', SI W [] k' S' → E x τ' S'), ⟨n, k, s0, hs.trans hE, hl ▸ i, s⟩, ?_⟩
  rintro m τ1 S1 ⟨k1, s1, hE1, i1, h1⟩
  cases m with
  | zero => exact h1.elim
  | succ m =>
    refine hc s1 _ _ k1 τ1 S1 hE1 i1 ((Sat.bd.mp h1).mono (fun b k2 h2 S2 i2 => ?_) fun x k1 q S1 i1 => q τ1 S1 i1)
    cases b with
    | false => exact h2 τ1 S2 hE1 i2
    | true => exact hb s1 _ E k2 τ1 S2 hE1 i2 ((Sat.bd.mp h2).mono (fun s' k' h' τ' S' hE' i' => ⟨m, Nat.lt_succ_self m, k', s', hE', i', h'⟩) fun _ _ q => q)
end
theorem fzs_id {S S2 : Sto} : ∀ ts : List T, Fzs S S2 ts ts
  | [] => .nil
  | t :: ts => .cons (.same t) (fzs_id ts)
theorem SI.sub {l1 l2 : Cs} {a : Addr} {c : Cell} {k : κ} {S : Sto} (i : SI W (l1 ++ (a, c) :: l2) k S) : SI W (l1 ++ l2) k (offs S a) := by
  have nd := i.nd
  rw [List.map_append, List.map_cons] at nd
  obtain ⟨n1, n2, n3⟩ := List.nodup_append.mp nd
  have hm : ∀ e, e ∈ l1 ++ l2 → e ∈ l1 ++ (a, c) :: l2 ∧ e.1 ≠ a := fun e h => by
    rcases List.mem_append.mp h with z | z
    · exact ⟨List.mem_append_left _ z, fun q => n3 e.1 (List.mem_map_of_mem z) a (by simp) q⟩
    · exact ⟨List.mem_append_right _ (List.mem_cons_of_mem _ z), fun q => (List.nodup_cons.mp n2).1 (by rw [← q]; exact List.mem_map_of_mem (f := (·.1)) z)⟩
  refine ⟨fun e h => by rw [offs_ne (hm e h).2]; exact i.at_ e (hm e h).1, fun e h => i.own e (hm e h).1, ?_, fun b d h => ?_⟩
  · rw [List.map_append]
    exact List.nodup_append.mpr ⟨n1, (List.nodup_cons.mp n2).2, fun x hx y hy => n3 x hx y (List.mem_cons_of_mem _ hy)⟩
  · have ow := i.own (a, c) (List.mem_append_right _ List.mem_cons_self)
    have : b ≠ a := fun z => by rw [z] at h; rw [show W k a = none from ow] at h; cases h
    rw [offs_ne this]
    exact i.base b d h
theorem xs_drop {i : Nat} {a : Addr} {xs : List T} {l1 l2 : Cs} {m : PM κ β} (hp : p[i]? = some (some (.ref a))) (h : XS W (p.set i (some (.lst xs))) (l1 ++ l2) t m post) : XS W p (l1 ++ (a, .lst xs) :: l2) (cDrop t) m post := fun D E k τ S hE j s => by
  have hg := hE.get hp
  have hi := (List.getElem?_eq_some_iff.mp hg).1
  refine ⟨τ.set i (some (.lst xs)), offs S a, sub_offs, ⟨by rw [List.length_set], fun n u e => ?_⟩, h D E k _ _ hE.set j.sub s⟩
  by_cases q : i = n
  · subst q
    rw [List.getElem?_set_self hi] at e
    cases e
    exact ⟨_, hg, .lstc (j.at_ (a, .lst xs) (by simp)) offs_same (fzs_id xs)⟩
  · rw [List.getElem?_set_ne q] at e
    exact ⟨u, e, .same u⟩
theorem xs_dropD {i : Nat} {a : Addr} {n : Bool} {ks vs : List T} {l1 l2 : Cs} {m : PM κ β} (hp : p[i]? = some (some (.ref a))) (h : XS W (p.set i (some (.dct n ks vs))) (l1 ++ l2) t m post) : XS W p (l1 ++ (a, .dct n ks vs) :: l2) (cDrop t) m post := fun D E k τ S hE j s => by
  have hg := hE.get hp
  have hi := (List.getElem?_eq_some_iff.mp hg).1
  refine ⟨τ.set i (some (.dct n ks vs)), offs S a, sub_offs, ⟨by rw [List.length_set], fun n u e => ?_⟩, h D E k _ _ hE.set j.sub s⟩
  by_cases q : i = n
  · subst q
    rw [List.getElem?_set_self hi] at e
    cases e
    exact ⟨_, hg, .dctc (j.at_ (a, .dct _ ks vs) (by simp)) offs_same (fzs_id vs)⟩
  · rw [List.getElem?_set_ne q] at e
    exact ⟨u, e, .same u⟩
end
theorem fin_of {κ : Type} {W : κ → Sto} {l : Cs} {k : κ} {S : Sto} {z v : T} {Q : T → Sto → Prop} (i : SI W l k S) (w : Vw l z v) (q : Q v (W k)) : Fin Q z S := by
  refine ⟨W k, v, i.base, ?_, q⟩
  rcases w with rfl | ⟨a, xs, rfl, h, rfl⟩ | ⟨a, n, ks, vs, rfl, h, rfl⟩
  · exact .same _
  · exact .lstc (i.at_ _ h) (i.own _ h) (fzs_id _)
  · exact .dctc (i.at_ _ h) (i.own _ h) (fzs_id _)
theorem si_start {κ : Type} {W : κ → Sto} {k : κ} : SI W [] k (W k) := ⟨fun _ h => (nomatch h), fun _ h => (nomatch h), List.nodup_nil, fun _ _ h => h⟩
section
variable {κ α : Type}
def u0 (f : PM κ α) : List T → PM κ α
  | [] => f
  | _ => stuck
def u1 (f : T → PM κ α) : List T → PM κ α
  | [a] => f a
  | _ => stuck
def u2 (f : T → T → PM κ α) : List T → PM κ α
  | [a, b] => f a b
  | _ => stuck
def u3 (f : T → T → T → PM κ α) : List T → PM κ α
  | [a, b, c] => f a b c
  | _ => stuck
end
/-- a def's mirror takes so many -/
def Ar {κ α : Type} (n : Nat) (f : List T → PM κ α) : Prop := ∀ ts k, f ts k ≠ .bad → ts.length = n
theorem ar1 {κ α : Type} {f : T → PM κ α} : Ar 1 (u1 f) := fun ts k h => match ts, h with
  | [], h => (h rfl).elim
  | [a], _ => rfl
  | _ :: _ :: _, h => (h rfl).elim
theorem ar2 {κ α : Type} {f : T → T → PM κ α} : Ar 2 (u2 f) := fun ts k h => match ts, h with
  | [], h => (h rfl).elim
  | [_], h => (h rfl).elim
  | [a, b], _ => rfl
  | _ :: _ :: _ :: _, h => (h rfl).elim
theorem ar3 {κ α : Type} {f : T → T → T → PM κ α} : Ar 3 (u3 f) := fun ts k h => match ts, h with
  | [], h => (h rfl).elim
  | [_], h => (h rfl).elim
  | [_, _], h => (h rfl).elim
  | [a, b, c], _ => rfl
  | _ :: _ :: _ :: _ :: _, h => (h rfl).elim
theorem sat_nb {κ α : Type} {r : Res κ α} {P : α → κ → Prop} {X : T → κ → Prop} (h : Sat r P X) : r ≠ .bad := fun e => by rw [e] at h; exact h
theorem spU_len {n : Nat} {f : List T → PM Unit T} (ha : Ar n f) : ∀ ts S Q E, spU f ts S Q E → ts.length = n := fun ts S Q E h => ha ts () (sat_nb h)
theorem spP_len {n : Nat} {f : List T → PM Cell T} (ha : Ar n f) : ∀ ts S Q E, spP f ts S Q E → ts.length = n + 1 := fun ts S Q E ⟨p, rest, c, e, _, h⟩ => by
  subst e
  rw [List.length_cons, ha rest c (sat_nb h)]
theorem vc_u {N : List Str} {f : List T → PM Unit T} {c : TTS} (h : ∀ S ts, XS (fun _ : Unit => S) (startT N ts) [] c (f ts) .rt) : VC N (spU f) c := fun ts S Q E q =>
  h S ts _ _ () _ S (En.refl _) si_start (Sat.mono q (fun v k' q l z S' i w => fin_of i w q) fun x k' q τ' S' i => ⟨S, i.base, q⟩)
theorem ups_self {S : Sto} {p : Addr} {c : Cell} (h : S p = some c) : ups S p c = S := ups_eq h
theorem vc_p {N : List Str} {f : List T → PM Cell T} {c : TTS} (h : ∀ S pa ts, XS (penW S pa) (startT N (.ref pa :: ts)) [] c (f ts) .rt) : VC N (spP f) c := fun ts S Q E ⟨pa, rest, k, e, hs, q⟩ => by
  subst e
  have i0 : SI (penW S pa) [] k S := by
    have := si_start (W := penW S pa) (k := k)
    rwa [show penW S pa k = S from ups_self hs] at this
  exact h S pa rest _ _ k _ S (En.refl _) i0 (q.mono (fun v k' q l z S' i w => fin_of i w q) fun x k' q τ' S' i => ⟨_, i.base, q⟩)
theorem xs_stuck {κ β : Type} {W : κ → Sto} {p : TEnv} {l : Cs} {t : TTS} {post : β → Dest} : XS W p l t stuck post := fun D E k τ S hE i s => s.elim
theorem Ar.bd {κ α β : Type} {n : Nat} {f : List T → PM κ α} {g : α → PM κ β} (h : Ar n f) : Ar n (fun ts => bd (f ts) g) := fun ts k e => h ts k fun z => e (by simp only [TL.bd, z])
theorem vc_u1 {N : List Str} {c : TTS} {f : T → PM Unit T} (h : ∀ S y1, XS (fun _ : Unit => S) (startT N [y1]) [] c (f y1) .rt) : VC N (spU (u1 f)) c := vc_u fun S ts => match ts with
  | [] => xs_stuck
  | [y1] => h S y1
  | _ :: _ :: _ => xs_stuck
theorem vc_p1 {N : List Str} {c : TTS} {f : T → PM Cell T} (h : ∀ S pa y1, XS (penW S pa) (startT N (.ref pa :: [y1])) [] c (f y1) .rt) : VC N (spP (u1 f)) c := vc_p fun S pa ts => match ts with
  | [] => xs_stuck
  | [y1] => h S pa y1
  | _ :: _ :: _ => xs_stuck
theorem vc_u2 {N : List Str} {c : TTS} {f : T → T → PM Unit T} (h : ∀ S y1 y2, XS (fun _ : Unit => S) (startT N [y1, y2]) [] c (f y1 y2) .rt) : VC N (spU (u2 f)) c := vc_u fun S ts => match ts with
  | [] => xs_stuck
  | [_] => xs_stuck
  | [y1, y2] => h S y1 y2
  | _ :: _ :: _ :: _ => xs_stuck
theorem vc_u3 {N : List Str} {c : TTS} {f : T → T → T → PM Unit T} (h : ∀ S y1 y2 y3, XS (fun _ : Unit => S) (startT N [y1, y2, y3]) [] c (f y1 y2 y3) .rt) : VC N (spU (u3 f)) c := vc_u fun S ts => match ts with
  | [] => xs_stuck
  | [_] => xs_stuck
  | [_, _] => xs_stuck
  | [y1, y2, y3] => h S y1 y2 y3
  | _ :: _ :: _ :: _ :: _ => xs_stuck
theorem us2 {κ α : Type} {f : T → T → PM κ α} (h : ∀ y1 y2, f y1 y2 = stuck) : ∀ ts, u2 f ts = stuck
  | [] => rfl
  | [_] => rfl
  | [y1, y2] => h y1 y2
  | _ :: _ :: _ :: _ => rfl
def fuel : Nat := 1000000000
/-- the law: the pen first -/
def sp_pen_of : SpT := sp1 fun a S Q _ => ∃ ns : List Int, a = .scr ns ∧ ∀ p c, S p = none → PenC 0 c → Q (.ref p) (ups S p c)
def sp_law1 : SpT := sp1 fun a S Q _ => ∃ ns, a = .scr ns ∧ ∀ S', Q (.bl true) S'
theorem law1_sp (ns : List Int) (_ : ns.length ≤ 63) : sp_law1 [.scr ns] (fun _ => none) (fun z _ => z = .bl true) fun _ _ => False := ⟨_, rfl, ns, rfl, fun _ => rfl⟩
theorem vc_law {N : List Str} {m : PM Cell T} {u : TTS} (h : ∀ S0 pa a, XS (penW S0 pa) ((startT N [a]).set 1 (some (.ref pa))) [] u m .rt) (hm : ∀ c, PenC 0 c → ∃ k, m c = .ok (.bl true) k) (h0 : (startT N [T.non])[0]? = some (some T.non) := by rfl) :
    VC N sp_law1 (cSeq (cSet 1 (cCall sp_pen_of (cCons (cVar 0) cNil))) u) := by
  rintro ts S Q E ⟨a, rfl, ns, rfl, hq⟩
  refine ⟨.scr ns, rfl, _, rfl, ns, rfl, fun p c hp hc => ?_⟩
  obtain ⟨k, hk⟩ := hm c hc
  refine h S p (.scr ns) _ _ c _ _ (En.refl _) (si_start (W := penW S p)) ?_
  rw [hk]
  exact fun l z S' i w => fin_of i w (hq _)
end TL
namespace TL
open PySem PySem.Spec PyProof.Rows L2
def intsOf : List T → Option (List Int)
  | [] => some []
  | .int i :: ts => (intsOf ts).map (i :: ·)
  | _ :: _ => none
theorem intsOf_is : ∀ {ts : List T} {ns : List Int}, intsOf ts = some ns → ts = ns.map T.int
  | [], ns, e => by obtain rfl := Option.some.inj e; rfl
  | .int i :: ts, ns, e => by
    unfold intsOf at e
    cases q : intsOf ts with
    | none => rw [q] at e; cases e
    | some ms =>
      rw [q] at e
      obtain rfl := Option.some.inj e
      rw [intsOf_is q]
      rfl
  | .non :: _, _, e | .bl _ :: _, _, e | .str _ :: _, _, e | .tup _ :: _, _, e | .lst _ :: _, _, e | .ref _ :: _, _, e | .exc _ _ _ :: _, _, e | .dct _ _ _ :: _, _, e | .obj _ _ _ :: _, _, e | .fn _ :: _, _, e | .scr _ :: _, _, e => by cases e
theorem intsOf_map : ∀ ns : List Int, intsOf (ns.map T.int) = some ns
  | [] => rfl
  | i :: ns => by rw [List.map_cons]; unfold intsOf; rw [intsOf_map ns]; rfl
def penCell (ns : List Int) (at_ rest : Int) : Cell := .lst [.lst (ns.map T.int), .int at_, .int rest]
def absI (z : Int) : Int := if z < 0 then -z else z
def drawNum (z at_ many : Int) : Int := (((((z.fmod 2147483647 + 69621 * at_ + 13) * 48271).fmod 2147483629 * ((z.fmod 2147483647 + 69621 * at_ + 13) * 48271).fmod 2147483629).fmod 2147483587 * ((((z.fmod 2147483647 + 69621 * at_ + 13) * 48271).fmod 2147483629).fmod 65521 + 7 * at_ + 1)).fmod 2147483563).fdiv 32 |>.fmod many
def cellAt (ns : List Int) (at_ : Int) : Int := if 0 < ns.length then ns.getD (at_.fmod ns.length).toNat 0 else 11
def drawStep (ns : List Int) (at_ rest many : Int) : Int × Cell :=
  if 0 < rest then (rest.fmod many, penCell ns at_ (rest.fdiv many))
  else if at_ < ns.length then (if 10 ^ 18 ≤ absI (cellAt ns at_) then ((absI (cellAt ns at_)).fmod many, penCell ns (at_ + 1) ((absI (cellAt ns at_)).fdiv many)) else (drawNum (cellAt ns at_) at_ many, penCell ns (at_ + 1) rest))
  else (drawNum (cellAt ns at_) at_ many, penCell ns (at_ + 1) rest)
def m_draw (t : T) : PM Cell T := fun c => match c, t with
  | .lst [.lst xs, .int at_, .int rest], .int many => match intsOf xs with
    | some ns => if 0 < many ∧ many < 1000000000000000000000000000001 ∧ 0 ≤ at_ ∧ at_ ≤ big ∧ 0 ≤ rest ∧ ns.length ≤ 63 then .ok (.int (drawStep ns at_ rest many).1) (drawStep ns at_ rest many).2 else .bad
    | none => .bad
  | _, _ => .bad
theorem sat_draw {t : T} {c : Cell} {P : T → Cell → Prop} {X : T → Cell → Prop} (h : Sat (m_draw t c) P X) : ∃ ns at_ rest many, c = penCell ns at_ rest ∧ t = .int many ∧ (0 < many ∧ many < 1000000000000000000000000000001 ∧ 0 ≤ at_ ∧ at_ ≤ big ∧ 0 ≤ rest ∧ ns.length ≤ 63) ∧ P (.int (drawStep ns at_ rest many).1) (drawStep ns at_ rest many).2 := by
  unfold m_draw at h
  split at h
  · rename_i xs at_ rest many
    split at h
    · rename_i ns e
      split at h
      · rename_i k
        exact ⟨ns, at_, rest, many, by rw [intsOf_is e]; rfl, rfl, k, h⟩
      · exact h.elim
    · exact h.elim
  · exact h.elim
theorem draw_ok {n : Nat} {c : Cell} {many : Int} (h : PenC n c) (hn : n ≤ big) (h1 : 0 < many) (h2 : many < 1000000000000000000000000000001) : ∃ d c', m_draw (.int many) c = .ok (.int d) c' ∧ 0 ≤ d ∧ d < many ∧ PenC (n + 1) c' := by
  obtain ⟨ns, at_, rest, rfl, a0, a1, a2, a3⟩ := h
  have hb : (n : Int) ≤ big := by exact_mod_cast hn
  have e : m_draw (.int many) (.lst [.lst (ns.map T.int), .int at_, .int rest]) = .ok (.int (drawStep ns at_ rest many).1) (drawStep ns at_ rest many).2 := by
    unfold m_draw
    simp only [intsOf_map]
    rw [if_pos ⟨h1, h2, a0, by omega, a2, a3⟩]
  refine ⟨_, _, e, ?_⟩
  have w : 0 ≤ absI (cellAt ns at_) := by unfold absI; split <;> omega
  unfold drawStep
  split
  · exact ⟨fmod_lo h1, fmod_hi h1, ns, at_, _, rfl, a0, by omega, fdiv_lo a2 h1, a3⟩
  split
  · split
    · exact ⟨fmod_lo h1, fmod_hi h1, ns, at_ + 1, _, rfl, by omega, by omega, fdiv_lo w h1, a3⟩
    · exact ⟨fmod_lo h1, fmod_hi h1, ns, at_ + 1, _, rfl, by omega, by omega, a2, a3⟩
  · exact ⟨fmod_lo h1, fmod_hi h1, ns, at_ + 1, _, rfl, by omega, by omega, a2, a3⟩
end TL
namespace TL
open PySem PySem.Spec PyProof.Rows L2
section
variable {κ α β γ σ : Type}
/-- a condition -/
noncomputable def gdc (b : Prop) : PM κ Unit := @gd κ b (Classical.propDecidable b)
theorem gd_c {b : Prop} [d : Decidable b] : gd (κ := κ) b = gdc b := by
  unfold gdc
  congr
theorem gdc_t {b : Prop} (h : b) : gdc (κ := κ) b = pu () := @gd_true κ b (Classical.propDecidable b) h
theorem gdc_f {b : Prop} (h : ¬ b) : gdc (κ := κ) b = stuck := @if_neg b (Classical.propDecidable b) h _ _ _
theorem gdc_b {b : Prop} (h : b) (f : Unit → PM κ α) : bd (gdc b) f = f () := by rw [gdc_t h]; rfl
theorem ofO_none : ofO (κ := κ) (none : Option α) = stuck := rfl
theorem ofO_ite {c : Prop} [Decidable c] {v : α} : ofO (κ := κ) (if c then some v else none) = bd (gdc c) fun _ => pu v := by
  by_cases h : c
  · rw [if_pos h, gdc_t h]; rfl
  · rw [if_neg h, gdc_f h]; rfl
theorem ite_pu {c : Prop} [Decidable c] {x y : α} : (if c then pu (κ := κ) x else pu y) = pu (if c then x else y) := by split <;> rfl
theorem lft_bd (m : PM Unit α) (f : α → PM Unit β) : lft (κ := κ) (bd m f) = bd (lft m) fun a => lft (f a) := by
  funext k
  unfold lft bd
  cases m () <;> rfl
theorem lft_gdc {b : Prop} : lft (κ := κ) (gdc b) = gdc b := by
  by_cases h : b
  · rw [gdc_t h, gdc_t h]; rfl
  · rw [gdc_f h, gdc_f h]; rfl
theorem lft_ite {c : Prop} [Decidable c] {x y : PM Unit α} : lft (κ := κ) (if c then x else y) = if c then lft x else lft y := by split <;> rfl
theorem lft_stuck : lft (κ := κ) (stuck : PM Unit α) = stuck := rfl
def compA (f : α → PM κ (Option T)) : List α → PM κ (List T)
  | [] => pu []
  | x :: xs => bd (nox (f x)) fun o => bd (compA f xs) fun ys => pu (o.toList ++ ys)
theorem compA_cons {f : α → PM κ (Option T)} {x : α} {xs : List α} : compA f (x :: xs) = bd (nox (f x)) fun o => bd (compA f xs) fun ys => pu (o.toList ++ ys) := rfl
theorem compM_map {e : α → T} {f : T → PM κ (Option T)} : ∀ xs : List α, compM f (xs.map e) = compA (fun a => f (e a)) xs
  | [] => rfl
  | x :: xs => by
    rw [List.map_cons, compA_cons, ← compM_map xs]
    rfl
theorem compG_map {e : α → T} {f : T → PM κ (Option T)} {xs : List α} : compG f (xs.map e) = bd (gdc (xs.length ≤ sizeLine)) fun _ => compA (fun a => f (e a)) xs := by
  unfold compG
  rw [gd_c, compM_map, List.length_map]
theorem compA_pu {g : α → T} : ∀ xs : List α, compA (κ := κ) (fun a => pu (some (g a))) xs = pu (xs.map g)
  | [] => rfl
  | x :: xs => by
    rw [compA_cons, compA_pu xs]
    rfl
theorem compA_if {p : α → Prop} [DecidablePred p] {g : α → T} : ∀ xs : List α, compA (κ := κ) (fun a => if p a then pu (some (g a)) else pu none) xs = pu ((xs.filter fun a => decide (p a)).map g)
  | [] => rfl
  | x :: xs => by
    rw [compA_cons, compA_if xs]
    by_cases h : p x
    · rw [if_pos h, List.filter_cons_of_pos (by simpa using h)]; rfl
    · rw [if_neg h, List.filter_cons_of_neg (by simpa using h)]; rfl
theorem bd_stuck (m : PM κ α) (h : ∀ k, ∃ a k', m k = .ok a k' ∨ m k = .bad) : bd m (fun _ => (stuck : PM κ β)) = stuck := by
  funext k
  obtain ⟨a, k', e | e⟩ := h k <;> (unfold bd; rw [e]; rfl)
theorem nox_cases (m : PM κ α) [Inhabited α] (k : κ) : ∃ a k', nox m k = .ok a k' ∨ nox m k = .bad := by
  unfold nox
  cases e : m k with
  | ok a k' => exact ⟨a, k', .inl rfl⟩
  | exc x k' => exact ⟨default, k, .inr rfl⟩
  | bad => exact ⟨default, k, .inr rfl⟩
theorem compA_gd {c : α → Prop} {h : α → PM κ (Option T)} : ∀ xs : List α, compA (fun a => bd (gdc (c a)) fun _ => h a) xs = bd (gdc (∀ a ∈ xs, c a)) fun _ => compA h xs
  | [] => by rw [gdc_t (fun _ h => nomatch h)]; rfl
  | x :: xs => by
    have ih := compA_gd (c := c) (h := h) xs
    by_cases hx : c x
    · by_cases hs : ∀ a ∈ xs, c a
      · rw [gdc_t hs, pu_bd] at ih
        rw [gdc_t (List.forall_mem_cons.mpr ⟨hx, hs⟩), pu_bd, compA_cons, gdc_t hx, ih]
        rfl
      · rw [gdc_f hs, stuck_bd] at ih
        rw [gdc_f fun z => hs (List.forall_mem_cons.mp z).2, compA_cons, ih]
        exact bd_stuck _ (nox_cases _)
    · rw [gdc_f fun z => hx (List.forall_mem_cons.mp z).1, compA_cons, gdc_f hx]
      rfl
theorem compA_gdif {p c : α → Prop} [DecidablePred p] {h : α → PM κ (Option T)} (xs : List α) : compA (fun a => if p a then bd (gdc (c a)) fun _ => h a else pu none) xs = bd (gdc (∀ a ∈ xs, p a → c a)) fun _ => compA (fun a => if p a then h a else pu none) xs := by
  rw [← compA_gd]
  congr
  funext a
  by_cases hp : p a
  · rw [if_pos hp]
    by_cases hc : c a
    · rw [gdc_t hc, gdc_t (fun _ => hc), if_pos hp]
    · rw [gdc_f hc, gdc_f (fun z => hc (z hp))]; rfl
  · rw [if_neg hp, gdc_t (fun z => absurd z hp), if_neg hp]; rfl
theorem compA_congr {f g : α → PM κ (Option T)} : ∀ {xs : List α}, (∀ a ∈ xs, f a = g a) → compA f xs = compA g xs
  | [], _ => rfl
  | x :: xs, h => by
    rw [compA_cons, compA_cons, h x List.mem_cons_self, compA_congr fun a ha => h a (List.mem_cons_of_mem _ ha)]
def forA (f : α → σ → PM κ σ) : List α → σ → PM κ σ
  | [], s => pu s
  | x :: xs, s => bd (f x s) (forA f xs)
theorem forM_map {e : α → T} {f : T → σ → PM κ σ} : ∀ (xs : List α) (s : σ), forM f (xs.map e) s = forA (fun a => f (e a)) xs s
  | [], _ => rfl
  | x :: xs, s => by
    rw [List.map_cons]
    show bd (f (e x) s) (forM f (xs.map e)) = bd (f (e x) s) (forA (fun a => f (e a)) xs)
    congr
    funext s
    exact forM_map xs s
def forRA (f : α → σ → PM κ (Fl σ)) : List α → σ → PM κ (σ ⊕ T)
  | [], s => pu (.inl s)
  | x :: xs, s => bd (f x s) fun r => match r with
    | .nx s => forRA f xs s
    | .ct s => forRA f xs s
    | .bk s => pu (.inl s)
    | .rt v => pu (.inr v)
theorem forR_map {e : α → T} {f : T → σ → PM κ (Fl σ)} : ∀ (xs : List α) (s : σ), forR f (xs.map e) s = forRA (fun a => f (e a)) xs s
  | [], _ => rfl
  | x :: xs, s => by
    rw [List.map_cons]
    show bd (f (e x) s) _ = bd (f (e x) s) _
    congr
    funext r
    cases r with
    | nx s => exact forR_map xs s
    | ct s => exact forR_map xs s
    | _ => rfl
theorem forR_A {f : T → σ → PM κ (Fl σ)} (xs : List T) (s : σ) : forR f xs s = forRA f xs s := by
  have := forR_map (e := id) (f := f) xs s
  rwa [List.map_id] at this
/-- a loop that goes through: a state kept -/
theorem forRA_all {f : α → σ → PM κ (Fl σ)} : ∀ (xs : List α) (s : σ), (∀ x ∈ xs, f x s = pu (.nx s)) → forRA f xs s = pu (.inl s)
  | [], _, _ => rfl
  | x :: xs, s, h => by
    show bd (f x s) _ = _
    rw [h x List.mem_cons_self, pu_bd]
    exact forRA_all xs s fun y hy => h y (List.mem_cons_of_mem _ hy)
theorem sum_inl {f : σ → γ} {g : T → γ} {s : σ} : Sum.elim f g (.inl s) = f s := rfl
theorem sum_inr {f : σ → γ} {g : T → γ} {v : T} : Sum.elim f g (.inr v) = g v := rfl
end
def Pen (r : Nat) (c : Cell) : Prop := ∃ n, n + r ≤ big ∧ PenC n c
def HT {α : Type} (d : Nat) (m : PM Cell α) (P : α → Prop) : Prop := ∀ r c, Pen (r + d) c → ∃ a c', m c = .ok a c' ∧ Pen r c' ∧ P a
section
variable {α β γ σ : Type}
theorem HT.le {d d' : Nat} {m : PM Cell α} {P : α → Prop} (h : HT d m P) (hd : d ≤ d') : HT d' m P := fun r c ⟨n, h1, h2⟩ => by
  obtain ⟨a, c', e, ⟨n', k1, k2⟩, p⟩ := h (r + (d' - d)) c ⟨n, by omega, h2⟩
  exact ⟨a, c', e, ⟨n', by omega, k2⟩, p⟩
theorem HT.mono {d : Nat} {m : PM Cell α} {P Q : α → Prop} (h : HT d m P) (hq : ∀ a, P a → Q a) : HT d m Q := fun r c hc => by
  obtain ⟨a, c', e, k, p⟩ := h r c hc
  exact ⟨a, c', e, k, hq a p⟩
theorem HT.pu {d : Nat} {a : α} {P : α → Prop} (h : P a) : HT d (TL.pu a) P := fun r c ⟨n, h1, h2⟩ => ⟨a, c, rfl, ⟨n, by omega, h2⟩, h⟩
theorem HT.bd {d1 d2 : Nat} {m : PM Cell α} {f : α → PM Cell β} {P : α → Prop} {Q : β → Prop} (h1 : HT d1 m P) (h2 : ∀ a, P a → HT d2 (f a) Q) : HT (d2 + d1) (TL.bd m f) Q := fun r c hc => by
  obtain ⟨a, c1, e1, k1, p1⟩ := h1 (r + d2) c (by rw [Nat.add_assoc]; exact hc)
  obtain ⟨b, c2, e2, k2, p2⟩ := h2 a p1 r c1 k1
  exact ⟨b, c2, by unfold TL.bd; rw [e1]; exact e2, k2, p2⟩
theorem HT.draw {many : Int} {P : T → Prop} (h1 : 0 < many) (h2 : many < 1000000000) (h : ∀ d : Int, 0 ≤ d → d < many → P (.int d)) : HT 1 (m_draw (.int many)) P := fun r c ⟨n, k1, k2⟩ => by
  obtain ⟨d, c', e, d0, d1, k⟩ := draw_ok k2 (by omega) h1 (by omega)
  exact ⟨_, c', e, ⟨n + 1, by omega, k⟩, h d d0 d1⟩
/-- a draw, then on -/
theorem HT.drawB {many : Int} {d : Nat} {f : T → PM Cell β} {Q : β → Prop} (h1 : 0 < many) (h2 : many < 1000000000) (h : ∀ i : Int, 0 ≤ i → i < many → HT d (f (.int i)) Q) : HT (d + 1) (TL.bd (m_draw (.int many)) f) Q :=
  HT.bd (P := fun v => ∃ i : Int, 0 ≤ i ∧ i < many ∧ v = .int i) (HT.draw h1 h2 fun i a b => ⟨i, a, b, rfl⟩) fun v ⟨i, a, b, e⟩ => e ▸ h i a b
theorem HT.gdc {b : Prop} {d : Nat} {f : Unit → PM Cell β} {Q : β → Prop} (hb : b) (h : HT d (f ()) Q) : HT d (TL.bd (TL.gdc b) f) Q := by rw [gdc_b hb]; exact h
theorem HT.ite {c : Prop} [Decidable c] {d : Nat} {x y : PM Cell α} {P : α → Prop} (h1 : c → HT d x P) (h2 : ¬ c → HT d y P) : HT d (if c then x else y) P := by
  by_cases h : c
  · rw [if_pos h]; exact h1 h
  · rw [if_neg h]; exact h2 h
theorem HT.forA {d : Nat} {f : α → σ → PM Cell σ} (I : List α → σ → Prop) : ∀ (xs : List α) (s : σ), I xs s → (∀ x xs s, I (x :: xs) s → HT d (f x s) fun s' => I xs s') → HT (xs.length * d) (TL.forA f xs s) fun s' => I [] s'
  | [], s, hi, _ => by
    rw [List.length_nil, Nat.zero_mul]
    exact HT.pu hi
  | x :: xs, s, hi, h => by
    rw [List.length_cons, Nat.succ_mul]
    exact HT.bd (h x xs s hi) fun s' hs' => HT.forA I xs s' hs' h
/-- at most so many turns -/
theorem HT.forN (d n : Nat) {f : α → σ → PM Cell σ} (I : List α → σ → Prop) {xs : List α} {s : σ} (hn : xs.length ≤ n) (hi : I xs s) (h : ∀ x xs s, I (x :: xs) s → HT d (f x s) fun s' => I xs s') : HT (n * d) (TL.forA f xs s) fun s' => I [] s' :=
  (HT.forA I xs s hi h).le (Nat.mul_le_mul_right d hn)
theorem HT.compA {d : Nat} {f : α → PM Cell (Option T)} (I : List α → List T → Prop) : ∀ (xs : List α) (acc : List T), I xs acc → (∀ x xs acc, I (x :: xs) acc → HT d (f x) fun o => I xs (acc ++ o.toList)) → HT (xs.length * d) (TL.compA f xs) fun ys => I [] (acc ++ ys)
  | [], acc, hi, _ => by
    rw [List.length_nil, Nat.zero_mul]
    exact HT.pu (by simpa using hi)
  | x :: xs, acc, hi, h => by
    rw [List.length_cons, Nat.succ_mul]
    rw [compA_cons]
    refine HT.bd (P := fun o => I xs (acc ++ o.toList)) (fun r c hc => ?_) fun o ho => ?_
    · obtain ⟨a, c', e1, k1, p1⟩ := h x xs acc hi r c hc
      exact ⟨a, c', by unfold nox; rw [e1], k1, p1⟩
    · have := HT.compA I xs (acc ++ o.toList) ho h
      refine (HT.bd (d2 := 0) this fun ys hy => HT.pu ?_).le (Nat.le_of_eq (Nat.zero_add _))
      rw [← List.append_assoc]
      exact hy
theorem HT.compN (d n : Nat) {f : α → PM Cell (Option T)} (I : List α → List T → Prop) {xs : List α} (hn : xs.length ≤ n) (hi : I xs []) (h : ∀ x xs acc, I (x :: xs) acc → HT d (f x) fun o => I xs (acc ++ o.toList)) : HT (n * d) (TL.compA f xs) fun ys => I [] ys :=
  (HT.compA I xs [] hi h).le (Nat.mul_le_mul_right d hn)
/-- the law at its end -/
theorem HT.law {d : Nat} {m : PM Cell T} (h : HT d m fun v => v = .bl true) (hd : d ≤ 1000000000000) : ∀ c, PenC 0 c → ∃ k, m c = .ok (.bl true) k := fun c hc => by
  obtain ⟨a, c', e, _, rfl⟩ := h 0 c ⟨0, by unfold big; omega, hc⟩
  exact ⟨c', e⟩
end
end TL
namespace TL
open PySem PySem.Spec PyProof.Rows L2
abbrev Nm := List Sg
def fkT (x : Nm × Nm) : T := .tup [.str x.1, .str x.2]
/-- a kind of keys -/
structure KE {α : Type} (e : α → T) : Prop where
  inj : ∀ a b, e a = e b → a = b
  kx : ∀ a, kx (e a) = true
  dp : ∀ a, dep (e a) ≤ 8
  alk : ∀ a b, alk (e a) (e b) = true
theorem KE.okd {α : Type} {e : α → T} (h : KE e) (a : α) : okd (e a) = true := by
  have := h.dp a
  unfold TL.okd
  rw [kx_plain _ (h.kx a), decide_eq_true (by omega)]
  rfl
theorem ke_str : KE T.str := ⟨fun _ _ => str_inj, fun _ => rfl, fun _ => Nat.zero_le _, fun _ _ => rfl⟩
theorem famT_inj {f g : List Nm} (h : famT f = famT g) : f = g := by
  injection h with h
  exact (List.map_inj_right (fun _ _ => str_inj)).mp h
theorem ke_fam : KE famT := ⟨fun _ _ => famT_inj, fun f => (fam_facts f).1, fun f => by rw [(fam_facts f).2.2]; omega, fam_alk⟩
theorem ke_fk : KE fkT := ⟨fun a b h => by
  injection h with h
  injection h with h1 h2
  injection h2 with h2 _
  exact Prod.ext (str_inj h1) (str_inj h2), fun _ => rfl, fun _ => by show 1 ≤ 8; omega, fun _ _ => rfl⟩
theorem ke_kin : KE kinT := ⟨fun a b h => by
  injection h with h
  injection h with h1 h2
  injection h2 with h2 _
  exact Prod.ext (str_inj h1) (famT_inj h2), fun b => (kin_facts b).1, fun b => by rw [(kin_facts b).2.2]; omega, kin_alk⟩
section
variable {α : Type} {e : α → T} {S : Sto}
theorem KE.eqt (h : KE e) [DecidableEq α] (a b : α) : eqt (e a) (e b) = decide (a = b) := by
  have z := eqt_kx (e a) (e b) (h.kx a) (h.kx b)
  by_cases q : a = b
  · subst q; rw [decide_eq_true rfl]; exact z.mpr rfl
  · rw [decide_eq_false q]
    cases w : TL.eqt (e a) (e b) with
    | false => rfl
    | true => exact absurd (h.inj _ _ (z.mp w)) q
theorem KE.eqT (h : KE e) [DecidableEq α] (a b : α) : eqT emp (e a) (e b) = some (.bl (decide (a = b))) := by
  have r : ∀ a, res emp (e a) = e a := fun a => by
    have := h.kx a
    cases q : e a with
    | ref x => rw [q] at this; cases this
    | _ => rfl
  unfold TL.eqT
  rw [r, r, h.okd, h.okd, h.eqt]
  rfl
theorem KE.neT (h : KE e) [DecidableEq α] (a b : α) : neT emp (e a) (e b) = some (.bl (!decide (a = b))) := by
  have r : ∀ a, res emp (e a) = e a := fun a => by
    have := h.kx a
    cases q : e a with
    | ref x => rw [q] at this; cases this
    | _ => rfl
  unfold TL.neT
  rw [r, r, h.okd, h.okd, h.eqt]
  rfl
theorem KE.any (h : KE e) [DecidableEq α] (a : α) : ∀ xs : List α, ((xs.map e).any fun z => TL.eqt z (e a)) = decide (a ∈ xs)
  | [] => rfl
  | x :: xs => by
    rw [List.map_cons, List.any_cons, KE.any h a xs, h.eqt]
    by_cases q : x = a
    · subst q; simp
    · have q' : a ≠ x := fun z => q z.symm
      simp [q, q']
theorem KE.okds (h : KE e) (xs : List α) : TL.okd (.lst (xs.map e)) = true ∧ TL.okd (.tup (xs.map e)) = true := okd_map fun x _ => ⟨h.okd x, by have := h.dp x; omega⟩
theorem KE.inT (h : KE e) [DecidableEq α] (a : α) (xs : List α) : inT emp (e a) (.tup (xs.map e)) = some (.bl (decide (a ∈ xs))) ∧ inT emp (e a) (.lst (xs.map e)) = some (.bl (decide (a ∈ xs))) := by
  constructor
  · unfold TL.inT inQ
    show Option.map _ (if (TL.okd (e a) && TL.okd (.tup (xs.map e))) = true then _ else none) = _
    rw [h.okd, (h.okds xs).2, Bool.and_self, if_pos rfl, h.any]; rfl
  · unfold TL.inT inQ
    show Option.map _ (if (TL.okd (e a) && TL.okd (.lst (xs.map e))) = true then _ else none) = _
    rw [h.okd, (h.okds xs).1, Bool.and_self, if_pos rfl, h.any]; rfl
theorem KE.ninT (h : KE e) [DecidableEq α] (a : α) (xs : List α) : ninT emp (e a) (.tup (xs.map e)) = some (.bl (!decide (a ∈ xs))) ∧ ninT emp (e a) (.lst (xs.map e)) = some (.bl (!decide (a ∈ xs))) := by
  constructor
  · unfold TL.ninT inQ
    show Option.map _ (if (TL.okd (e a) && TL.okd (.tup (xs.map e))) = true then _ else none) = _
    rw [h.okd, (h.okds xs).2, Bool.and_self, if_pos rfl, h.any]; rfl
  · unfold TL.ninT inQ
    show Option.map _ (if (TL.okd (e a) && TL.okd (.lst (xs.map e))) = true then _ else none) = _
    rw [h.okd, (h.okds xs).1, Bool.and_self, if_pos rfl, h.any]; rfl
theorem KE.kxs (h : KE e) (xs : List α) : TL.kxs (xs.map e) = true := kxs_map fun x _ => h.kx x
theorem KE.eqts (h : KE e) [DecidableEq α] (xs ys : List α) : TL.eqts (xs.map e) (ys.map e) = decide (xs = ys) := by
  have z := eqts_kx (xs.map e) (ys.map e) (h.kxs xs) (h.kxs ys)
  by_cases q : xs = ys
  · subst q; rw [decide_eq_true rfl]; exact z.mpr rfl
  · rw [decide_eq_false q]
    cases w : TL.eqts (xs.map e) (ys.map e) with
    | false => rfl
    | true => exact absurd ((List.map_inj_right h.inj).mp (z.mp w)) q
/-- sorted -/
def srt (e : α → T) (xs : List α) : List α := xs.mergeSort fun a b => leT' (e a) (e b)
theorem srt_map (xs : List α) : (xs.map e).mergeSort leT' = (srt e xs).map e := (List.map_mergeSort (r := fun a b => leT' (e a) (e b)) (s := leT') (f := e) (l := xs) fun a _ b _ => rfl).symm
theorem srt_perm (xs : List α) : (srt e xs).Perm xs := List.mergeSort_perm xs _
theorem srt_len (xs : List α) : (srt e xs).length = xs.length := (srt_perm xs).length_eq
theorem srt_mem {xs : List α} {a : α} : a ∈ srt e xs ↔ a ∈ xs := (srt_perm xs).mem_iff
/-- can be sorted -/
structure SE (e : α → T) (P : α → Prop) : Prop where
  ke : KE e
  srt : ∀ xs : List α, (∀ x ∈ xs, P x) → sortOk (xs.map e) = true
theorem se_str : SE T.str fun _ => True := ⟨ke_str, fun xs _ => sortOk_strs xs⟩
theorem se_fam : SE famT fun f => f ≠ [] := ⟨ke_fam, fun xs h => sortOk_of_tups (fun f _ => ke_fam.okd f) (fun f _ g _ => fam_alk f g) fun f hf => by
  cases q : f with
  | nil => exact absurd q (h f hf)
  | cons a b => exact ⟨_, _, rfl⟩⟩
theorem se_fk : SE fkT fun _ => True := ⟨ke_fk, fun xs _ => sortOk_of_tups (fun f _ => ke_fk.okd f) (fun f _ g _ => rfl) fun f _ => ⟨_, _, rfl⟩⟩
theorem se_kin : SE kinT fun _ => True := ⟨ke_kin, fun xs _ => sortOk_of_tups (fun f _ => ke_kin.okd f) (fun f _ g _ => kin_alk f g) fun f _ => ⟨_, _, rfl⟩⟩
variable {P : α → Prop}
theorem SE.sorted (h : SE e P) {xs : List α} (hp : ∀ x ∈ xs, P x) (hl : xs.length ≤ sizeLine) : sortedF emp [.lst (xs.map e)] = some (.lst ((TL.srt e xs).map e)) ∧ sortedF emp [.tup (xs.map e)] = some (.lst ((TL.srt e xs).map e)) := by
  constructor
  · rw [sortedF_lst, h.srt xs hp, List.length_map, decide_eq_true hl, Bool.and_self, if_pos rfl, srt_map]
  · rw [sortedF_tup, h.srt xs hp, List.length_map, decide_eq_true hl, Bool.and_self, if_pos rfl, srt_map]
theorem SE.rise (h : SE e P) {xs : List α} (hp : ∀ x ∈ xs, P x) (nd : xs.Nodup) : Rise ((TL.srt e xs).map e) := by
  rw [← srt_map]
  exact rise_sort (h.ke.kxs xs) (h.srt xs hp) (nodup_map h.ke.inj nd)
theorem ltt_asym {x y : T} (kx1 : TL.kx x = true) (ky : TL.kx y = true) (al : TL.alk x y = true) (nx : x ≠ .non) (ny : y ≠ .non) (h : ltt x y = true) : ltt y x = false := by
  have d1 := ltt_dat x y (kx_plain _ kx1) (kx_plain _ ky) al nx
  have d2 := ltt_dat y x (kx_plain _ ky) (kx_plain _ kx1) (by rw [alk_symm]; exact al) ny
  cases q : ltt y x with
  | false => rfl
  | true =>
    rw [h] at d1
    rw [q] at d2
    have := lex_trans _ _ _ d1 d2
    rw [lex_irrefl] at this
    cases this
end
end TL
namespace TL
open PySem PySem.Spec PyProof.Rows L2
section
variable {κ α β : Type} {e : α → T}
theorem gdc_T : gdc (κ := κ) True = pu () := gdc_t trivial
theorem isStr_str {x : Nm} : isStr (.str x) = true := rfl
theorem isTup_tup {x : List T} : isTup (.tup x) = true := rfl
theorem joinF_l {a : Nm} {ts : List T} : joinF emp (.str a) [.lst ts] = (strsOf ts).bind fun xs => if joinSz a xs = true then some (T.str (jnL a xs)) else none := by
  show (match strsOf ts with | some xs => if joinSz a xs = true then some (T.str (jnL a xs)) else none | none => none) = _
  cases strsOf ts <;> rfl
theorem joinF_t {a : Nm} {ts : List T} : joinF emp (.str a) [.tup ts] = (strsOf ts).bind fun xs => if joinSz a xs = true then some (T.str (jnL a xs)) else none := by
  show (match strsOf ts with | some xs => if joinSz a xs = true then some (T.str (jnL a xs)) else none | none => none) = _
  cases strsOf ts <;> rfl
theorem strsOf_nil : strsOf [] = some [] := rfl
theorem strsOf_cons {x : Nm} {ts : List T} : strsOf (.str x :: ts) = (strsOf ts).map (x :: ·) := rfl
theorem extM_l {xs zs : List T} : extM (κ := κ) xs (.lst zs) = bd (gdc (xs.length + zs.length ≤ sizeLine)) fun _ => pu (xs ++ zs) := by
  show bd (gd _) _ = _
  rw [gd_c]
theorem appM_c {xs : List T} {y : T} : appM (κ := κ) xs y = bd (gdc (xs.length < sizeLine)) fun _ => pu (xs ++ [y]) := by
  unfold appM
  rw [gd_c]
theorem gdc_e {b : Prop} {f : Unit → PM κ α} {m : PM κ α} (h : b) (h2 : f () = m) : bd (gdc b) f = m := by rw [gdc_b h, h2]
theorem forR_all {σ : Type} {f : T → σ → PM κ (Fl σ)} {xs : List T} {s : σ} (h : ∀ x ∈ xs, f x s = pu (.nx s)) : forR f xs s = pu (.inl s) := by rw [forR_A]; exact forRA_all xs s h
theorem joinSz_ok {a : Nm} {xs : List Nm} {k : Nat} (h : ∀ x ∈ xs, x.length ≤ k) (h2 : xs.length * (k + a.length) ≤ 1000000) : joinSz a xs = true := by
  have : (xs.map (·.length)).sum ≤ xs.length * k := by
    clear h2
    induction xs with
    | nil => exact Nat.zero_le _
    | cons x xs ih =>
      have a1 := h x List.mem_cons_self
      have a2 := ih fun y hy => h y (List.mem_cons_of_mem _ hy)
      rw [List.map_cons, List.sum_cons, List.length_cons, Nat.succ_mul]
      omega
  rw [Nat.mul_add] at h2
  show decide ((xs.map fun x => x.length).sum + xs.length * a.length ≤ 1000000) = true
  exact decide_eq_true (by omega)
theorem jn_ones (cs : List Sg) : jnL [] (cs.map fun c => [c]) = cs := by
  cases cs with
  | nil => rfl
  | cons c cs =>
    show [c] ++ ((cs.map fun c => [c]).map ([] ++ ·)).flatten = c :: cs
    have : ((cs.map fun c => [c]).map (([] : List Sg) ++ ·)).flatten = cs := by
      rw [List.map_map]
      induction cs with
      | nil => rfl
      | cons d ds ih => rw [List.map_cons, List.flatten_cons, ih]; rfl
    rw [this]
    rfl
theorem at_ones {x : Nm} {i : Int} (h0 : 0 ≤ i) (h1 : i < x.length) (h2 : x.length ≤ sizeLine) : ∃ c, c ∈ x ∧ ixT emp (.str x) (.int i) = some (.str [c]) := by
  obtain ⟨c, hc, q⟩ := atI_mem h0 h1
  exact ⟨c, hc, by rw [ixT_str, if_pos h2, q]; rfl⟩
end
structure Bk where
  folk : List (Nm × Nm)
  unions : List (List Nm)
  births : List (Nm × List Nm)
  adopts : List (Nm × List Nm)
def bkT (B : Bk) : T := .tup [.tup (B.folk.map fkT), .tup (B.unions.map famT), .tup (B.births.map kinT), .tup (B.adopts.map kinT)]
def Bk.names (B : Bk) : List Nm := B.folk.map (·.1)
structure BkOk (B : Bk) : Prop where
  name : ∀ x ∈ B.folk, NameOk x.1 ∧ x.2 ∈ MKS
  nd : B.names.Nodup
  rf : Rise (B.folk.map fkT)
  lf : B.folk.length ≤ 16
  un : ∀ f ∈ B.unions, FamOk B.names f
  ru : Rise (B.unions.map famT)
  lu : B.unions.length ≤ 16
  bi : ∀ b ∈ B.births, KinOk B.names B.unions b
  rb : Rise (B.births.map kinT)
  lb : B.births.length ≤ 24
  ad : ∀ b ∈ B.adopts, KinOk B.names B.unions b
  ra : Rise (B.adopts.map kinT)
  la : B.adopts.length ≤ 12
section
variable {B : Bk} (h : BkOk B)
include h
theorem BkOk.nm {x : Nm} (hx : x ∈ B.names) : NameOk x := by
  obtain ⟨p, hp, rfl⟩ := List.mem_map.mp hx
  exact (h.name p hp).1
end
end TL
namespace TL
open PySem PySem.Spec PyProof.Rows L2
structure Lens (B : Bk) : Prop where
  f : ∀ a ∈ B.folk, a.1.length ≤ 8 ∧ a.2.length = 1
  u : ∀ a ∈ B.unions, a.length ≤ 2 ∧ ∀ x ∈ a, x.length ≤ 8
  b : ∀ a ∈ B.births, a.1.length ≤ 8 ∧ a.2.length ≤ 2 ∧ ∀ x ∈ a.2, x.length ≤ 8
  a : ∀ a ∈ B.adopts, a.1.length ≤ 8 ∧ a.2.length ≤ 2 ∧ ∀ x ∈ a.2, x.length ≤ 8
theorem kis_non_non : Kd.non.is .non = true := by decide
theorem kis_non_bool : Kd.non.is .bool = false := by decide
theorem kis_non_int : Kd.non.is .int = false := by decide
theorem kis_non_str : Kd.non.is .str = false := by decide
theorem kis_non_tup : Kd.non.is .tup = false := by decide
theorem kis_non_lst : Kd.non.is .lst = false := by decide
theorem kis_non_dct : Kd.non.is .dct = false := by decide
theorem kis_bool_non : Kd.bool.is .non = false := by decide
theorem kis_bool_bool : Kd.bool.is .bool = true := by decide
theorem kis_bool_int : Kd.bool.is .int = true := by decide
theorem kis_bool_str : Kd.bool.is .str = false := by decide
theorem kis_bool_tup : Kd.bool.is .tup = false := by decide
theorem kis_bool_lst : Kd.bool.is .lst = false := by decide
theorem kis_bool_dct : Kd.bool.is .dct = false := by decide
theorem kis_int_non : Kd.int.is .non = false := by decide
theorem kis_int_bool : Kd.int.is .bool = false := by decide
theorem kis_int_int : Kd.int.is .int = true := by decide
theorem kis_int_str : Kd.int.is .str = false := by decide
theorem kis_int_tup : Kd.int.is .tup = false := by decide
theorem kis_int_lst : Kd.int.is .lst = false := by decide
theorem kis_int_dct : Kd.int.is .dct = false := by decide
theorem kis_str_non : Kd.str.is .non = false := by decide
theorem kis_str_bool : Kd.str.is .bool = false := by decide
theorem kis_str_int : Kd.str.is .int = false := by decide
theorem kis_str_str : Kd.str.is .str = true := by decide
theorem kis_str_tup : Kd.str.is .tup = false := by decide
theorem kis_str_lst : Kd.str.is .lst = false := by decide
theorem kis_str_dct : Kd.str.is .dct = false := by decide
theorem kis_tup_non : Kd.tup.is .non = false := by decide
theorem kis_tup_bool : Kd.tup.is .bool = false := by decide
theorem kis_tup_int : Kd.tup.is .int = false := by decide
theorem kis_tup_str : Kd.tup.is .str = false := by decide
theorem kis_tup_tup : Kd.tup.is .tup = true := by decide
theorem kis_tup_lst : Kd.tup.is .lst = false := by decide
theorem kis_tup_dct : Kd.tup.is .dct = false := by decide
theorem kis_lst_non : Kd.lst.is .non = false := by decide
theorem kis_lst_bool : Kd.lst.is .bool = false := by decide
theorem kis_lst_int : Kd.lst.is .int = false := by decide
theorem kis_lst_str : Kd.lst.is .str = false := by decide
theorem kis_lst_tup : Kd.lst.is .tup = false := by decide
theorem kis_lst_lst : Kd.lst.is .lst = true := by decide
theorem kis_lst_dct : Kd.lst.is .dct = false := by decide
theorem kis_dct_non : Kd.dct.is .non = false := by decide
theorem kis_dct_bool : Kd.dct.is .bool = false := by decide
theorem kis_dct_int : Kd.dct.is .int = false := by decide
theorem kis_dct_str : Kd.dct.is .str = false := by decide
theorem kis_dct_tup : Kd.dct.is .tup = false := by decide
theorem kis_dct_lst : Kd.dct.is .lst = false := by decide
theorem kis_dct_dct : Kd.dct.is .dct = true := by decide
theorem isi_bl {S : Sto} {ks : List Kd} {b : Bool} : isiT ks S (.bl b) = some (.bl (ks.any fun c => Kd.is .bool c)) := rfl
theorem isi_non {S : Sto} {ks : List Kd} : isiT ks S .non = some (.bl (ks.any fun c => Kd.is .non c)) := rfl
theorem compA_ifo {κ α : Type} {p : α → Prop} [DecidablePred p] {g : α → T} (xs : List α) : compA (κ := κ) (fun a => pu (if p a then some (g a) else none)) xs = pu ((xs.filter fun a => decide (p a)).map g) := by
  rw [← compA_if]
  congr
  funext a
  split <;> rfl
theorem nodup_of_map {α β : Type} {f : α → β} {l : List α} (h : (l.map f).Nodup) : l.Nodup := (List.pairwise_map.mp h).imp fun hne e => hne (by rw [e])
inductive Dt : Nat → T → Prop
  | str (n : Nat) (x : Nm) : Dt n (.str x)
  | int (n : Nat) (i : Int) : Dt n (.int i)
  | bl (n : Nat) (b : Bool) : Dt n (.bl b)
  | tup {n : Nat} {xs : List T} : (∀ x ∈ xs, Dt n x) → xs.length ≤ 100000 → Dt (n + 1) (.tup xs)
  | lst {n : Nat} {xs : List T} : (∀ x ∈ xs, Dt n x) → xs.length ≤ 100000 → Dt (n + 1) (.lst xs)
theorem Dt.up : ∀ {n : Nat} {t : T}, Dt n t → Dt (n + 1) t
  | _, _, .str n x => .str _ x
  | _, _, .int n x => .int _ x
  | _, _, .bl n x => .bl _ x
  | _, _, .tup h l => .tup (fun x hx => Dt.up (h x hx)) l
  | _, _, .lst h l => .lst (fun x hx => Dt.up (h x hx)) l
theorem Dt.le {n m : Nat} {t : T} (h : Dt n t) (k : n ≤ m) : Dt m t := by
  induction k with
  | refl => exact h
  | step _ ih => exact ih.up
end TL
namespace TL
open PySem PySem.Spec PyProof.Rows L2
theorem kyT_str {x : Nm} : kyT (.str x) = some (.inr (txt x)) := rfl
theorem txt_iff {x y : Nm} : (some (.inr (txt x) : Key) = some (.inr (txt y))) ↔ x = y := by
  constructor
  · intro h
    injection h with h
    injection h with h
    exact txt_inj h
  · rintro rfl; rfl
theorem dHs_strs (x : Nm) : ∀ xs : List Nm, dHs (xs.map T.str) (.inr (txt x)) = decide (x ∈ xs)
  | [] => rfl
  | y :: ys => by
    rw [List.map_cons]
    unfold dHs
    rw [dHs_strs x ys, kyT_str]
    by_cases h : y = x
    · subst h; rw [if_pos rfl]; simp
    · rw [if_neg fun z => h (txt_iff.mp z)]
      have h' : x ≠ y := fun z => h z.symm
      simp [h']
theorem dLk_strs {F : Nm → T} {x : Nm} : ∀ {xs : List Nm}, x ∈ xs → dLk (xs.map T.str) (xs.map F) (.inr (txt x)) = some (F x)
  | [], h => by cases h
  | y :: ys, h => by
    rw [List.map_cons, List.map_cons]
    unfold dLk
    rw [kyT_str]
    by_cases e : y = x
    · subst e; rw [if_pos rfl]
    · rw [if_neg fun z => e (txt_iff.mp z)]
      exact dLk_strs ((List.mem_cons.mp h).resolve_left fun z => e z.symm)
theorem dLk_no {x : Nm} : ∀ {xs : List Nm} {vs : List T}, x ∉ xs → dLk (xs.map T.str) vs (.inr (txt x)) = none
  | [], vs, _ => by cases vs <;> rfl
  | y :: ys, [], h => rfl
  | y :: ys, v :: vs, h => by
    rw [List.map_cons]
    unfold dLk
    rw [kyT_str, if_neg fun z => h (by rw [txt_iff.mp z]; exact List.mem_cons_self), dLk_no fun z => h (List.mem_cons_of_mem _ z)]
theorem dgT_strs {F : Nm → T} {x : Nm} {xs : List Nm} (h : x ∈ xs) : dgT emp (.dct false (xs.map T.str) (xs.map F)) (.str x) = some (F x) := by
  show dLk _ _ _ = _
  exact dLk_strs h
theorem dninT_strs {x : Nm} {xs : List Nm} {F : Nm → T} : dninT emp (.str x) (.dct false (xs.map T.str) (xs.map F)) = some (.bl (!decide (x ∈ xs))) := by
  show Option.map (fun b => T.bl (!b)) (some (dLk _ _ _).isSome) = _
  by_cases h : x ∈ xs
  · rw [dLk_strs h, decide_eq_true h]; rfl
  · rw [dLk_no h, decide_eq_false h]; rfl
/-- a new key -/
theorem dput_new {κ : Type} {F : Nm → T} {x : Nm} {xs : List Nm} {z : T} (h : x ∉ xs) (hl : xs.length < sizeLine) (hz : z = F x) : dputM (κ := κ) (xs.map T.str, xs.map F) (.str x) z = pu ((xs ++ [x]).map T.str, (xs ++ [x]).map F) := by
  subst hz
  show bd (gd _) _ = _
  rw [gd_c, gdc_t (by rw [List.length_map]; exact hl), pu_bd]
  unfold dPk dPv
  rw [dHs_strs, decide_eq_false h, if_neg (by simp), if_neg (by simp), List.map_append, List.map_append]
  rfl
def Bk.kins (B : Bk) : List (Nm × List Nm) := B.births ++ B.adopts
theorem BkOk.kin {B : Bk} (h : BkOk B) {b : Nm × List Nm} (hb : b ∈ B.kins) : KinOk B.names B.unions b := (List.mem_append.mp hb).elim (h.bi b) (h.ad b)
theorem BkOk.lk {B : Bk} (h : BkOk B) : B.kins.length ≤ 36 := by
  have := h.lb; have := h.la
  unfold Bk.kins
  rw [List.length_append]; omega
end TL
namespace TL
open PySem PySem.Spec PyProof.Rows L2
section
variable {X : Cx} {e : Expr} {p apos cpos pos : Pos}
def dvalsT (S : Sto) (x : T) : Option T := (dView S x).map fun p => .lst p.2
end
section
variable {X : Cx} {e e2 : Expr} {p p2 pos pos2 : Pos}
def zmT : List T → List T → List T → List T → Option (List T × List T)
  | t :: ts, u :: us, ks, vs => match kyT t with
    | some x => zmT ts us (dPk ks x t) (dPv ks vs x u)
    | none => none
  | _, _, ks, vs => some (ks, vs)
def dzipF (S : Sto) : List T → Option T
  | [x, y] => match res S x, res S y with
    | .lst ts, .lst us => if ts.length = us.length then (zmT ts us [] []).map fun p => .dct false p.1 p.2 else none
    | _, _ => none
  | _ => none
end
section
variable {X : Cx} {o e : Expr} {to te : TTE} {apos cpos : Pos}
end
end TL
namespace TL
open PySem PySem.Spec PyProof.Rows L2
@[simp] theorem dvalsT_dct {ks vs : List T} : dvalsT emp (.dct false ks vs) = some (.lst vs) := rfl
theorem dzipF_l {ts us : List T} : dzipF emp [.lst ts, .lst us] = if ts.length = us.length then (zmT ts us [] []).map fun p => .dct false p.1 p.2 else none := rfl
section
variable {κ : Type} {W : κ → Sto} {p : TEnv} {α β : Type}
end
end TL
namespace TL
open PySem PySem.Spec PyProof.Rows L2
section
variable {κ α β σ : Type}
end
/-- the first book is a part of the other one, marks told or not -/
structure Part (P B : Bk) : Prop where
  nm : P.names.Sublist B.names
  mrk : ∀ p ∈ P.folk, ∃ m, (p.1, m) ∈ B.folk ∧ (p.2 = m ∨ p.2 = q "o")
  un : P.unions.Sublist B.unions
  bi : P.births.Sublist B.births
  ad : P.adopts.Sublist B.adopts
theorem Rise.sub {α : Type} {e : α → T} {xs ys : List α} (h : Rise (ys.map e)) (s : xs.Sublist ys) : Rise (xs.map e) := List.Pairwise.sublist (s.map e) h
theorem KE.rise_nodup {α : Type} {e : α → T} (h : KE e) (hn : ∀ a, e a ≠ .non) {xs : List α} (hr : Rise (xs.map e)) : xs.Nodup := by
  refine (List.pairwise_map.mp hr).imp fun {a b} hl e' => ?_
  subst e'
  have := ltt_asym (h.kx a) (h.kx a) (h.alk a a) (hn a) (hn a) hl
  rw [hl] at this
  cases this
section
variable {B : Bk} {F : Nm → Nm} (h : BkOk B) (inj : ∀ a ∈ B.names, ∀ b ∈ B.names, F a = F b → a = b)
include h inj
end
theorem enumL_map {α : Type} {e : α → T} {xs : List α} : enumL (xs.map e) = xs.zipIdx.map fun p => .tup [.int (p.2 : Nat), e p.1] := by
  unfold enumL
  rw [List.zipIdx_map, List.map_map]
  rfl
/-- pairs of the folk of two books -/
structure PairsOk (A B : Bk) (ps : List (Nm × Nm)) : Prop where
  nd1 : (ps.map (·.1)).Nodup
  nd2 : (ps.map (·.2)).Nodup
  m1 : ∀ p ∈ ps, p.1 ∈ A.names
  m2 : ∀ p ∈ ps, p.2 ∈ B.names
end TL
namespace TL
open PySem PySem.Spec PyProof.Rows L2
/-- a kind of things that can be asked for -/
structure KQ {α : Type} (e : α → T) : Prop where
  inj : ∀ a b, e a = e b → a = b
  kx : ∀ a, kx (e a) = true
  dp : ∀ a, dep (e a) ≤ 8
section
variable {α : Type} {e : α → T}
theorem KQ.okd (h : KQ e) (a : α) : okd (e a) = true := by
  have := h.dp a
  unfold TL.okd
  rw [kx_plain _ (h.kx a), decide_eq_true (by omega)]
  rfl
theorem KQ.eqt (h : KQ e) [DecidableEq α] (a b : α) : eqt (e a) (e b) = decide (a = b) := by
  have z := eqt_kx (e a) (e b) (h.kx a) (h.kx b)
  by_cases q : a = b
  · subst q; rw [decide_eq_true rfl]; exact z.mpr rfl
  · rw [decide_eq_false q]
    cases w : TL.eqt (e a) (e b) with
    | false => rfl
    | true => exact absurd (h.inj _ _ (z.mp w)) q
theorem KQ.any (h : KQ e) [DecidableEq α] (a : α) : ∀ xs : List α, ((xs.map e).any fun z => TL.eqt z (e a)) = decide (a ∈ xs)
  | [] => rfl
  | x :: xs => by
    rw [List.map_cons, List.any_cons, KQ.any h a xs, h.eqt]
    by_cases q : x = a
    · subst q; simp
    · have q' : a ≠ x := fun z => q z.symm
      simp [q, q']
theorem KQ.okds (h : KQ e) (xs : List α) : TL.okd (.lst (xs.map e)) = true ∧ TL.okd (.tup (xs.map e)) = true := okd_map fun x _ => ⟨h.okd x, by have := h.dp x; omega⟩
theorem KQ.inT (h : KQ e) [DecidableEq α] (a : α) (xs : List α) : inT emp (e a) (.tup (xs.map e)) = some (.bl (decide (a ∈ xs))) ∧ inT emp (e a) (.lst (xs.map e)) = some (.bl (decide (a ∈ xs))) := by
  constructor
  · unfold TL.inT inQ
    show Option.map _ (if (TL.okd (e a) && TL.okd (.tup (xs.map e))) = true then _ else none) = _
    rw [h.okd, (h.okds xs).2, Bool.and_self, if_pos rfl, h.any]; rfl
  · unfold TL.inT inQ
    show Option.map _ (if (TL.okd (e a) && TL.okd (.lst (xs.map e))) = true then _ else none) = _
    rw [h.okd, (h.okds xs).1, Bool.and_self, if_pos rfl, h.any]; rfl
theorem KQ.ninT (h : KQ e) [DecidableEq α] (a : α) (xs : List α) : ninT emp (e a) (.tup (xs.map e)) = some (.bl (!decide (a ∈ xs))) ∧ ninT emp (e a) (.lst (xs.map e)) = some (.bl (!decide (a ∈ xs))) := by
  constructor
  · unfold TL.ninT inQ
    show Option.map _ (if (TL.okd (e a) && TL.okd (.tup (xs.map e))) = true then _ else none) = _
    rw [h.okd, (h.okds xs).2, Bool.and_self, if_pos rfl, h.any]; rfl
  · unfold TL.ninT inQ
    show Option.map _ (if (TL.okd (e a) && TL.okd (.lst (xs.map e))) = true then _ else none) = _
    rw [h.okd, (h.okds xs).1, Bool.and_self, if_pos rfl, h.any]; rfl
end
inductive Rw where
  | fk (p : Nm × Nm) : Rw
  | un (f : List Nm) : Rw
  | bo (b : Nm × List Nm) : Rw
  | ad (b : Nm × List Nm) : Rw
  deriving DecidableEq
def Bk.rows (B : Bk) : List Rw := B.folk.map .fk ++ B.unions.map .un ++ B.births.map .bo ++ B.adopts.map .ad
end TL
namespace TL
open PySem PySem.Spec PyProof.Rows L2
section
variable {G : Gd} {S1 : Sto} {H1 : Hp}
theorem rep_key {H : Hp} {S : Sto} {z : T} {k : Key} (h : Rep G H S z (kV k)) : ∀ {G' : Gd} {H' : Hp} {S' : Sto}, Rep G' H' S' z (kV k) := by
  intro G' H' S'
  cases k with
  | inl i => cases h; exact .int _
  | inr x =>
    have e : kV (.inr x) = .str x := rfl
    rw [e] at h ⊢
    cases h
    exact .str _
theorem wks_keys {d : Addr} {o : Obj} {kvs : List (Key × V)} {ks : List T} (hd : H1 d = some (.frz o (.dK kvs))) (hn : S1 d = none) (r : Reps G H1 S1 ks (kvs.map fun p => kV p.1)) : Wks G (Itk d o kvs) ks yes S1 H1 where
  go := fun M' S H i z hm ok x _ hz => by
    have l := r.length
    rw [List.length_map] at l
    obtain ⟨v, hv, rv⟩ := r.get hz
    have hi : i < kvs.length := by
      have := (List.getElem?_eq_some_iff.mp hz).1
      omega
    refine ⟨⟨(x.exact hd hn).1, hi⟩, ?_⟩
    rintro y H' ⟨rfl, k, w, e, rfl⟩
    rw [List.getElem?_map, e] at hv
    cases hv
    exact ⟨ok, Ext.refl, rep_key rv⟩
  stop := fun M' S H ok x _ => by
    have l := r.length
    rw [List.length_map] at l
    exact ⟨(x.exact hd hn).1, by omega⟩
end
section
variable {S0 S S' : Sto} {H0 H H' : Hp} {d : Addr} {o : Obj} {kvs : List (Key × V)}
end
section
variable {X : Cx} {tg : Expr} {body : List Stmt} {g : TTG} {t : TTS} {vs : List Nat} {pos p : Pos} {x : Str} {i : Nat}
end
section
variable {X : Cx} {elt tg : Expr} {ifs : List Expr} {scope : Scope} {g : TTG} {tc : TTB} {te : TTE} {pos p : Pos} {x : Str} {i : Nat} {ow : List (Str × Nat)}
end
def cDisp1M (k v : TTE) : TTE := fun τ S Q E => ∀ p, S p = none → k τ (ups S p (.dct false [] [])) (fun x S1 => v τ S1 (fun y S2 => ∃ kk, kyT x = some kk ∧ S2 p = some (.dct false [] []) ∧ Q (.ref p) (ups S2 p (.dct false [x] [y]))) E) E
section
variable {X : Cx} {k v : Expr} {tk tv : TTE} {pos : Pos}
theorem te_disp1 (hk : TE X k tk) (hv : TE X v tv) : TE X (.Dict [some k] [v] pos) (cDisp1M tk tv) := fun M S0 H0 E tk' =>
  (pe_disp (pps_cons (hk M S0 H0 E tk') (hv M S0 H0 E tk') pps_nil) rfl rfl (by simp) (by simp)).weak fun σ H Q ⟨τ, S, Qt, rel, h, kk⟩ p n => by
    have o1 : StoOk (gdOf X M) (upd H p (.dK [])) (ups S p (.dct false [] [])) := rel.sto.cell (.inl n) ⟨[], upd_same, .nil, .nil⟩
    have x1 : Ext S H (ups S p (.dct false [] [])) (upd H p (.dK [])) := Ext.cell (.inl n)
    refine ⟨τ, _, _, rel.step o1 x1, h p (rel.sto.free n), fun x S1 vx H1 q1 o2 x2 r2 => ?_⟩
    refine ⟨τ, S1, _, (rel.step o1 x1).step o2 x2, q1, fun y S2 vy H2 ⟨k', ek, es, q⟩ o3 x3 r3 => ?_⟩
    obtain ⟨kvs, g1, g2, g3⟩ := o3.at_ p _ es
    have r2' := Rep.ext x3 _ _ r2
    obtain rfl := ky_rep r2' ek
    cases kvs with
    | cons a b => cases g2
    | nil =>
      refine ⟨g1, [(k', vy)], rfl, by simp, ?_⟩
      have x4 : Ext S2 H2 (ups S2 p (.dct false [x] [y])) (upd H2 p (.dK [(k', vy)])) := Ext.cell (.inr ⟨_, es⟩)
      exact kk (.ref p) _ (.ref p) _ q (o3.cell (.inr ⟨_, es⟩) ⟨[(k', vy)], upd_same, .cons (Rep.ext x4 _ _ r2') .nil, .cons (Rep.ext x4 _ _ r3) .nil⟩) (((x1.trans x2).trans x3).trans x4) (.ref p)
end
section
variable {X : Cx} {o e i : Expr} {to te ti : TTE} {apos cpos : Pos}
end
def cDictM (e : TTE) : TTE := fun τ S Q E => e τ S (fun x S1 => ∃ zs r, (res S1 x = .lst zs ∨ res S1 x = .tup zs) ∧ mrgT zs [] [] = some r ∧ ∀ p, S1 p = none → Q (.ref p) (ups S1 p (.dct false r.1 r.2))) E
def cListM (e : TTE) : TTE := fun τ S Q E => e τ S (fun x S1 => ∃ zs, (res S1 x = .lst zs ∨ res S1 x = .tup zs) ∧ ∀ p, S1 p = none → Q (.ref p) (ups S1 p (.lst zs))) E
section
variable {X : Cx} {e : Expr} {te : TTE} {p pos : Pos}
theorem te_dictM (hc : X.calm = true) (he : TE X e te) (hg : Gl X "dict") (hm : X.mg "dict" = none) (hs : starEach [e] X.env = (false, eval e X.env) :: starEach [] X.env := by rfl) (hpl : (backTo pos (starEach [] X.env)).any (·.1) = false := by rfl) :
    TE X (.Call (.Name "dict" p) [e] [] pos) (cDictM te) := fun M S0 H0 E tk =>
  (pe_callTy ((call_dictP hc).or (call_dictT hc)) hg hm (by rfl) (pa_cons (he M S0 H0 E tk) pa_nil hs) (by decide) (by decide) hs hpl).weak fun σ H Q ⟨τ, S, Qt, rel, h, k⟩ => ⟨τ, S, _, rel, h, fun x S1 v H1 ⟨zs, r, hz, hr, hq⟩ o1 x1 r1 => by
    have fin : ∀ kvs : List (Key × V), Reps (gdOf X M) H1 S1 r.1 ((mergeK [] kvs).map fun p => kV p.1) → Reps (gdOf X M) H1 S1 r.2 ((mergeK [] kvs).map (·.2)) → ∀ q, H1 q = none → Q (.ref q) (upd H1 q (.dK (mergeK [] kvs))) := fun kvs e3 e4 q n =>
      have x2 : Ext S1 H1 (ups S1 q (.dct false r.1 r.2)) (upd H1 q (.dK (mergeK [] kvs))) := Ext.cell (.inl n)
      k (.ref q) _ (.ref q) _ (hq q (o1.free n)) (o1.cell (.inl n) ⟨mergeK [] kvs, upd_same, Reps.ext x2 _ _ e3, Reps.ext x2 _ _ e4⟩) (x1.trans x2) (.ref q)
    rcases hz with hz | hz
    · obtain ⟨a, ws, rfl, h1, h2⟩ := res_lst o1 r1 hz
      obtain ⟨as, kvs, rfl, e2, e3, e4⟩ := mrg_rep (acc := []) hr h2 .nil .nil
      exact .inl ⟨a, as, kvs, rfl, SqL.of h1, e2, fin kvs e3 e4⟩
    · obtain rfl := res_id hz fun _ z => nomatch z
      cases r1 with
      | tup h1 h2 =>
        obtain ⟨as, kvs, rfl, e2, e3, e4⟩ := mrg_rep (acc := []) hr h2 .nil .nil
        exact .inr ⟨_, as, kvs, rfl, h1.bare, e2, fin kvs e3 e4⟩⟩
theorem te_listM (he : TE X e te) (hg : Gl X "list") (hm : X.mg "list" = none) (hs : starEach [e] X.env = (false, eval e X.env) :: starEach [] X.env := by rfl) (hpl : (backTo pos (starEach [] X.env)).any (·.1) = false := by rfl) :
    TE X (.Call (.Name "list" p) [e] [] pos) (cListM te) := fun M S0 H0 E tk =>
  (pe_callTy call_list_of hg hm (by rfl) (pa_cons (he M S0 H0 E tk) pa_nil hs) (by decide) (by decide) hs hpl).weak fun σ H Q ⟨τ, S, Qt, rel, h, k⟩ => ⟨τ, S, _, rel, h, fun x S1 v H1 ⟨zs, hz, hq⟩ o1 x1 r1 => by
    have fin : ∀ (ws : List V), Reps (gdOf X M) H1 S1 zs ws → ∀ q, H1 q = none → Q (.ref q) (upd H1 q (.lst ws)) := fun ws h2 q n =>
      have x2 : Ext S1 H1 (ups S1 q (.lst zs)) (upd H1 q (.lst ws)) := Ext.cell (.inl n)
      k (.ref q) _ (.ref q) _ (hq q (o1.free n)) (o1.cell (.inl n) ⟨ws, upd_same, Reps.ext x2 _ _ h2⟩) (x1.trans x2) (.ref q)
    rcases hz with hz | hz
    · obtain ⟨a, ws, rfl, h1, h2⟩ := res_lst o1 r1 hz
      exact ⟨a, ws, rfl, .inl (SqL.of h1), fin ws h2⟩
    · obtain rfl := res_id hz fun _ z => nomatch z
      cases r1 with
      | tup h1 h2 => exact ⟨_, _, rfl, .inr h1.sq, fin _ h2⟩⟩
end
end TL
namespace TL
open PySem PySem.Spec PyProof.Rows L2
section
variable {κ : Type} {W : κ → Sto} {p : TEnv} {l : Cs}
def keysM (v : T) : PM κ (List T) := match v with
  | .dct false ks _ => pu ks
  | _ => stuck
@[simp] theorem keysM_dct {ks vs : List T} : keysM (κ := κ) (.dct false ks vs) = pu ks := rfl
/-- dict(xs), a new cell -/
def mrgM (v : T) : PM κ (List T × List T) := match v with
  | .lst zs => ofO (mrgT zs [] [])
  | .tup zs => ofO (mrgT zs [] [])
  | _ => stuck
variable {e : TTE} {m : PM κ T}
theorem xn_dictM (ha : XV W p l e m) : XN W p l (cDictM e) (bd m mrgM) (fun _ a => .ref a) (fun r a => [(a, .dct false r.1 r.2)]) := fun Q E k τ S hE i s => by
  refine ha _ _ k τ S hE i ((Sat.bd.mp s).mono (fun v k1 s1 z S1 i1 w1 => ?_) fun _ _ q => q)
  cases v with
  | lst zs =>
    obtain ⟨r, e1, s2⟩ := sat_ofO s1
    have hz : res S1 z = .lst zs := by
      rcases (w1.at i1).res with ⟨e1, _⟩ | ⟨b, e1⟩ | ⟨n, ks, vs, e1⟩
      · exact e1
      · cases e1
      · cases e1
    exact ⟨zs, r, .inl hz, e1, fun a n => s2 _ a (i1.new n)⟩
  | tup zs =>
    obtain ⟨r, e1, s2⟩ := sat_ofO s1
    have hz : res S1 z = .tup zs := by
      rcases (w1.at i1).res with ⟨e1, _⟩ | ⟨b, e1⟩ | ⟨n, ks, vs, e1⟩
      · exact e1
      · cases e1
      · cases e1
    exact ⟨zs, r, .inr hz, e1, fun a n => s2 _ a (i1.new n)⟩
  | _ => exact s1.elim
theorem xn_disp1 {ek ev : TTE} {mk mv : PM κ T} (hk : ∀ a, XE W p ((a, .dct false [] []) :: l) ek mk) (hv : ∀ a, XE W p ((a, .dct false [] []) :: l) ev mv) : XN W p l (cDisp1M ek ev) (bd mk fun x => bd mv fun y => bd (gd ((kyT x).isSome = true)) fun _ => pu (([x], [y]) : List T × List T)) (fun _ a => .ref a) (fun r a => [(a, .dct false r.1 r.2)]) := fun Q E k τ S hE i s a n => by
  refine hk a _ _ k τ _ hE (i.new n) ((Sat.bd.mp s).mono (fun x k1 s1 S1 i1 => ?_) fun _ _ q S' i' => q S' i')
  refine hv a _ _ k1 τ S1 hE i1 ((Sat.bd.mp s1).mono (fun y k2 s2 S2 i2 => ?_) fun _ _ q S' i' => q S' i')
  obtain ⟨hky, s3⟩ := sat_gd (Sat.bd.mp s2)
  obtain ⟨kk, ek⟩ := Option.isSome_iff_exists.mp hky
  exact ⟨kk, ek, i2.at_ (a, .dct false [] []) (by simp), s3 _ a (SI.put (l1 := []) i2)⟩
end
end TL
namespace TL
open PySem PySem.Spec PyProof.Rows L2
/-- a walk of so many steps -/
def Walk (ab : Nm → List Nm) : Nat → Nm → Nm → Prop
  | 0, a, b => a = b
  | k + 1, a, b => ∃ c, c ∈ ab a ∧ Walk ab k c b
structure Bfs (ab : Nm → List Nm) (b : Nm) (row : List Nm) (par : Nm → Option Nm) (D : Nm → Nat) (i : Nat) : Prop where
  nd : row.Nodup
  hd : row[0]? = some b
  db : D b = 0
  pb : par b = none
  pr : ∀ x ∈ row, x ≠ b → ∃ p, par x = some p ∧ p ∈ row ∧ x ∈ ab p ∧ D x = D p + 1
  mono : ∀ (j k : Nat) (x y : Nm), j ≤ k → row[j]? = some x → row[k]? = some y → D x ≤ D y
  near : ∀ x y : Nm, row[i]? = some x → y ∈ row → D y ≤ D x + 1
  done : ∀ (j : Nat) (x : Nm), j < i → row[j]? = some x → b ∉ ab x ∧ ∀ y ∈ ab x, y ∈ row ∧ D y ≤ D x + 1
section
variable {ab : Nm → List Nm} {b here y : Nm} {row : List Nm} {par : Nm → Option Nm} {D : Nm → Nat} {i : Nat}
theorem Bfs.start (b : Nm) : Bfs ab b [b] (fun _ => none) (fun _ => 0) 0 where
  nd := by simp
  hd := rfl
  db := rfl
  pb := rfl
  pr := fun x hx hn => absurd (List.mem_singleton.mp hx) hn
  mono := fun _ _ _ _ _ _ _ => Nat.le_refl _
  near := fun _ _ _ _ => Nat.zero_le _
  done := fun j _ h _ => absurd h (Nat.not_lt_zero _)
theorem Bfs.bm (h : Bfs ab b row par D i) : b ∈ row := List.mem_of_getElem? h.hd
theorem get_app {α : Type} {xs : List α} {y x : α} {j : Nat} (h : (xs ++ [y])[j]? = some x) : xs[j]? = some x ∧ j < xs.length ∨ j = xs.length ∧ x = y := by
  rcases Nat.lt_trichotomy j xs.length with q | q | q
  · rw [List.getElem?_append_left q] at h
    exact .inl ⟨h, q⟩
  · subst q
    rw [List.getElem?_append_right (Nat.le_refl _), Nat.sub_self] at h
    exact .inr ⟨rfl, (Option.some.inj h).symm⟩
  · rw [List.getElem?_eq_none (by rw [List.length_append]; simp; omega)] at h
    cases h
theorem Bfs.add (h : Bfs ab b row par D i) (hi : row[i]? = some here) (hy : y ∉ row) (ha : y ∈ ab here) : Bfs ab b (row ++ [y]) (fun x => if x = y then some here else par x) (fun x => if x = y then D here + 1 else D x) i := by
  have old : ∀ {x}, x ∈ row → x ≠ y := fun hx e => hy (e ▸ hx)
  have hm := List.mem_of_getElem? hi
  have il : i < row.length := (List.getElem?_eq_some_iff.mp hi).1
  refine ⟨?_, ?_, ?_, ?_, fun x hx hn => ?_, fun j k x z hjk hx hz => ?_, fun x z hx hz => ?_, fun j x hj hx => ?_⟩
  · exact List.nodup_append.mpr ⟨h.nd, by simp, fun a ha c hc => by rw [List.mem_singleton.mp hc]; exact old ha⟩
  · rw [List.getElem?_append_left (by omega)]; exact h.hd
  · rw [if_neg (old h.bm)]; exact h.db
  · rw [if_neg (old h.bm)]; exact h.pb
  · rcases List.mem_append.mp hx with q | q
    · obtain ⟨p, e1, e2, e3, e4⟩ := h.pr x q hn
      refine ⟨p, ?_, List.mem_append_left _ e2, e3, ?_⟩
      · rw [if_neg (old q)]; exact e1
      · rw [if_neg (old q), if_neg (old e2)]; exact e4
    · have q := List.mem_singleton.mp q
      subst q
      refine ⟨here, ?_, List.mem_append_left _ hm, ha, ?_⟩
      · rw [if_pos rfl]
      · rw [if_pos rfl, if_neg (old hm)]
  · skip
    rcases get_app hx with ⟨q, _⟩ | ⟨q, rfl⟩
    · have mx := List.mem_of_getElem? q
      rw [if_neg (old mx)]
      rcases get_app hz with ⟨w, _⟩ | ⟨_, rfl⟩
      · rw [if_neg (old (List.mem_of_getElem? w))]
        exact h.mono j k x z hjk q w
      · rw [if_pos rfl]
        exact h.near here x hi mx
    · rcases get_app hz with ⟨_, w⟩ | ⟨_, rfl⟩
      · omega
      · exact Nat.le_refl _
  · skip
    rcases get_app hx with ⟨q, _⟩ | ⟨q, _⟩
    · rw [hi] at q
      cases q
      rw [if_neg (old hm)]
      rcases List.mem_append.mp hz with w | w
      · rw [if_neg (old w)]; exact h.near here z hi w
      · rw [if_pos (List.mem_singleton.mp w)]; exact Nat.le_refl _
    · omega
  · skip
    rcases get_app hx with ⟨q, _⟩ | ⟨q, _⟩
    · obtain ⟨d1, d2⟩ := h.done j x hj q
      refine ⟨d1, fun z hz => ?_⟩
      obtain ⟨m1, m2⟩ := d2 z hz
      rw [if_neg (old m1), if_neg (old (List.mem_of_getElem? q))]
      exact ⟨List.mem_append_left _ m1, m2⟩
    · omega
theorem Bfs.next (h : Bfs ab b row par D i) (hi : row[i]? = some here) (hb : b ∉ ab here) (ha : ∀ y ∈ ab here, y ∈ row) : Bfs ab b row par D (i + 1) :=
  ⟨h.nd, h.hd, h.db, h.pb, h.pr, h.mono, fun x z hx hz => Nat.le_trans (h.near here z hi hz) (by have := h.mono i (i + 1) here x (by omega) hi hx; omega), fun j x hj hx => by
    by_cases e : j = i
    · subst e
      rw [hi] at hx
      cases hx
      exact ⟨hb, fun z hz => ⟨ha z hz, h.near here z hi (ha z hz)⟩⟩
    · exact h.done j x (by omega) hx⟩
theorem Bfs.none (h : Bfs ab b row par D row.length) : ∀ (k : Nat) (x : Nm), x ∈ row → ¬ Walk ab (k + 1) x b
  | 0, x, hx, ⟨c, hc, e⟩ => by
    obtain ⟨j, hj⟩ := List.getElem?_of_mem hx
    have e : c = b := e
    subst e
    exact (h.done j x (List.getElem?_eq_some_iff.mp hj).1 hj).1 hc
  | k + 1, x, hx, ⟨c, hc, w⟩ => by
    obtain ⟨j, hj⟩ := List.getElem?_of_mem hx
    exact h.none k c ((h.done j x (List.getElem?_eq_some_iff.mp hj).1 hj).2 c hc).1 w
theorem Bfs.least (h : Bfs ab b row par D i) (hi : row[i]? = some here) : ∀ (k : Nat) (x : Nm), x ∈ row → Walk ab (k + 1) x b → D here ≤ D x + k := by
  intro k
  induction k with
  | zero =>
    rintro x hx ⟨c, hc, e⟩
    obtain ⟨j, hj⟩ := List.getElem?_of_mem hx
    by_cases q : j < i
    · have e : c = b := e
      subst e
      exact absurd hc (h.done j x q hj).1
    · exact h.mono i j here x (by omega) hi hj
  | succ k ih =>
    rintro x hx ⟨c, hc, w⟩
    obtain ⟨j, hj⟩ := List.getElem?_of_mem hx
    by_cases q : j < i
    · obtain ⟨m1, m2⟩ := (h.done j x q hj).2 c hc
      have := ih c m1 w
      omega
    · have := h.mono i j here x (by omega) hi hj
      omega
end
/-- each one leads to the next one -/
def Chn (ab : Nm → List Nm) : List Nm → Prop
  | a :: c :: r => c ∈ ab a ∧ Chn ab (c :: r)
  | _ => True
section
variable {κ σ : Type} {c : σ → PM κ Bool} {b : σ → PM κ σ}
end
theorem mrg_strs {F : Nm → T} : ∀ {xs ds : List Nm}, (ds ++ xs).Nodup → mrgT (xs.map fun n => .tup [.str n, F n]) (ds.map T.str) (ds.map F) = some ((ds ++ xs).map T.str, (ds ++ xs).map F)
  | [], ds, _ => by rw [List.append_nil]; rfl
  | x :: xs, ds, h => by
    have hx : x ∉ ds := fun k => (List.nodup_append.mp h).2.2 x k x List.mem_cons_self rfl
    rw [List.map_cons]
    show mrgT (xs.map fun n => .tup [.str n, F n]) (dPk (ds.map T.str) (.inr (txt x)) (.str x)) (dPv (ds.map T.str) (ds.map F) (.inr (txt x)) (F x)) = _
    have e1 : dPk (ds.map T.str) (.inr (txt x)) (.str x) = (ds ++ [x]).map T.str := by
      unfold dPk
      rw [dHs_strs, decide_eq_false hx, if_neg (by simp), List.map_append]; rfl
    have e2 : dPv (ds.map T.str) (ds.map F) (.inr (txt x)) (F x) = (ds ++ [x]).map F := by
      unfold dPv
      rw [dHs_strs, decide_eq_false hx, if_neg (by simp), List.map_append]; rfl
    rw [e1, e2, mrg_strs (by rw [List.append_assoc]; exact h), List.append_assoc]
    rfl
theorem dict_strs {F : Nm → T} {xs : List Nm} (h : xs.Nodup) : dictF emp [.lst (xs.map fun n => .tup [.str n, F n])] = some (.dct false (xs.map T.str) (xs.map F)) := by
  have := mrg_strs (F := F) (xs := xs) (ds := []) (by simpa using h)
  rw [List.nil_append] at this
  show Option.map _ (mrgT _ [] []) = _
  rw [show mrgT (xs.map fun n => .tup [.str n, F n]) [] [] = _ from this]
  rfl
theorem mrgM_strs {κ : Type} {F : Nm → T} {xs : List Nm} (h : xs.Nodup) : mrgM (κ := κ) (.lst (xs.map fun n => .tup [.str n, F n])) = pu (xs.map T.str, xs.map F) := by
  have := mrg_strs (F := F) (xs := xs) (ds := []) (by simpa using h)
  rw [List.nil_append] at this
  show ofO (mrgT _ [] []) = _
  rw [show mrgT (xs.map fun n => .tup [.str n, F n]) [] [] = _ from this]
  rfl
theorem Bfs.deep {ab : Nm → List Nm} {b0 : Nm} {row : List Nm} {par : Nm → Option Nm} {D : Nm → Nat} {i : Nat} (h : Bfs ab b0 row par D i) : ∀ (n : Nat) (x : Nm), x ∈ row → D x = n → ∃ l : List Nm, l.Nodup ∧ (∀ y ∈ l, y ∈ row ∧ D y ≤ n) ∧ l.length = n + 1
  | 0, x, hx, hd => ⟨[x], by simp, fun y hy => by rw [List.mem_singleton.mp hy]; exact ⟨hx, by omega⟩, rfl⟩
  | n + 1, x, hx, hd => by
    have hn : x ≠ b0 := fun e => by rw [e, h.db] at hd; omega
    obtain ⟨p, _, e2, _, e4⟩ := h.pr x hx hn
    obtain ⟨l, l1, l2, l3⟩ := h.deep n p e2 (by omega)
    refine ⟨x :: l, List.nodup_cons.mpr ⟨fun z => by have := (l2 x z).2; omega, l1⟩, fun y hy => ?_, by rw [List.length_cons, l3]⟩
    rcases List.mem_cons.mp hy with rfl | hy
    · exact ⟨hx, by omega⟩
    · exact ⟨(l2 y hy).1, by have := (l2 y hy).2; omega⟩
section
variable {κ σ α : Type}
theorem forA_inv {f : α → σ → PM κ σ} (I : List α → σ → Prop) : ∀ (xs : List α) (s : σ), I xs s → (∀ x xs s, I (x :: xs) s → ∃ s', f x s = pu s' ∧ I xs s') → ∃ s', forA f xs s = pu s' ∧ I [] s'
  | [], s, h, _ => ⟨s, rfl, h⟩
  | x :: xs, s, h, k => by
    obtain ⟨s1, e1, h1⟩ := k x xs s h
    obtain ⟨s2, e2, h2⟩ := forA_inv I xs s1 h1 k
    exact ⟨s2, by show bd (f x s) (forA f xs) = _; rw [e1, pu_bd, e2], h2⟩
variable {c : σ → PM κ Bool} {b : σ → PM κ (Fl σ)} {k : Nat} {s s' : σ}
end
/-- a ring of forebears from somebody, of least length -/
structure RingAt (ab : Nm → List Nm) (V : List Nm) (b0 : Nm) (p : List Nm) : Prop where
  chn : Chn ab (b0 :: p)
  mem : ∀ x ∈ p, x ∈ V
  back : ∃ l, (b0 :: p)[p.length]? = some l ∧ b0 ∈ ab l
  least : ∀ k, Walk ab (k + 1) b0 b0 → p.length ≤ k
  len : p.length < V.length
theorem Walk.snoc {ab : Nm → List Nm} : ∀ {k : Nat} {a b c : Nm}, Walk ab k a b → c ∈ ab b → Walk ab (k + 1) a c
  | 0, a, b, c, h, hc => ⟨c, by have h : a = b := h; rw [h]; exact hc, rfl⟩
  | k + 1, a, b, c, ⟨d, hd, w⟩, hc => ⟨d, hd, w.snoc hc⟩
theorem Chn.walk {ab : Nm → List Nm} : ∀ {p : List Nm} {a l : Nm}, Chn ab (a :: p) → (a :: p)[p.length]? = some l → Walk ab p.length a l
  | [], a, l, _, h => by
    have h : some a = some l := h
    cases h
    rfl
  | c :: p, a, l, ⟨h1, h2⟩, h => ⟨c, h1, Chn.walk h2 (by simpa using h)⟩
theorem RingAt.walk {ab : Nm → List Nm} {V p : List Nm} {b0 : Nm} (h : RingAt ab V b0 p) : Walk ab (p.length + 1) b0 b0 := by
  obtain ⟨l, h1, h2⟩ := h.back
  exact (h.chn.walk h1).snoc h2
theorem dRp_strs {F : Nm → T} {x : Nm} {z : T} : ∀ {xs : List Nm}, dRp (xs.map T.str) (xs.map F) (.inr (txt x)) z = xs.map fun n => if n = x then z else F n
  | [] => rfl
  | y :: xs => by
    rw [List.map_cons, List.map_cons, List.map_cons]
    unfold dRp
    rw [kyT_str, dRp_strs]
    by_cases h : y = x
    · rw [if_pos (by rw [h]), if_pos h]
    · rw [if_neg (fun e => h (txt_iff.mp e)), if_neg h]
end TL
namespace TL
open PySem PySem.Spec PyProof.Rows L2
end TL
namespace TL
open PySem PySem.Spec PyProof.Rows L2
end TL
namespace TL
open PySem PySem.Spec PyProof.Rows L2
theorem oexB_ok {K : PySem.W.Frag} {C : Addr} (h : oexB K C = true) : ∃ nm q N bs bm sn sub ab col dd k0 k1 k2 k3 k5, K.lookup C = some (excClassObj nm q C N bs bm true sn sub ab col dd k0 k1 k2 k3 k5 "ValueError.__new__") ∧ PySem.HandSPX.refsVE bm = true := by
  unfold oexB at h
  split at h
  · rename_i dd cd sl ho
    split at h
    · rename_i C' bm k0 k1 k2 k3 n k5 hm hs
      simp only [Bool.and_eq_true, beq_iff_eq, Bool.not_eq_true'] at h
      obtain ⟨rfl, rfl, hd, hdel, hb⟩ := h
      obtain ⟨nm, bs, mro, ns, qn, hd', sn, sub, ab, col, del⟩ := cd
      dsimp only at hm hdel hd
      subst hm hdel hd
      have hsl : sl = #[k0, k1, k2, k3, some (.builtin "ValueError.__new__"), k5] := by
        obtain ⟨l⟩ := sl
        simp only at hs
        rw [hs]
      subst hsl
      exact ⟨nm, qn, ns, bs, bm, sn, sub, ab, col, dd, k0, k1, k2, k3, k5, ho, hb⟩
    · cases h
  · cases h
/-- an exception class of the program -/
structure XC (K : PySem.W.Frag) (C : Addr) : Prop where
  oex : OexC K C
  ga : PySem.W.findIn K (.ref C) "__getattribute__" = some (some (.builtin "BaseException.__getattribute__"))
  gg : PySem.W.findIn K (.ref C) "__getattr__" = some none
  hd : PySem.W.hasDictIn K C = true
  ca : PySem.W.findIn K (.ref C) "__class__" = some (some (.builtin "object.__class__"))
  mo : PySem.W.mroIn K C (.type "object") = some true
  cn : PySem.W.specialIn K (.builtin "object.__class__") "__get__" = some (some (.builtin "getset_descriptor.__get__"))
  ct : PySem.W.takesIn K (.builtin "object.__class__") = some true
theorem xcB_ok {K : PySem.W.Frag} {C : Addr} (h : xcB K C = true) : XC K C := by
  unfold xcB at h
  simp only [Bool.and_eq_true, decide_eq_true_eq] at h
  obtain ⟨h1, h2, h3, h4, h5, h6, h7, h8, h9, h10, h11, h12⟩ := h
  exact ⟨⟨oexB_ok h1, He.eqO_ok h2, h3, h4, h5⟩, He.eqO_ok h6, He.eqO_ok h7, h8, He.eqO_ok h9, h10, He.eqO_ok h11, h12⟩
/-- the base class over ValueError, without an __init__ of its own -/
structure KeB (K : PySem.W.Frag) (B : Addr) : Prop where
  rd : PySem.W.readsIn K B (.type "type") = true
  ga : PySem.W.specialIn K (.ref B) "__getattribute__" = some (some (.builtin "type.__getattribute__"))
  at_ : PySem.W.findCls K (.ref B) (.type "type") "__init__" = some (.val (.builtin "ValueError.__init__"))
theorem keB_ok {K : PySem.W.Frag} {B : Addr} (h : keB K B = true) : KeB K B := by
  unfold keB at h
  simp only [Bool.and_eq_true] at h
  obtain ⟨h1, h2, h3⟩ := h
  refine ⟨h1, He.eqO_ok h2, ?_⟩
  split at h3
  · rename_i v e
    rw [e, of_decide_eq_true h3]
  · cases h3
/-- C's __init__ at f; its fields aren't found in the class -/
structure XIn (K : PySem.W.Frag) (C f : Addr) (fs : List Str) : Prop where
  iC : PySem.W.findIn K (.ref C) "__init__" = some (some (.ref f))
  tI : PySem.W.typeIn K (.ref f) = some (.type "function")
  no : ∀ x ∈ fs, PySem.W.findIn K (.ref C) x = some none
theorem xinB_ok {K : PySem.W.Frag} {C f : Addr} {fs : List Str} (h : xinB K C f fs = true) : XIn K C f fs := by
  unfold xinB at h
  simp only [Bool.and_eq_true, decide_eq_true_eq] at h
  obtain ⟨h1, h2, h3⟩ := h
  exact ⟨He.eqO_ok h1, h2, fun x hx => He.eqO_ok (List.all_eq_true.mp h3 x hx)⟩

section
variable {X : Cx} {o e : Expr} {es : List Expr} {ta : L2.TA} {p1 p2 pos : Pos} {x : Str} {B : Addr}
theorem pe_keinit {pl : Sem Bool} (k : KeB X.K B) (hg : Gl X x) (hm : X.mg x = some (.ref B)) (ha : PA X (e :: es) ta) (hdb : (x == ("__debug__" : Str)) = false := by decide)
    (hc : eval (.Call (.Attribute (.Name x p1) "__init__" p2) (e :: es) [] pos) X.env = (do
      let ov ← eval (.Name x p1) X.env
      standAt p2.atName
      let (f, first) ← holding [ov] (getMethod ov "__init__" pl)
      callWith pos f first (backTo pos (starEach (e :: es) X.env)) (backToKw pos (keywordEach [] X.env))) := by rfl)
    (he : starEach (e :: es) X.env = (false, eval e X.env) :: starEach es X.env := by rfl) (hpl : (backTo pos (starEach es X.env)).any (·.1) = false := by rfl) :
    PE X (.Call (.Attribute (.Name x p1) "__init__" p2) (e :: es) [] pos) (tVeI X.K ta) := by
  refine ⟨fun pins s σ H Q I h => ?_⟩
  refine PySem.W.methodCall_KW (ld_glob I hg hm ?_ hdb) hc
  refine PySem.W.method_cls I.kIn k.ga (PySem.W.cls_value I.kIn k.rd k.at_ (by decide +kernel) ?_)
  show wpAny _ _ (callWith pos (Value.builtin "ValueError.__init__") [] (backTo pos (starEach (e :: es) X.env)) []) _ _ _
  refine PyProof.Rows.callWith_method1 (thn (ha.run pos pins _ σ H _ (I.tok _) h) fun us s1 ⟨vs, H1, I1, r1, a, C, ws, ev, hl, T, ea, q⟩ => ?_) he hpl
  subst ev
  cases r1 with
  | @cons _ u0 _ ur ra rw' =>
    obtain rfl : u0 = Value.ref a := ra
    have hlen : ur.length ≤ sizeLine := by
      rw [← Paired.length rw', sizeLine_eq]
      omega
    exact oinit_ok T I1 ea hlen fun s' J => ⟨.non, H1, J, rfl, q⟩
end
/-- what an __init__ of the class at C promises: its fields, the last one first -/
def spI (K : PySem.W.Frag) (C : Addr) (fs : List Str) : Sp := fun vs H Q _ => ∃ a ws, vs = .ref a :: ws ∧ ws.length = fs.length ∧ H a = some (exo a C none) ∧
  ((fs = [] ∧ Q .non H) ∨ (fs ≠ [] ∧ ∀ d H2, H d = none → d ≠ a → (∀ b, b ≠ a → b ≠ d → H2 b = H b) → H2 a = some (exo a C (some d)) → H2 d = some (exd d (fs.reverse.zip ws.reverse)) → Q .non H2))
section
variable {P : Program} {w : World} {K : PySem.W.Frag} {mg : Str → Option Value} {base : Heap} {x qual : Str} {params : Arguments} {body : List Stmt} {scope : Scope} {f C : Addr} {fd : FuncData} {m f1 f2 a1 a2 : Str}
theorem spI_len {fs : List Str} : ∀ vs H Q E, spI K C fs vs H Q E → vs.length = fs.length + 1 := fun vs H Q E ⟨a, ws, e, l, _⟩ => by rw [e, List.length_cons, l]
theorem init0 (F : FunD K x qual params body scope [] [] f fd) (Sc : FnScope ["self"] ["self"] scope) (T : OexC K C)
    (hb : ∀ (cdv : Value) (A : Around) (outer : List Env) (s : Shared) (H : Hp) (E : XK), PSs (cxOf (L2N.CX P w) P w K mg base ["self"] qual scope f cdv A outer s H E) body (tSeq (tDrop (tVeI K (tCons (tVar 0) (tCons (tC (.str m)) tNil)))) tNext)) :
    FnOk P w K mg base (L2N.CX P w) 1 f fd ["self"] (spI K C []) := by
  refine F.ok Sc spI_len fun cdv A outer s H vs Q E hr h => ⟨_, hb cdv A outer s H E, ?_⟩
  obtain ⟨a, ws, rfl, hl, ea, hq⟩ := h
  obtain rfl : ws = [] := List.length_eq_zero_iff.mp hl
  rcases hq with ⟨_, q⟩ | ⟨n, _⟩
  · exact ⟨.ref a, rfl, a, C, [.str m], rfl, by simp, T, ea, q⟩
  · exact absurd rfl n
theorem init1 (F : FunD K x qual params body scope [] [] f fd) (Sc : FnScope ["self", a1] ["self", a1] scope) (T : OexC K C) (n1 : PySem.W.findIn K (.ref C) f1 = some none)
    (hb : ∀ (cdv : Value) (A : Around) (outer : List Env) (s : Shared) (H : Hp) (E : XK), PSs (cxOf (L2N.CX P w) P w K mg base ["self", a1] qual scope f cdv A outer s H E) body (tSeq (tDrop (tVeI K (tCons (tVar 0) (tCons (tC (.str m)) tNil)))) (tSeq (tOst K f1 (tVar 0) (tVar 1)) tNext))) :
    FnOk P w K mg base (L2N.CX P w) 1 f fd ["self", a1] (spI K C [f1]) := by
  refine F.ok Sc spI_len fun cdv A outer s H vs Q E hr h => ⟨_, hb cdv A outer s H E, ?_⟩
  obtain ⟨a, ws, rfl, hl, ea, hq⟩ := h
  obtain ⟨v, rfl⟩ : ∃ v, ws = [v] := by
    match ws, hl with
    | [v], _ => exact ⟨v, rfl⟩
  rcases hq with ⟨n, _⟩ | ⟨_, q⟩
  · cases n
  · refine ⟨.ref a, rfl, a, C, [.str m], rfl, by simp, T, ea, ?_⟩
    refine ⟨v, rfl, .ref a, rfl, a, C, rfl, T, n1, .inl ⟨ea, fun d hd ne => ?_⟩⟩
    exact q d _ hd ne (fun b h1 h2 => by rw [upd_ne h1, upd_ne h2]) upd_same (by rw [upd_ne ne, upd_same]; rfl)
end
theorem mk_endN {X : Cx} {pins : List (Addr × Obj)} {σ : L2.St} {H1 H2 : Hp} {hp hp2 h2 : Heap} {g1 g2 : Array GenState} {d1 d2 : Drawn} {t1 t2 : Nat} {os1 os2 : OsState} {a C : Addr} (I1 : Inv X pins σ H1 ⟨hp, g1, d1, t1, os1⟩)
    (ha : hp.objs.size ≤ a) (k : ∀ b o, hp.get? b = some o → hp2.get? b = some o) (un : Un (frs X.stack) [] (upd H1 a (exo a C none)) H2 hp2 h2) (hok : HOk X.prog X.w H2 h2) (ho : os2 = os1) (hb : AllBare g2) (ea : H2 a = some (exo a C none)) :
    ∃ (t0 : Addr) (G : Heap), Inv X pins σ (L2.del H2 a) ⟨G, g2, d2, t2, os2⟩ ∧ (∀ b o, G.get? b = some o → h2.get? b = some o) ∧ G.get? a = none ∧
      h2.get? a = some ({ cls := .ref C, dict := none, data := .fields #[.ref t0, .none, .none, .none, .bool false, .none] } : Obj) ∧ (L2.del H2 a) a = none := by
  obtain ⟨t0, hoe⟩ := exo_at hok ea
  have hn : H1 a = none := I1.hok.fresh ha
  obtain ⟨G, g1', g2'⟩ := restrict h2 fun b => decide (b ≠ a)
  have gk : ∀ b, b ≠ a → G.get? b = h2.get? b := fun b hb => g1' b (decide_eq_true hb)
  have ge : G.get? a = none := g2' a (by simp)
  have nha : ∀ {b : Addr} {o : Obj}, hp.get? b = some o → b ≠ a := fun {b o} z => Nat.ne_of_lt (Nat.lt_of_lt_of_le (Heap.lt_size z) ha)
  have up : ∀ {b : Addr}, b ≠ a → H1 b = none → upd H1 a (exo a C none) b = none := fun {b} hb n => by rw [upd_ne hb]; exact n
  have U : Un (frs X.stack) [] H1 (L2.del H2 a) hp G := {
    keep := fun b o z n hf hx => by
      rw [gk b (nha z)]
      exact un.keep b o (k b o z) (up (nha z) n) hf hx
    slot := fun b o z n hf hx => by
      rw [gk b (nha z)]
      exact un.slot b o (k b o z) (up (nha z) n) hf hx
    free := fun b o z n hx => by
      rw [del_ne (nha z)]
      exact un.free b o (k b o z) (up (nha z) n) hx
    there := fun b o z hx => by
      rw [gk b (nha z)]
      exact un.there b o (k b o z) hx
    tups := fun b xs z => by
      rw [del_ne (ne_of_none z hn)]
      exact un.tups b xs (by rw [upd_ne (ne_of_none z hn)]; exact z)
    frzs := fun b o v z => by
      rw [del_ne (ne_of_none z hn)]
      exact un.frzs b o v (by rw [upd_ne (ne_of_none z hn)]; exact z)
    tbls := fun b ps z => by
      rw [del_ne (ne_of_none z hn)]
      exact un.tbls b ps (by rw [upd_ne (ne_of_none z hn)]; exact z) }
  have hok3 : HOk X.prog X.w (L2.del H2 a) G := fun b o z => by
    have hba : b ≠ a := fun e => by
      rw [e, del_same] at z
      cases z
    rw [del_ne hba] at z
    have noa : ∀ {c : Addr}, H2 c = some (.own b) → c ≠ a := fun {c} hc => at_ne ea hc exo_own
    exact (hok b o z).stay (fun c v hc y => by
        have hca : c ≠ a := by
          rcases hc with hc | hc
          · rw [hc]
            exact hba
          · exact noa hc
        rw [gk c hca]
        exact y)
      (fun c hc => by rw [del_ne (noa hc)]; exact hc) (fun c xs hc => by rw [del_ne (at_ne ea hc exo_tup)]; exact hc)
  have J : Inv X pins σ (L2.del H2 a) ⟨G, g2, d2, t2, os2⟩ := I1.call' (ch := []) ho U hok3 hb (fun b z => absurd z (by simp))
  refine ⟨t0, G, J, fun b o z => ?_, ge, hoe, del_same⟩
  by_cases hba : b = a
  · rw [hba, ge] at z
    cases z
  · exact (gk b hba).symm.trans z
/-- C(..): its fields, the last one first -/
def tMkX (C : Addr) (fs : List Str) (ta : L2.TA) : L2.St → Hp → XK → Prop := fun σ H Q => ta σ H fun vs H1 => vs.length = fs.length ∧ fs.length ≤ 900 ∧
  ((fs = [] ∧ Q (.ref C) none H1) ∨ (fs ≠ [] ∧ ∀ d, H1 d = none → Q (.ref C) (some d) (upd H1 d (.xd (fs.reverse.zip vs.reverse)))))
section
variable {X : Cx} {CX : CXT} {x : Str} {C fI : Addr} {k : Nat} {fd : FuncData} {ps : List Str} {fs : List Str} {e : Expr} {es : List Expr} {ta : L2.TA} {p pos : Pos}
theorem run_mkX {pins : List (Addr × Obj)} {σ : L2.St} {H1 : Hp} {Q : XK} {s1 : Shared} {us : List Value} {vs : List V} (T : XC X.K C) (N : XIn X.K C fI fs)
    (F1 : FnOk X.prog X.w X.K X.mg X.base CX k fI fd ps (spI X.K C fs)) (hr : Room (k + 1) X.A) (hb : Binds X.K fd ps []) (hx : Passes CX X (fun _ _ _ => False)) (I1 : Inv X pins σ H1 s1) (r1 : Vals vs us)
    (hq : vs.length = fs.length ∧ fs.length ≤ 900 ∧ ((fs = [] ∧ Q (.ref C) none H1) ∨ (fs ≠ [] ∧ ∀ d, H1 d = none → Q (.ref C) (some d) (upd H1 d (.xd (fs.reverse.zip vs.reverse)))))) :
    wpAny (model X.prog X.w) X.A (call (.ref C) us) (L2N.MkP X pins σ Q) X.xe s1 := by
  obtain ⟨nm, q, N', bs, bm, sn, sub, ab, col, dd, k0, k1, k2, k3, k5, hC, hbm⟩ := T.oex.cls
  obtain ⟨hp, g, dr, tk, os⟩ := s1
  obtain ⟨hl, hl9, hq⟩ := hq
  have hsz : hp.objs.size ≤ hp.objs.size + 1 := Nat.le_succ _
  have hn : H1 (hp.objs.size + 1) = none := I1.hok.fresh hsz
  have kk : ∀ b o, hp.get? b = some o → ((hp.push (PySem.W.kdv_tup us)).push (PySem.HandSPX.excO C hp.objs.size)).get? b = some o := fun b o e => Heap.get?_push_of_some _ (Heap.get?_push_of_some _ e)
  have hget : ((hp.push (PySem.W.kdv_tup us)).push (PySem.HandSPX.excO C hp.objs.size)).get? (hp.objs.size + 1) = some (PySem.HandSPX.excO C hp.objs.size) := by heap_get
  have I2 : Inv X pins σ (upd H1 (hp.objs.size + 1) (exo (hp.objs.size + 1) C none)) ⟨(hp.push (PySem.W.kdv_tup us)).push (PySem.HandSPX.excO C hp.objs.size), g, dr, tk, os⟩ :=
    I1.laid (t' := tk) (a := hp.objs.size + 1) (o := exo (hp.objs.size + 1) C none) (h' := (hp.push (PySem.W.kdv_tup us)).push (PySem.HandSPX.excO C hp.objs.size)) kk hsz (exo_ok hget)
  have r2 : Vals (V.ref (hp.objs.size + 1) :: vs) (Value.ref (hp.objs.size + 1) :: us) := .cons rfl r1
  have hus : us.length ≤ sizeLine := by
    rw [← Paired.length r1, sizeLine_eq]
    omega
  have hsp : spI X.K C fs (V.ref (hp.objs.size + 1) :: vs) (upd H1 (hp.objs.size + 1) (exo (hp.objs.size + 1) C none)) (fun v H2 => v = .non ∧
      ((fs = [] ∧ H2 (hp.objs.size + 1) = some (exo (hp.objs.size + 1) C none) ∧ Q (.ref C) none (L2.del H2 (hp.objs.size + 1))) ∨
      ∃ (d : Addr) (gs : List (Str × V)), H2 (hp.objs.size + 1) = some (exo (hp.objs.size + 1) C (some d)) ∧ H2 d = some (exd d gs) ∧ H1 d = none ∧ Q (.ref C) (some d) (upd (L2.del H2 (hp.objs.size + 1)) d (.xd gs)))) (fun _ _ _ => False) := by
    refine ⟨_, vs, rfl, hl, upd_same, ?_⟩
    rcases hq with ⟨h0, q⟩ | ⟨h0, q⟩
    · refine .inl ⟨h0, rfl, .inl ⟨h0, upd_same, ?_⟩⟩
      have e : L2.del (upd H1 (hp.objs.size + 1) (exo (hp.objs.size + 1) C none)) (hp.objs.size + 1) = H1 := by
        funext b
        by_cases z : b = hp.objs.size + 1
        · rw [z, del_same, hn]
        · rw [del_ne z, upd_ne z]
      rw [e]
      exact q
    · refine .inr ⟨h0, fun d H2 hd ne hk ha hdd => ⟨rfl, .inr ⟨d, _, ha, hdd, ?_, ?_⟩⟩⟩
      · rwa [upd_ne ne] at hd
      · have e : upd (L2.del H2 (hp.objs.size + 1)) d (.xd (fs.reverse.zip vs.reverse)) = upd H1 d (.xd (fs.reverse.zip vs.reverse)) := by
          funext b
          by_cases z : b = d
          · rw [z, upd_same, upd_same]
          · rw [upd_ne z, upd_ne z]
            by_cases y : b = hp.objs.size + 1
            · rw [y, del_same, hn]
            · rw [del_ne y, hk b y z, upd_ne y]
        rw [e]
        refine q d ?_
        rwa [upd_ne ne] at hd
  have hl2 : (Value.ref (hp.objs.size + 1) :: us ++ []).length = ps.length := by
    have e := r2.length
    rw [F1.len _ _ _ _ hsp] at e
    rw [List.append_nil]
    exact e.symm
  have b2 := hb _ (Value.ref (hp.objs.size + 1) :: us) I2.kIn hl2
  rw [List.append_nil] at b2
  refine wpAny_call (PySem.HandSPX.call_own F.excBase_ValueError (fun Y => PySem.HandSPX.refsVE_contains Y bm hbm) (I1.kIn _ _ hC) (PySem.W.looks_findIn I1.kIn N.iC) (fun self => PySem.W.bind_fn I1.kIn self N.tI) hus
    (codeAny_mono (F1.run _ X.stack _ _ ⟨Value.ref (hp.objs.size + 1) :: us, []⟩ (Value.ref (hp.objs.size + 1) :: us) _ _ (fun _ _ _ => False) (hr.make C us []) (I2.env0.make C us []) b2 r2 hsp) fun r s' hq' => ?_))
  cases r with
  | error er => exact hx pins σ _ _ er s' I2 hq'
  | ok fl =>
    cases fl with
    | ret u =>
      obtain ⟨v, H2, os2, bare2, un2, hok2, rv, ev, hh⟩ := hq'
      subst ev
      obtain ⟨h2, g2, d2, t2, os'⟩ := s'
      rcases hh with ⟨h0, ea, q2⟩ | ⟨d, gs, ea, ed, hd1, q2⟩
      · obtain ⟨t0, G, J, kG, ge, hoe, na⟩ := mk_endN (d2 := d2) (t2 := t2) I1 hsz kk un2 hok2 os2 bare2 ea
        exact ⟨rv, ⟨hp.objs.size + 1, _, _, ⟨G, g2, d2, t2, os'⟩, _, .ref C, none, rfl, J, kG, ge, hoe, ⟨rfl, rfl, fun vs hv => by cases hv; rfl⟩, rfl, rfl, na, rfl, bare2, raises_own T.oex.exC T.oex.tyC, q2⟩⟩
      · obtain ⟨t0, G, J, kG, ge, hoe, na⟩ := mk_end0 (d2 := d2) (t2 := t2) I1 hsz kk un2 hok2 os2 bare2 ea ed hd1
        exact ⟨rv, ⟨hp.objs.size + 1, _, _, ⟨G, g2, d2, t2, os'⟩, _, .ref C, some d, rfl, J, kG, ge, hoe, ⟨rfl, rfl, fun vs hv => by cases hv; rfl⟩, rfl, rfl, na, rfl, bare2, raises_own T.oex.exC T.oex.tyC, q2⟩⟩
    | next => exact False.elim hq'
    | brk => exact False.elim hq'
    | cont => exact False.elim hq'
theorem pmk_x (T : XC X.K C) (N : XIn X.K C fI fs) (F1 : FnOk X.prog X.w X.K X.mg X.base CX k fI fd ps (spI X.K C fs)) (hr : Room (k + 1) X.A) (hb : Binds X.K fd ps []) (hx : Passes CX X (fun _ _ _ => False)) (hg : Gl X x) (hm : X.mg x = some (.ref C)) (ha : PA X (e :: es) ta)
    (hdb : (x == ("__debug__" : Str)) = false := by decide) (he : starEach (e :: es) X.env = (false, eval e X.env) :: starEach es X.env := by rfl) (hpl : (backTo pos (starEach es X.env)).any (·.1) = false := by rfl) :
    L2N.PMk X (.Call (.Name x p) (e :: es) [] pos) (tMkX C fs ta) := by
  intro pins s σ H Q I h
  refine wpAny_Call_Name_kw (ld_glob I hg hm ?_ hdb)
  refine PySem.W.callWith_K (h₀ := X.base) I.ok.mod.kin T.oex.kC (thn (ha.run pos pins s σ H _ I h) fun us s1 ⟨vs, H1, I1, r1, q1⟩ => ⟨I1.kIn, ?_⟩) he hpl
  exact run_mkX T N F1 hr hb hx I1 r1 q1
theorem pmk_x0 (T : XC X.K C) (N : XIn X.K C fI []) (F1 : FnOk X.prog X.w X.K X.mg X.base CX k fI fd ps (spI X.K C [])) (hr : Room (k + 1) X.A) (hb : Binds X.K fd ps []) (hx : Passes CX X (fun _ _ _ => False)) (hg : Gl X x) (hm : X.mg x = some (.ref C))
    (hdb : (x == ("__debug__" : Str)) = false := by decide) :
    L2N.PMk X (.Call (.Name x p) [] [] pos) (tMkX C [] tNil) := by
  intro pins s σ H Q I h
  refine wpAny_Call_Name_kw (ld_glob I hg hm ?_ hdb)
  refine PySem.W.callWith_K0 I.kIn T.oex.kC ?_
  exact run_mkX T N F1 hr hb hx I .nil h
end
def cRaise (c : Str) (fs : List Str) (ta : TTA) : TTS := fun _ τ S E => ta τ S (fun zs S1 => zs.length = fs.length ∧ fs.length ≤ 900 ∧ E (.exc c fs.reverse zs.reverse) τ S1) (fun x S' => E x τ S')
/-- a class of the module, its __init__ -/
structure XOk (P : Program) (w : World) (K : PySem.W.Frag) (mg : Str → Option Value) (base : Heap) (c : Str) (fs : List Str) : Prop where
  xc : XC K (He.ga K c)
  gm : mg c = some (.ref (He.ga K c))
  ini : ∃ (f : Addr) (fd : FuncData) (ps : List Str), XIn K (He.ga K c) f fs ∧ FnOk P w K mg base (L2N.CX P w) 1 f fd ps (spI K (He.ga K c) fs) ∧ Binds K fd ps []
theorem Reps.rev {G : Gd} {H : Hp} {S : Sto} : ∀ {ts : List T} {vs : List V}, Reps G H S ts vs → Reps G H S ts.reverse vs.reverse
  | [], _, h => by cases h; exact .nil
  | t :: ts, _, h => by
    cases h with
    | cons h1 h2 =>
      rw [List.reverse_cons, List.reverse_cons]
      exact (Reps.rev h2).append (.cons h1 .nil)
theorem passX {X : Cx} : Passes (L2N.CX X.prog X.w) X fun _ _ _ => False := fun _ _ _ _ _ _ _ h => by
  obtain ⟨_, _, _, _, _, _, _, _, _, _, _, _, z⟩ := h
  exact z.elim
section
variable {X : Cx} {c : Str} {fs : List Str} {e : Expr} {es : List Expr} {ta : TTA} {p pos pos' : Pos} {j : Nat}
theorem raise_read {M : Addr → Prop} {S0 : Sto} {H0 : Hp} {E : T → TEnv → Sto → Prop} {B : TD} {D : Ends} {σ : L2.St} {H : Hp} {τ : TEnv} {S : Sto} (rel : Rel (gdOf X M) S0 H0 σ H τ S) (h : cRaise c fs ta B τ S E) :
    tMkX (He.ga X.K c) fs (LA X M S0 H0 ta E) σ H fun cls d H' => wOf X M S0 H0 E cls d σ H' := by
  refine ⟨τ, S, _, rel, h, fun zs S1 vs H1 ⟨hl, h9, hq⟩ o1 x1 r1 => ?_⟩
  have hl2 : vs.length = fs.length := by rw [← r1.length]; exact hl
  refine ⟨hl2, h9, ?_⟩
  by_cases h0 : fs = []
  · subst h0
    obtain rfl : zs = [] := List.length_eq_zero_iff.mp hl
    exact .inl ⟨rfl, τ, S1, _, rel.step o1 x1, ⟨c, [], [], rfl, rfl, .inl ⟨rfl, rfl, rfl⟩⟩, hq⟩
  · refine .inr ⟨h0, fun d hd => ?_⟩
    have xn : Ext S1 H1 S1 (upd H1 d (.xd (fs.reverse.zip vs.reverse))) := Ext.new hd
    exact ⟨τ, S1, _, (rel.step o1 x1).step (o1.new hd) xn, ⟨c, fs.reverse, zs.reverse, rfl, rfl, .inr ⟨d, vs.reverse, rfl, ⟨.inl upd_same, o1.free hd, o1.nom hd⟩, by rw [List.length_reverse, List.length_reverse, hl2], Reps.ext xn _ _ (Reps.rev r1)⟩⟩, hq⟩
theorem ts_raise (O : XOk X.prog X.w X.K X.mg X.base c fs) (hc : X.calm = true) (hr : Room j X.A) (hj : 2 ≤ j) (hg : Gl X c) (ha : TA X (e :: es) ta) (hdb : (c == ("__debug__" : Str)) = false := by decide)
    (he : starEach (e :: es) X.env = (false, eval e X.env) :: starEach es X.env := by rfl) (hpl : (backTo pos (starEach es X.env)).any (·.1) = false := by rfl) :
    TS X (.Raise (some (.Call (.Name c p) (e :: es) [] pos)) none pos') (cRaise c fs ta) := fun M S0 H0 E tk => by
  obtain ⟨T, hm, f, fd, ps, N, F1, hb⟩ := O
  exact (L2N.ps_raise hc tk (pmk_x T N F1 (hr.mono hj) hb passX hg hm (ha M S0 H0 E tk) hdb he hpl)).weak fun D σ H ⟨τ, S, B, rel, h, _⟩ => raise_read (B := B) (D := D) rel h
theorem ts_raise0 (O : XOk X.prog X.w X.K X.mg X.base c []) (hc : X.calm = true) (hr : Room j X.A) (hj : 2 ≤ j) (hg : Gl X c) (hdb : (c == ("__debug__" : Str)) = false := by decide) :
    TS X (.Raise (some (.Call (.Name c p) [] [] pos)) none pos') (cRaise c [] cNil) := fun M S0 H0 E tk => by
  obtain ⟨T, hm, f, fd, ps, N, F1, hb⟩ := O
  exact (L2N.ps_raise hc tk (pmk_x0 T N F1 (hr.mono hj) hb passX hg hm hdb)).weak fun D σ H ⟨τ, S, B, rel, h, _⟩ => by
    obtain ⟨τ', S', Qt, rel', q, k⟩ := raise_read (B := B) (D := D) (ta := cNil) rel h
    exact k [] S' [] H q rel'.sto Ext.refl .nil
end
section
variable {κ β : Type} {W : κ → Sto} {p : TEnv} {l : Cs} {u : TTS} {post : β → Dest}
theorem xs_raise {n : Nat} {c : Str} {fs : List Str} {r : TTA} {mr : (List T → PM κ β) → PM κ β} (h : XA W p l n r mr) (hn : n = fs.length := by rfl) (h9 : fs.length ≤ 900 := by decide) : XS W p l (cSeq (cRaise c fs r) u) (mr fun xs => thr (.exc c fs.reverse xs.reverse)) post := fun D E k τ S hE i s =>
  h _ _ _ _ (fun x S' => E x τ S') k τ S hE i s (fun zs k' S' e i' s' => ⟨e.trans hn, h9, s' τ S' i'.nil⟩) fun x k' S' i' q => q τ S' i'
end
end TL
namespace TL
open PySem PySem.Spec PyProof.Rows L2
section
variable {α σ : Type}
/-- a loop that may end by a return, but doesn't -/
theorem HT.forRA {d : Nat} {f : α → σ → PM Cell (Fl σ)} (I : List α → σ → Prop) : ∀ (xs : List α) (s : σ), I xs s → (∀ x xs s, I (x :: xs) s → HT d (f x s) fun r => ∃ s', r = .nx s' ∧ I xs s') → HT (xs.length * d) (TL.forRA f xs s) fun r => ∃ s', r = .inl s' ∧ I [] s'
  | [], s, hi, _ => by
    rw [List.length_nil, Nat.zero_mul]
    exact HT.pu ⟨s, rfl, hi⟩
  | x :: xs, s, hi, h => by
    rw [List.length_cons, Nat.succ_mul]
    refine HT.bd (h x xs s hi) fun r hr => ?_
    obtain ⟨s', rfl, hs'⟩ := hr
    exact HT.forRA I xs s' hs' h
end
end TL
namespace TL
open PySem PySem.Spec PyProof.Rows L2 HotX
section
variable {prog : Program} {w : World} {A : Around} {E : Value → Shared → Prop} {s : Shared} {x1 it l : Addr} {i : Nat} {items : Array Value}
end
/-- it stands frozen from the entry on, its context is None -/
def HotX (X : Cx) : Prop := ∃ a o vs u, X.A.handled = some (.ref a) ∧ X.H_0 a = some (.frz o u) ∧ o.data = .fields vs ∧ vs[2]? = some .none
section
variable {X : Cx} {pins : List (Addr × Obj)} {σ : L2.St} {H : Hp} {s : Shared}
theorem frz_get {P : Program} {w : World} {h : Heap} {a : Addr} {o : Obj} {u : HO} (x : ObjOk P w H h a (.frz o u)) : h.get? a = some o := by
  obtain ⟨e, _⟩ := x
  exact e
theorem HotX.at (c : HotX X) (I : Inv X pins σ H s) : ∃ a o vs u, X.A.handled = some (.ref a) ∧ H a = some (.frz o u) ∧ s.heap.get? a = some o ∧ o.data = .fields vs ∧ vs[2]? = some .none := by
  obtain ⟨a, o, vs, u, h1, h2, h3, h4⟩ := c
  have q := I.base.frzs a o u h2
  exact ⟨a, o, vs, u, h1, q, frz_get (I.hok a _ q), h3, h4⟩
theorem HotX.blk (c : HotX X) (I : Inv X pins σ H s) {scope : Scope} {env : Env} {fp : List Addr} : HotX (X.blk s H scope env fp) := by
  obtain ⟨a, o, vs, u, h1, q, _, h3, h4⟩ := c.at I
  exact ⟨a, o, vs, u, h1, q, h3, h4⟩
end
end TL
namespace TL
open PySem PySem.Spec PyProof.Rows L2 HotX
/-- an iterator's turns in such a context -/
structure TurnX (P : Program) (w : World) (K : PySem.W.Frag) (tg : Expr) (J : It) (fp : List Addr) (it : Addr) (tn : Nat → Heap → Prop) : Prop where
  mem : it ∈ fp
  obj : ∀ i h, tn i h → ∀ b ∈ fp, ∃ o, h.get? b = some o ∧ ∀ v, o.data ≠ .cell v
  keep : ∀ i h h', tn i h → (∀ b ∈ fp, ∀ o, h.get? b = some o → h'.get? b = some o) → tn i h'
  self : ∀ (A : Around) (i : Nat) (s : Shared) (Q : Value → Shared → Prop) (E : Value → Shared → Prop), tn i s.heap → Q (.ref it) s → wpAny (model P w) A (pyIter (.ref it)) Q E s
  item : ∀ (X : Cx) (i : Nat) (pins : List (Addr × Obj)) (s : Shared) (σ : L2.St) (H : Hp) (E : Value → Shared → Prop), X.prog = P → X.w = w → X.K = K → HotX X → Inv X pins σ H s → (∀ b ∈ fp, FpOk X pins H b) → tn i s.heap → J.go i H →
    wpAny (model P w) X.A (pyNext (.ref it)) (fun r s1 => ∃ u, r = some u ∧ wpAny (model P w) X.A (letOwnedTupleGo tg (.ref it) u) (fun _ s2 => ∃ x H', Inv X pins σ H' s2 ∧ RelV x u ∧ J.yld i H x H' ∧ tn (i + 1) s2.heap ∧ ∀ b ∈ fp, H' b = none) E s1) E s
  done : ∀ (X : Cx) (i : Nat) (pins : List (Addr × Obj)) (s : Shared) (σ : L2.St) (H : Hp) (E : Value → Shared → Prop), X.prog = P → X.w = w → X.K = K → HotX X → Inv X pins σ H s → (∀ b ∈ fp, FpOk X pins H b) → tn i s.heap → J.stop i H →
    wpAny (model P w) X.A (pyNext (.ref it)) (fun r s1 => r = none ∧ Inv X pins σ H s1) E s
structure PIX (X : Cx) (tg iter : Expr) (wi : L2.TI) : Prop where
  run : ∀ (pins : List (Addr × Obj)) (s : Shared) (σ : L2.St) (H : Hp) (R : It → Hp → Prop), Inv X pins σ H s → wi σ H R →
    wpAny (model X.prog X.w) X.A (eval iter X.env) (fun v s1 => wpAny (model X.prog X.w) X.A (pyIter v) (fun itv s2 =>
      ∃ it fp tn J H', itv = .ref it ∧ Inv X pins σ H' s2 ∧ TurnX X.prog X.w X.K tg J fp it tn ∧ tn 0 s2.heap ∧ (∀ b ∈ fp, FpOk X pins H' b) ∧ R J H') X.xe s1) X.xe s
theorem PIX.weak {X : Cx} {tg e : Expr} {t u : L2.TI} (h : PIX X tg e t) (k : ∀ σ H R, u σ H R → t σ H R) : PIX X tg e u := ⟨fun pins s σ H R I q => h.run pins s σ H R I (k _ _ _ q)⟩
section
variable {X : Cx} {elt tg iter : Expr} {ifs : List Expr} {scope : Scope} {own : List (Str × Nat)} {wi : L2.TI} {g : L2.TG} {tt : L2.TT} {te : L2.TE}
/-- the block's parts, wherever it begins -/
structure BlkX (X : Cx) (scope : Scope) (tg : Expr) (ifs : List Expr) (elt : Expr) (g : L2.TG) (tt : L2.TT) (te : L2.TE) : Prop where
  g : ∀ (s : Shared) (H : Hp) (C : Addr) (cl : List (Str × Addr)) (fp : List Addr), HotX (X.blk s H scope (compEnvC scope cl C X.env) fp) → PG (X.blk s H scope (compEnvC scope cl C X.env) fp) tg g
  t : ∀ (s : Shared) (H : Hp) (C : Addr) (cl : List (Str × Addr)) (fp : List Addr), PTs (X.blk s H scope (compEnvC scope cl C X.env) fp) ifs tt
  e : ∀ (s : Shared) (H : Hp) (C : Addr) (cl : List (Str × Addr)) (fp : List Addr), PE (X.blk s H scope (compEnvC scope cl C X.env) fp) elt te
end
end TL
namespace TL
open PySem PySem.Spec PyProof.Rows L2 HotX
section
variable {P : Program} {w : World} {X : Cx} {pins : List (Addr × Obj)} {σ : L2.St} {H : Hp} {s : Shared} {a C : Addr} {d : Option Addr}
end
section
variable {G : Gd} {H : Hp} {S : Sto} {a : Addr} {c : Str} {ns : List Str} {ts : List T}
theorem lookup_reps {f : Str} {t : T} : ∀ {ns : List Str} {ts : List T} {xs : List V}, Reps G H S ts xs → (ns.zip ts).lookup f = some t → ∃ v, (ns.zip xs).lookup f = some v ∧ Rep G H S t v
  | [], _, _, _, e => by cases e
  | n :: ns, [], _, _, e => by cases e
  | n :: ns, t' :: ts, _, r, e => by
    cases r with
    | @cons _ _ v vs r1 r2 =>
      rw [List.zip_cons_cons, List.lookup_cons] at e
      rw [List.zip_cons_cons]
      by_cases q : f = n
      · subst q
        simp only [beq_self_eq_true] at e
        cases e
        exact ⟨v, by simp [List.lookup], r1⟩
      · have q' : (f == n) = false := by simpa using q
        rw [q'] at e
        obtain ⟨w, h1, h2⟩ := lookup_reps r2 e
        exact ⟨w, by rw [List.lookup_cons, q']; exact h1, h2⟩
end
section
variable {X : Cx} {a e : Expr} {ta : TTE} {p p2 pos : Pos} {D f : Str} {tbl : Str → Option Bool} {ok : Str → Bool}
end
end TL
namespace TL
open PySem PySem.Spec PyProof.Rows L2 HotX
structure Hd where
  c : Value
  i : Option Nat
  ts : Addr → L2.TS
def hdSet : Option Nat → Option V → L2.St → L2.St
  | none, _, σ => σ
  | some i, v, σ => σ.set i v
/-- the context of a suite -/
abbrev sui (X : Cx) (a : Addr) (pins : List (Addr × Obj)) : Cx := X.suite a (X.pn ++ pins)
inductive HdsX (X : Cx) : List ExceptHandler → List Hd → Prop
  | nil : HdsX X [] []
  | plain {x : Str} {c : Value} {ts : Addr → L2.TS} {b₀ : Stmt} {suite : List Stmt} {np pos' : Pos} {hds : List ExceptHandler} {l : List Hd} (hc : Names X x c) (hsu : ∀ a pins, PSs (sui X a pins) (b₀ :: suite) (ts a)) (r : HdsX X hds l) :
      HdsX X (.ExceptHandler (some (.Name x np)) none (b₀ :: suite) pos' :: hds) (⟨c, none, ts⟩ :: l)
  | named {x n : Str} {c : Value} {i : Nat} {ts : Addr → L2.TS} {b₀ : Stmt} {suite : List Stmt} {np pos' : Pos} {hds : List ExceptHandler} {l : List Hd} (hc : Names X x c) (hN : X.N.Nodup) (hi : X.N[i]? = some n) (hln : X.env.kindOf n = some .local) (hsu : ∀ a pins, PSs (sui X a pins) (b₀ :: suite) (ts a)) (r : HdsX X hds l) :
      HdsX X (.ExceptHandler (some (.Name x np)) (some n) (b₀ :: suite) pos' :: hds) (⟨c, some i, ts⟩ :: l)
section
variable {X : Cx} {pins : List (Addr × Obj)} {σ : L2.St} {H : Hp} {s sI : Shared} {a C : Addr} {d : Option Addr}
end
section
variable {X : Cx} {body : List Stmt} {h₀ : ExceptHandler} {hds : List ExceptHandler} {l : List Hd} {pos : Pos} {tb : WX → L2.TS} {Wout : WX}
end
end TL
namespace TL
open PySem PySem.Spec PyProof.Rows L2 HotX
abbrev RoomH := L2H.RoomH
def HotA (A : Around) (H : Hp) : Prop := ∃ a o vs u, A.handled = some (.ref a) ∧ H a = some (.frz o u) ∧ o.data = .fields vs ∧ vs[2]? = some .none
abbrev CX0 : CXT := fun _ _ _ _ _ _ => False
structure FnX (P : Program) (w : World) (K : PySem.W.Frag) (mg : Str → Option Value) (base : Heap) (k : Nat) (f : Addr) (fd : FuncData) (ps : List Str) (sp : Sp) : Prop where
  len : ∀ vs H Q E, sp vs H Q E → vs.length = ps.length
  run : ∀ (A : Around) (outer : List Env) (s : Shared) (H : Hp) (args : Args) (us : List Value) (vs : List V) (Q : VK) (E : XK), RoomH k A → HotA A H → Env0 P w K mg base A outer s H → BindsTo s fd args (ps.zip us) → Vals vs us → sp vs H Q E →
    codeAny (model P w) A (.call (.ref f) args) (CR CX0 outer P w H s Q E) s
section
variable {P : Program} {w : World} {K : PySem.W.Frag} {mg : Str → Option Value} {base : Heap} {x qual : Str} {params : Arguments} {body : List Stmt} {scope : Scope} {f : Addr} {fd : FuncData} {N ps : List Str} {k : Nat} {c : TTS}
end
def HotS (A : Around) (S : Sto) (H : Hp) : Prop := ∃ a o vs u, A.handled = some (.ref a) ∧ H a = some (.frz o u) ∧ S a = none ∧ o.data = .fields vs ∧ vs[2]? = some .none
theorem HotS.ext {A : Around} {S S' : Sto} {H H' : Hp} (h : HotS A S H) (x : Ext S H S' H') : HotS A S' H' := by
  obtain ⟨a, o, vs, u, h1, h2, h3, h4, h5⟩ := h
  obtain ⟨q1, q2⟩ := (x a (.frz o u) h3).1 h2 rfl
  exact ⟨a, o, vs, u, h1, q1, q2, h4, h5⟩
theorem HotS.a {A : Around} {S : Sto} {H : Hp} (h : HotS A S H) : HotA A H := by
  obtain ⟨a, o, vs, u, h1, h2, h3, h4, h5⟩ := h
  exact ⟨a, o, vs, u, h1, h2, h4, h5⟩
def TEH (X : Cx) (e : Expr) (t : TTE) : Prop := ∀ M S0 H0 E, HotS X.A S0 H0 → Takes X (wOf X M S0 H0 E) → PE X e (LE X M S0 H0 t E)
def TSH (X : Cx) (s : Stmt) (t : TTS) : Prop := ∀ M S0 H0 E, HotS X.A S0 H0 → Takes X (wOf X M S0 H0 E) → PS X s (LS X M S0 H0 t E)
def TSsH (X : Cx) (s : List Stmt) (t : TTS) : Prop := ∀ M S0 H0 E, HotS X.A S0 H0 → Takes X (wOf X M S0 H0 E) → PSs X s (LS X M S0 H0 t E)
section
variable {X : Cx} {k j : Nat} {f : Addr} {fd : FuncData} {ps : List Str} {x : Str} {p pos : Pos} {e : Expr} {es : List Expr}
theorem TE.h {t : TTE} (h : TE X e t) : TEH X e t := fun M S0 H0 E _ tk => h M S0 H0 E tk
theorem TS.h {st : Stmt} {t : TTS} (h : TS X st t) : TSH X st t := fun M S0 H0 E _ tk => h M S0 H0 E tk
end
section
variable {X : Cx} {tg e a b elt iter : Expr} {ifs : List Expr} {ta tb te : TTE} {p pos tpos spos py : Pos} {elts : List Expr} {kk : Nat} {ti : TTI} {g : TTG} {tc : TTB} {scope : Scope} {ow : List (Str × Nat)}
end
end TL
namespace TL
open PySem PySem.Spec PyProof.Rows L2 HotX
/-- a clause: its class, the slot of its name, its suite -/
structure Hc where
  c : Str
  i : Option Nat
  ts : TTS
def hSet : Option Nat → Option T → TEnv → TEnv
  | none, _, τ => τ
  | some i, v, τ => τ.set i v
inductive HcX (X : Cx) : List ExceptHandler → List Hc → Prop
  | nil : HcX X [] []
  | plain {x : Str} {ts : TTS} {b₀ : Stmt} {suite : List Stmt} {np pos' : Pos} {hds : List ExceptHandler} {l : List Hc} (hc : Names X x (.ref (He.ga X.K x))) (hsu : ∀ a pins, TSsH (sui X a pins) (b₀ :: suite) ts) (r : HcX X hds l) :
      HcX X (.ExceptHandler (some (.Name x np)) none (b₀ :: suite) pos' :: hds) (⟨x, none, ts⟩ :: l)
  | named {x n : Str} {i : Nat} {ts : TTS} {b₀ : Stmt} {suite : List Stmt} {np pos' : Pos} {hds : List ExceptHandler} {l : List Hc} (hc : Names X x (.ref (He.ga X.K x))) (hN : X.N.Nodup) (hi : X.N[i]? = some n) (hln : X.env.kindOf n = some .local) (hsu : ∀ a pins, TSsH (sui X a pins) (b₀ :: suite) ts) (r : HcX X hds l) :
      HcX X (.ExceptHandler (some (.Name x np)) (some n) (b₀ :: suite) pos' :: hds) (⟨x, some i, ts⟩ :: l)
theorem names_of {X : Cx} {x : Str} (hg : Gl X x) (hm : X.mg x = some (.ref (He.ga X.K x))) (hd : (x == ("__debug__" : Str)) = false := by decide) : Names X x (.ref (He.ga X.K x)) := ⟨hg, hd, .inl hm⟩
section
variable {X : Cx}
theorem EnvR.off {G : Gd} {H : Hp} {S : Sto} {σ : L2.St} {τ : TEnv} (h : EnvR G H S σ τ) (i : Option Nat) : EnvR G H S (hdSet i none σ) (hSet i none τ) := by
  cases i with
  | none => exact h
  | some i => exact h.wipe [i]
theorem Rel.off {G : Gd} {S0 S : Sto} {H0 H : Hp} {σ : L2.St} {τ : TEnv} (r : Rel G S0 H0 σ H τ S) (i : Option Nat) : Rel G S0 H0 (hdSet i none σ) H (hSet i none τ) S := ⟨r.env.off i, r.sto, r.ext⟩
end
section
variable {κ α β σ : Type} {W : κ → Sto} {p : TEnv} {post : β → Dest}
/-- the slot of the clause's name is not told -/
def OffP (i : Option Nat) : Dest → Prop
  | .nx p _ => ∀ j, i = some j → p[j]? = some none
  | .bk p _ => ∀ j, i = some j → p[j]? = some none
  | .ct p _ => ∀ j, i = some j → p[j]? = some none
  | .rt _ => True
  | .fin => True
theorem En.off {p τ : TEnv} {i : Option Nat} (h : En p τ) (hi : ∀ j, i = some j → p[j]? = some none) : En p (hSet i none τ) := by
  cases i with
  | none => exact h
  | some j =>
    have e : p.set j none = p := by
      apply List.ext_getElem?
      intro n
      by_cases hn : j = n
      · subst hn
        rw [List.getElem?_set_self', hi j rfl]
        rfl
      · rw [List.getElem?_set_ne hn]
    have z := h.set (i := j) (x := none)
    rw [e] at z
    exact z
inductive XHs (W : κ → Sto) (p : TEnv) (post : β → Dest) : List Hc → List (Str × (T → PM κ β)) → Prop
  | nil : XHs W p post [] []
  | cons {c : Str} {i : Option Nat} {ts : TTS} {g : T → PM κ β} {l : List Hc} {lm : List (Str × (T → PM κ β))} (h : ∀ x, XS W (hSet i (some x) p) [] ts (g x) post) (o : ∀ b, OffP i (post b)) (r : XHs W p post l lm) : XHs W p post (⟨c, i, ts⟩ :: l) ((c, g) :: lm)
end
section
variable {X : Cx} {j i : Nat} {x : Str} {p pos : Pos} {e : Expr} {es : List Expr} {ta : TTA}
end
section
variable {κ : Type} {W : κ → Sto} {p : TEnv} {l : Cs}
def fnOf (t : Str → Option (List T → PM Unit T)) : T → Option (List T → PM Unit T)
  | .fn x => t x
  | _ => none
end
inductive Alls {α : Type} (P : α → Prop) : List α → Prop
  | nil : Alls P []
  | cons {a : α} {l : List α} (h : P a) (r : Alls P l) : Alls P (a :: l)
theorem Alls.mem {α : Type} {P : α → Prop} {l : List α} (h : Alls P l) : ∀ {a : α}, a ∈ l → P a := by
  induction h with
  | nil => intro a m; cases m
  | cons h r ih =>
    intro a m
    rcases List.mem_cons.mp m with e | m
    · exact e ▸ h
    · exact ih m
def okL (l : List Str) : Str → Bool := fun c => l.contains c
end TL
namespace TL
open PySem PySem.Spec PyProof.Rows L2 HotX
section
variable {κ : Type} {W : κ → Sto} {p : TEnv} {l : Cs} {a b : TTE} {ma mb : PM κ T}
end
end TL
namespace TL
open PySem PySem.Spec PyProof.Rows L2 HotX
section
variable {K : PySem.W.Frag} {mg : Str → Option Value} {x : Str}
end
end TL
namespace TL
open PySem PySem.Spec PyProof.Rows L2
structure SaysY (fa : List He.Fa) (fn : List He.DefD) (ex : PySem.W.Frag → Bool) (w : World) (K : PySem.W.Frag) : Prop where
  t : He.SaysT fa fn [] w K
  more : ex K = true
end TL
namespace TL
open PySem PySem.Spec PyProof.Rows L2
def isbT (_ : Sto) (x y : T) : Option T := match x, y with
  | .bl a, .bl b => some (.bl (a == b))
  | _, _ => none
def isnbT (_ : Sto) (x y : T) : Option T := match x, y with
  | .bl a, .bl b => some (.bl (!(a == b)))
  | _, _ => none
section
variable {X : Cx}
theorem op_isnbT : OpT X (compareOp .IsNot) isnbT := by
  intro pins s σ H x y v u Q I rx ry h
  obtain ⟨M, S, tx, ty, t, o, hx, hy, e, fin⟩ := h
  cases tx <;> first | (cases e; done) | skip
  cases ty <;> first | (cases e; done) | skip
  cases hx
  cases hy
  cases rx
  cases ry
  obtain rfl := Option.some.inj e
  exact isnot_bool (fin_bl I (fin _ H o Ext.refl (.bl _)) rfl)
end
theorem opx_isnbT : OpX' isnbT := fun _ _ _ _ h => h
theorem isbT_bl {a b : Bool} : isbT emp (.bl a) (.bl b) = some (.bl (a == b)) := rfl
theorem isnbT_bl {a b : Bool} : isnbT emp (.bl a) (.bl b) = some (.bl (!(a == b))) := rfl
end TL
namespace TL
open PySem PySem.Spec PyProof.Rows L2
section
variable {prog : Program} {w : World} {A : Around} {E : Value → Shared → Prop} {s : Shared}
theorem fm_congr {α β : Type} {f g : α → Option β} : ∀ {l : List α}, (∀ x ∈ l, f x = g x) → l.filterMap f = l.filterMap g
  | [], _ => rfl
  | a :: l, h => by
    rw [List.filterMap_cons, List.filterMap_cons, h a (.head _), fm_congr fun x m => h x (.tail _ m)]
theorem fm_all {α : Type} (ys : List α) : (List.range ys.length).filterMap (fun m => ys[m]?) = ys := by
  apply List.ext_getElem?
  intro i
  have e : (List.range ys.length).filterMap (fun m => ys[m]?) = ys := by
    induction ys with
    | nil => rfl
    | cons a ys ih =>
      rw [List.length_cons, List.range_succ_eq_map, List.filterMap_cons, List.filterMap_map]
      show a :: (List.range ys.length).filterMap (fun m => (a :: ys)[m + 1]?) = a :: ys
      simp only [List.getElem?_cons_succ]
      rw [ih]
  rw [e]
theorem rev_pick (xs : Array Value) : ((List.range xs.size).filterMap fun (m : Nat) => xs[(((xs.size : Int) - 1) + (m : Int) * (-1)).toNat]?).toArray = xs.toList.reverse.toArray := by
  congr 1
  have h := fm_all xs.toList.reverse
  rw [List.length_reverse, Array.length_toList] at h
  rw [fm_congr (g := fun m => xs.toList.reverse[m]?) fun m hm => ?_]
  · exact h
  · have hm := List.mem_range.mp hm
    rw [List.getElem?_reverse (by rw [Array.length_toList]; exact hm), Array.length_toList, Array.getElem?_toList]
    congr 1
    omega
theorem sliceApplied_step {sl : Addr} {vl vu vs : Value} {n : Nat} {k lo : Int} {Q : Int × Int × Nat → Shared → Prop} (hs : s.heap.IsSliceOf sl vl vu vs) (pl : IsPart vl none) (pu : IsPart vu none) (ps : IsPart vs (some k)) (hk : (k = 1 ∧ lo = 0) ∨ (k = -1 ∧ lo = (n : Int) - 1))
    (h : Q (lo, k, n) s) : wpAny (model prog w) A (Builtin.Slice.sliceApplied (.ref sl) (pure (n : Int))) Q E s := by
  obtain ⟨os, hos, hcs, hds⟩ := id hs
  unfold Builtin.Slice.sliceApplied Builtin.Slice.sliceFields
  refine wpAny_bind (wpAny_bind (wpAny_field hos hds (x := vl) rfl (wpAny_bind (wpAny_field hos hds (x := vu) rfl (wpAny_bind (wpAny_field hos hds (x := vs) rfl (wpAny_pure ?_)))))))
  refine wpAny_bind (HT.slicePart_ ps ?_)
  show wpAny _ _ (if ((k : Int) == 0) = true then _ else _) _ _ s
  rw [if_neg (by rcases hk with ⟨rfl, _⟩ | ⟨rfl, _⟩ <;> decide)]
  refine wpAny_bind (HT.slicePart_ pl (wpAny_bind (HT.slicePart_ pu (wpAny_bind (wpAny_pure ?_)))))
  show wpAny _ _ (match Builtin.Slice.sliceAdjust none none k (n : Int) with | (lo, hi) => pure (lo, k, Builtin.Slice.slicePlaces lo hi k)) _ _ s
  rcases hk with ⟨rfl, rfl⟩ | ⟨rfl, rfl⟩
  · have e : Builtin.Slice.sliceAdjust none none 1 (n : Int) = (0, (n : Int)) := rfl
    rw [e]
    show wpAny _ _ (pure ((0 : Int), (1 : Int), Builtin.Slice.slicePlaces 0 (n : Int) 1)) _ _ s
    have e2 : Builtin.Slice.slicePlaces 0 (n : Int) 1 = n := by
      unfold Builtin.Slice.slicePlaces
      rw [if_pos (by decide)]
      split <;> omega
    rw [e2]
    exact wpAny_pure h
  · have e : Builtin.Slice.sliceAdjust none none (-1) (n : Int) = ((n : Int) - 1, -1) := rfl
    rw [e]
    show wpAny _ _ (pure ((n : Int) - 1, (-1 : Int), Builtin.Slice.slicePlaces ((n : Int) - 1) (-1) (-1))) _ _ s
    have e2 : Builtin.Slice.slicePlaces ((n : Int) - 1) (-1) (-1) = n := by
      unfold Builtin.Slice.slicePlaces
      rw [if_neg (by decide), show (- -1 : Int) = 1 by decide, Int.ediv_one]
      split <;> omega
    rw [e2]
    exact wpAny_pure h
theorem getItem_tuple_step {t sl : Addr} {items : Array Value} {vl vu vs : Value} {k : Int} {Q : Value → Shared → Prop} (ht : IsTup s.heap t items) (hs : s.heap.IsSliceOf sl vl vu vs) (pl : IsPart vl none) (pu : IsPart vu none) (ps : IsPart vs (some k)) (hk : k = 1 ∨ k = -1)
    (h1 : k = 1 → Q (.ref t) s) (h2 : k = -1 → Q (.ref s.heap.objs.size) { s with heap := s.heap.push { cls := .type "tuple", data := .seq items.toList.reverse.toArray } }) (hsz : items.size ≤ sizeLine) : wpAny (model prog w) A (getItem (.ref t) (.ref sl)) Q E s := by
  obtain ⟨os, hos, hcs, hds⟩ := id hs
  have hTs : s.TypeIs (.ref sl) "slice" := ⟨os, hos, hcs⟩
  have hrev : sizeOk (.seq items.toList.reverse.toArray) := by
    show items.toList.reverse.toArray.size ≤ sizeLine
    rw [List.size_toArray, List.length_reverse, Array.length_toList]
    exact hsz
  unfold getItem
  try with_reducible refine wpAny_holding ?_
  first | refine wpAny_bind (wpAny_pure ?_) | skip
  refine wpAny_bind (wpAny_sequenceKey ht.typeIs (by decide) ?_)
  refine wpAny_bind (wpAny_callSpecial?_slot (name := Str.ofString "__getitem__") ht.typeIs PyProof.Rows.slot_tuple_getitem
    (wpAny_call_entry PyProof.Rows.slot_tuple_getitem ht.typeIs entry_tuple_getitem ?_ (args_tuple_getitem _ _)))
  show wpAny _ _ (Builtin.Tuple.tupleItemsOf (.ref t) >>= _) _ _ s
  refine wpAny_bind (tupleItemsOf_ ht ?_)
  refine wpAny_bind (wpAny_typeOf hTs ?_)
  rw [if_pos (by decide)]
  rcases hk with rfl | rfl
  · refine wpAny_bind (sliceApplied_step (lo := 0) hs pl pu ps (.inl ⟨rfl, rfl⟩) ?_)
    have hyes : ((0 : Int) == 0 && (1 : Int) == 1 && items.size == items.size) = true := by simp
    show wpAny _ _ (if ((0 : Int) == 0 && (1 : Int) == 1 && items.size == items.size) = true then _ else _) _ _ s
    rw [if_pos hyes]
    refine wpAny_bind ?_
    show wpAny _ _ (typeOf (.ref t) >>= fun T => pure (T == .type "tuple")) _ _ s
    refine wpAny_bind (wpAny_typeOf ht.typeIs (wpAny_pure ?_))
    first
      | rw [if_pos (by decide)]
      | simp only [beq_self_eq_true, if_true]
    first
      | exact wpAny_bind (wpAny_rule (wpAny_pure ⟨_, rfl, wpAny_pure (h1 rfl)⟩))
      | exact wpAny_bind (wpAny_rule (wpAny_bind (wpAny_pure (wpAny_pure ⟨_, rfl, wpAny_pure (h1 rfl)⟩))))
  · refine wpAny_bind (sliceApplied_step (lo := (items.size : Int) - 1) hs pl pu ps (.inr ⟨rfl, rfl⟩) ?_)
    have hno : ¬ (((items.size : Int) - 1 == 0 && (-1 : Int) == 1 && items.size == items.size) = true) := by simp
    show wpAny _ _ (if ((items.size : Int) - 1 == 0 && (-1 : Int) == 1 && items.size == items.size) = true then _ else _) _ _ s
    rw [if_neg hno, rev_pick]
    have h := h2 rfl
    first
      | exact wpAny_bind (m := Builtin.Tuple.tupleExact _) (wpAny_newObj_type (wpAny_pure ⟨_, rfl, wpAny_pure h⟩) hrev)
      | exact wpAny_bind (m := Builtin.Tuple.tupleExact _) (wpAny_newObj_type (wpAny_bind (wpAny_pure (wpAny_pure ⟨_, rfl, wpAny_pure h⟩))) hrev)
      | exact wpAny_bind (wpAny_bind (m := Builtin.Tuple.tupleExact _) (wpAny_newObj_type (wpAny_pure (wpAny_pure ⟨_, rfl, wpAny_pure h⟩)) hrev))
      | exact wpAny_bind (wpAny_bind (m := Builtin.Tuple.tupleExact _) (wpAny_newObj_type (wpAny_pure ⟨_, rfl, wpAny_pure h⟩) hrev))
end
def tStep (K : PySem.W.Frag) (te tk : L2.TE) : L2.TE := fun σ H Q => te σ H fun x H1 => tPart tk σ H1 fun o H2 => ∃ k, o = some k ∧ ∃ a, x = .ref a ∧
  ((∃ xs, SqT K H2 a xs ∧ ((k = 1 ∧ Q (.ref a) H2) ∨ (k = -1 ∧ ∀ p o, H2 p = none → o.dict = none → Q (.ref p) (upd H2 p (fT o xs.reverse))))) ∨ ∃ xs, SqL K H2 a xs ∧ k = -1 ∧ ∀ p, H2 p = none → Q (.ref p) (upd H2 p (.lst xs.reverse)))
section
variable {X : Cx} {e ks : Expr} {te tk : L2.TE} {p3 pos : Pos}
theorem pe_step (he : PE X e te) (hk : PE X ks tk) : PE X (.Subscript e (.Slice none none (some ks) p3) pos) (tStep X.K te tk) := by
  refine ⟨fun pins s σ H Q I h => ?_⟩
  refine Subscript_ (thn (he.run pins s σ H _ I h) fun v s1 ⟨x, H1, I1, r1, q1⟩ => ?_)
  have hst : PO X (some ks) (tPart tk) := po_some hk
  refine wpAny_Slice (thn (po_none.run pins s1 σ H1 (fun o H2 => o = none ∧ H2 = H1) I1 ⟨rfl, rfl⟩) fun vl s2 ⟨l, H2, I2, pl, el, e2⟩ => ?_)
  subst el e2
  refine thn (po_none.run pins s2 σ H2 (fun o H3 => o = none ∧ H3 = H2) I2 ⟨rfl, rfl⟩) fun vu s3 ⟨u, H3, I3, pu, eu, e3⟩ => ?_
  subst eu e3
  refine thn (hst.run pins s3 σ H3 _ I3 q1) fun vs s4 ⟨o, H4, I4, ps, k, eo, a, ex, q⟩ => ?_
  subst eo ex
  obtain rfl : v = Value.ref a := r1
  have I5 : Inv X pins σ H4 { s4 with heap := s4.heap.push { cls := .type "slice", data := .fields #[vl, vu, vs] } } := I4.kept (t' := s4.toks) fun b ob q => Heap.get?_push_of_some _ q
  show wpAny (model X.prog X.w) X.A (subscriptTail e (.Slice none none (some ks) p3) (.ref a) (.ref s4.heap.objs.size)) (EP X pins σ Q) X.xe { s4 with heap := s4.heap.push { cls := .type "slice", data := .fields #[vl, vu, vs] } }
  rcases q with ⟨xs, hx, q⟩ | ⟨xs, hx, rfl, q⟩
  · obtain ⟨its, r, ht, hz⟩ := I5.tuple hx
    have hlen := r.length
    refine tail_any (ops := [.ref a, .ref s4.heap.objs.size]) ht.typeIs (PyProof.Rows.slot_tuple_getitem.lookup) ?_ (by with_unfolding_all rfl)
    refine getItem_tuple_step ht (Heap.IsSliceOf.new _ vl vu vs) pl pu ps (q.elim (fun z => .inl z.1) fun z => .inr z.1) (fun e1 => ?_) (fun e1 => ?_) (by rw [List.size_toArray]; omega)
    · rcases q with ⟨_, q⟩ | ⟨z, _⟩
      · exact ⟨.ref a, H4, I5, rfl, q⟩
      · omega
    · rcases q with ⟨z, _⟩ | ⟨_, q⟩
      · omega
      · exact new_tup (s := { s4 with heap := s4.heap.push { cls := .type "slice", data := .fields #[vl, vu, vs] } }) I5 r.reverse (by rw [List.length_reverse]; exact hz) fun o d => q _ o (I5.hok.fresh (Nat.le_refl _)) d
  · obtain ⟨its, r, ht, hz⟩ := I5.list hx
    have hlen := r.length
    refine tail_any (ops := [.ref a, .ref s4.heap.objs.size]) ht.isList.typeIs (PySem.slot_list_getitem.lookup) ?_ (by with_unfolding_all rfl)
    refine wpAny_getItem_list_slice ht.isList (Heap.IsSliceOf.new _ vl vu vs) pl pu ps (by decide) ?_ (by rw [List.size_toArray]; omega)
    rw [PySem.W.krv_pick]
    refine ⟨.ref _, _, I5.laid (t' := s4.toks) (o := .lst xs.reverse) (fun b ob q => Heap.get?_push_of_some _ q) (Nat.le_refl _) ?_, rfl, q _ (I5.hok.fresh (Nat.le_refl _))⟩
    exact ⟨by rw [List.length_reverse]; exact hz, _, 0, r.reverse, Heap.get?_push_size _ rfl⟩
end
def stepT (S : Sto) (x y : T) : Option T := match res S x, y with
  | .tup ts, .int k => if k = 1 then some (.tup ts) else if k = -1 then some (.tup ts.reverse) else none
  | .lst ts, .int k => if k = -1 then some (.lst ts.reverse) else none
  | _, _ => none
theorem te_step {X : Cx} {e ks : Expr} {te tk : TTE} {p3 pos : Pos} (he : TE X e te) (hk : TE X ks tk) : TE X (.Subscript e (.Slice none none (some ks) p3) pos) (cOp stepT te tk) := fun M S0 H0 E tk2 =>
  (pe_step (he M S0 H0 E tk2) (hk M S0 H0 E tk2)).weak fun σ H Q ⟨τ, S, Qt, rel, h, k⟩ =>
    ⟨τ, S, _, rel, h, fun zx S1 x H1 hb o1 x1 r1 => ⟨τ, S1, _, rel.step o1 x1, hb, fun zy S2 y H2 hz o2 x2 r2 => by
      obtain ⟨w, e, hq⟩ := hz
      have fin := fun v H' o3 x3 r3 => k w S2 v H' hq o3 ((x1.trans x2).trans x3) r3
      have r1 := Rep.ext x2 _ _ r1
      unfold stepT at e
      split at e
      · rename_i ts i h1
        obtain rfl := res_id h1 fun _ z => nomatch z
        cases r2
        cases r1 with
        | tup a1 a2 =>
          refine ⟨i, rfl, i, rfl, _, rfl, .inl ⟨_, a1.sq, ?_⟩⟩
          split at e
          · rename_i hi
            obtain rfl := Option.some.inj e
            exact .inl ⟨hi, fin _ H2 o2 Ext.refl (.tup a1 a2)⟩
          · split at e
            · rename_i hi
              obtain rfl := Option.some.inj e
              exact .inr ⟨hi, fun p ob n nd => fin _ _ (o2.new n) (Ext.new n) (.tup (.inl ⟨ob, ⟨upd_same, nd⟩, o2.free n, o2.nom n⟩) (Reps.ext (Ext.new n) _ _ (Reps.rev a2)))⟩
            · cases e
      · rename_i ts i h1
        split at e
        · rename_i hi
          obtain rfl := Option.some.inj e
          cases r2
          obtain ⟨p1, xs, rfl, q1, s1⟩ := res_lst o2 r1 h1
          exact ⟨i, rfl, i, rfl, _, rfl, .inr ⟨_, SqL.of q1, hi, fun p n => fin _ _ (o2.new n) (Ext.new n) (.lst ⟨upd_same, o2.free n, o2.nom n⟩ (Reps.ext (Ext.new n) _ _ (Reps.rev s1)))⟩⟩
        · cases e
      · cases e⟩⟩
theorem opx_stepT : OpX' stepT := fun S x y r h => by
  unfold stepT at h ⊢
  cases x with
  | lst ts => exact h
  | tup ts => exact h
  | ref a => rw [res_ref_emp] at h; cases h
  | _ => cases h
end TL
namespace TL
open PySem PySem.Spec PyProof.Rows L2
/-- a written dict of the module: from texts to ints -/
structure TabOk (K : PySem.W.Frag) (w : World) (mg : Str → Option Value) (x : Str) (l : List (Str × Int)) : Prop where
  gm : mg x = some (.ref (He.ga K x))
  kd : ∃ es n, KDict K w (He.ga K x) es n
  vs : ∀ p ∈ l, ∃ u, PySem.W.nsIn K (He.ga K x) p.1 = some (some u) ∧ RelV (.int p.2) u
end TL
namespace TL
open PySem PySem.Spec PyProof.Rows L2
end TL
namespace TL
open PySem PySem.Spec PyProof.Rows L2
def intsT : List T → Option (List Int)
  | [] => some []
  | .int i :: ts => (intsT ts).map (i :: ·)
  | _ => none
theorem intsT_map {α : Type} {f : α → Int} : ∀ xs : List α, intsT (xs.map fun a => T.int (f a)) = some (xs.map f)
  | [] => rfl
  | x :: xs => by
    rw [List.map_cons, intsT, intsT_map xs]; rfl
theorem intsT_reps {G : Gd} {H : Hp} {S : Sto} : ∀ {ts : List T} {ns : List Int} {vs : List V}, intsT ts = some ns → Reps G H S ts vs → vs = ns.map V.int
  | [], _, _, e, r => by
    cases e
    cases r
    rfl
  | t :: ts, ns, _, e, r => by
    cases r with
    | cons a b =>
      cases t with
      | int i =>
        obtain ⟨ms, h1, rfl⟩ := Option.map_eq_some_iff.mp (show (intsT ts).map (i :: ·) = some ns from e)
        cases a
        rw [intsT_reps h1 b]
        rfl
      | _ => cases e
def maxI : List Int → Int
  | [] => 0
  | n :: ns => ns.foldl max n
def minI : List Int → Int
  | [] => 0
  | n :: ns => ns.foldl min n
theorem foldl_max_ge : ∀ (ns : List Int) (n : Int), n ≤ ns.foldl max n ∧ ∀ y ∈ ns, y ≤ ns.foldl max n
  | [], n => ⟨Int.le_refl _, nofun⟩
  | m :: ns, n => by
    obtain ⟨h1, h2⟩ := foldl_max_ge ns (max n m)
    have a := Int.le_max_left n m
    have b := Int.le_max_right n m
    refine ⟨by rw [List.foldl_cons]; omega, fun y hy => ?_⟩
    rw [List.foldl_cons]
    rcases List.mem_cons.mp hy with z | z
    · rw [z]; omega
    · exact h2 y z
theorem foldl_min_le : ∀ (ns : List Int) (n : Int), ns.foldl min n ≤ n ∧ ∀ y ∈ ns, ns.foldl min n ≤ y
  | [], n => ⟨Int.le_refl _, nofun⟩
  | m :: ns, n => by
    obtain ⟨h1, h2⟩ := foldl_min_le ns (min n m)
    have a := Int.min_le_left n m
    have b := Int.min_le_right n m
    refine ⟨by rw [List.foldl_cons]; omega, fun y hy => ?_⟩
    rw [List.foldl_cons]
    rcases List.mem_cons.mp hy with z | z
    · rw [z]; omega
    · exact h2 y z
theorem foldl_max_mem : ∀ (ns : List Int) (n : Int), ns.foldl max n = n ∨ ns.foldl max n ∈ ns
  | [], n => .inl rfl
  | m :: ns, n => by
    rw [List.foldl_cons]
    rcases foldl_max_mem ns (max n m) with h | h
    · rcases (by omega : max n m = n ∨ max n m = m) with z | z
      · exact .inl (h.trans z)
      · exact .inr (by rw [h, z]; exact .head _)
    · exact .inr (.tail _ h)
theorem foldl_min_mem : ∀ (ns : List Int) (n : Int), ns.foldl min n = n ∨ ns.foldl min n ∈ ns
  | [], n => .inl rfl
  | m :: ns, n => by
    rw [List.foldl_cons]
    rcases foldl_min_mem ns (min n m) with h | h
    · rcases (by omega : min n m = n ∨ min n m = m) with z | z
      · exact .inl (h.trans z)
      · exact .inr (by rw [h, z]; exact .head _)
    · exact .inr (.tail _ h)
theorem maxI_mem {ns : List Int} (h : ns ≠ []) : maxI ns ∈ ns := by
  cases ns with
  | nil => exact absurd rfl h
  | cons n ns =>
    rcases foldl_max_mem ns n with z | z
    · show ns.foldl max n ∈ _
      rw [z]; exact .head _
    · exact .tail _ z
theorem minI_mem {ns : List Int} (h : ns ≠ []) : minI ns ∈ ns := by
  cases ns with
  | nil => exact absurd rfl h
  | cons n ns =>
    rcases foldl_min_mem ns n with z | z
    · show ns.foldl min n ∈ _
      rw [z]; exact .head _
    · exact .tail _ z
theorem le_maxI {ns : List Int} {y : Int} (h : y ∈ ns) : y ≤ maxI ns := by
  cases ns with
  | nil => cases h
  | cons n ns =>
    obtain ⟨a, b⟩ := foldl_max_ge ns n
    rcases List.mem_cons.mp h with z | z
    · rw [z]; exact a
    · exact b y z
theorem minI_le {ns : List Int} {y : Int} (h : y ∈ ns) : minI ns ≤ y := by
  cases ns with
  | nil => cases h
  | cons n ns =>
    obtain ⟨a, b⟩ := foldl_min_le ns n
    rcases List.mem_cons.mp h with z | z
    · rw [z]; exact a
    · exact b y z
def max1F (S : Sto) : List T → Option T
  | [t] => match res S t with
    | .lst ts => (intsT ts).bind fun ns => if ns.isEmpty = true then none else some (.int (maxI ns))
    | _ => none
  | _ => none
/-- the least of some texts -/
def minN : List (List Sg) → List Sg
  | [] => []
  | x :: xs => xs.foldl (fun a y => if ltt (.str y) (.str a) = true then y else a) x
def minL (ts : List T) : Option T := match intsT ts with
  | some ns => if ns.isEmpty = true then none else some (.int (minI ns))
  | none => match strsOf ts with
    | some xs => if xs.isEmpty = true then none else some (.str (minN xs))
    | none => none
def min1F (S : Sto) : List T → Option T
  | [t] => match res S t with
    | .lst ts => minL ts
    | _ => none
  | _ => none
theorem minD_strs : ∀ (xs : List (List Sg)) (x : List Sg), PySem.W.minD (.str (txt x)) (xs.map fun y => PyData.str (txt y)) = .str (txt (minN (x :: xs)))
  | [], x => rfl
  | y :: ys, x => by
    have e : PySem.W.dataLt (.str (txt y)) (.str (txt x)) = ltt (.str y) (.str x) := ltt_dat (.str y) (.str x) rfl rfl rfl (fun h => nomatch h)
    show PySem.W.minD (if PySem.W.dataLt (.str (txt y)) (.str (txt x)) = true then .str (txt y) else .str (txt x)) (ys.map fun y => PyData.str (txt y)) = _
    rw [e]
    by_cases z : ltt (.str y) (.str x) = true
    · rw [if_pos z, minD_strs ys y]
      show _ = PyData.str (txt (ys.foldl _ (if ltt (.str y) (.str x) = true then y else x)))
      rw [if_pos z]
      rfl
    · rw [if_neg z, minD_strs ys x]
      show _ = PyData.str (txt (ys.foldl _ (if ltt (.str y) (.str x) = true then y else x)))
      rw [if_neg z]
      rfl
theorem reads_strs {h : Heap} : ∀ {xs : List (List Sg)} {us : List Value}, Vals (xs.map fun x => V.str (txt x)) us → ReadsAll h us (xs.map fun x => PyData.str (txt x)) []
  | [], us, r => by
    cases r
    exact .nil
  | x :: xs, us, r => by
    rw [List.map_cons] at r
    cases r with
    | cons a b =>
      obtain ⟨t, rfl⟩ := a
      exact .cons (as := []) (.str _ _) (reads_strs b)
theorem strs_reps {G : Gd} {H : Hp} {S : Sto} : ∀ {ts : List T} {xs : List (List Sg)} {vs : List V}, strsOf ts = some xs → Reps G H S ts vs → vs = xs.map fun x => V.str (txt x)
  | [], xs, vs, e, r => by
    cases e
    cases r
    rfl
  | t :: ts, xs, vs, e, r => by
    cases r with
    | cons a b =>
      cases t with
      | str x =>
        obtain ⟨ys, h1, rfl⟩ := Option.map_eq_some_iff.mp (show (strsOf ts).map (x :: ·) = some xs from e)
        cases a
        rw [strs_reps h1 b]
        rfl
      | _ => cases e
section
variable {X : Cx}
theorem ints_of {M : Addr → Prop} {H : Hp} {S : Sto} {t : T} {v : V} {ts : List T} {ns : List Int} (o : StoOk (gdOf X M) H S) (ry : Rep (gdOf X M) H S t v) (hz : res S t = .lst ts) (hi : intsT ts = some ns) : ∃ a, v = .ref a ∧ SqL X.K H a (ns.map V.int) := by
  obtain ⟨a, ws, rfl, h1, h2⟩ := res_lst o ry hz
  have hw := intsT_reps hi h2
  subst hw
  exact ⟨a, rfl, SqL.of h1⟩
theorem fn_max1 (hc : X.calm = true) : CallT X (.builtin "max") max1F := by
  intro pins s σ H xs us Q I r h
  obtain ⟨M, S, ts, t, o, rs, e, fin⟩ := h
  unfold max1F at e
  split at e
  · obtain ⟨v, rfl, ry⟩ := rs.one
    split at e
    · rename_i zs hz
      obtain ⟨ns, hi, e⟩ := Option.bind_eq_some_iff.mp e
      split at e
      · cases e
      · rename_i hne
        cases e
        have hne' : ns ≠ [] := fun z => hne (by rw [z]; rfl)
        obtain ⟨a, rfl, hs⟩ := ints_of o ry hz hi
        refine cr_max hc pins s σ H _ us Q I r ⟨a, ns, rfl, hs, List.length_pos_iff.mpr hne', fun m h1 h2 => ?_⟩
        obtain rfl : m = maxI ns := Int.le_antisymm (le_maxI h1) (h2 _ (maxI_mem hne'))
        exact fin _ _ o Ext.refl (.int _)
    · cases e
  · cases e
theorem fn_min1 (hc : X.calm = true) (hu : X.A.units + 64 < cLine) : CallT X (.builtin "min") min1F := by
  intro pins s σ H xs us Q I r h
  obtain ⟨M, S, ts, t, o, rs, e, fin⟩ := h
  unfold min1F at e
  split at e
  · obtain ⟨v, rfl, ry⟩ := rs.one
    split at e
    · rename_i zs hz
      unfold minL at e
      split at e
      · rename_i ns hi
        split at e
        · cases e
        · rename_i hne
          cases e
          have hne' : ns ≠ [] := fun z => hne (by rw [z]; rfl)
          obtain ⟨a, rfl, hs⟩ := ints_of o ry hz hi
          refine cr_min hc pins s σ H _ us Q I r ⟨a, ns, rfl, hs, List.length_pos_iff.mpr hne', fun m h1 h2 => ?_⟩
          obtain rfl : m = minI ns := Int.le_antisymm (h2 _ (minI_mem hne')) (minI_le h1)
          exact fin _ _ o Ext.refl (.int _)
      · split at e
        · rename_i ys hi
          split at e
          · cases e
          · rename_i hne
            cases e
            obtain ⟨a, ws, rfl, h1, h2⟩ := res_lst o ry hz
            obtain rfl := strs_reps hi h2
            obtain ⟨u, rfl, rx⟩ := L2.vals1 r
            cases rx
            obtain ⟨its, rv, pl, hl⟩ := I.list (SqL.of h1)
            cases ys with
            | nil => exact absurd rfl hne
            | cons y ys =>
              have rd : ReadsAll s.heap its.toArray.toList (PyData.str (txt y) :: ys.map fun x => PyData.str (txt x)) [] := by
                have := reads_strs (h := s.heap) rv
                simpa using this
              have lst : s.heap.IsList a its.toArray := by
                obtain ⟨ob, n, ho, hcl, _, hd⟩ := pl
                exact ⟨ob, ho, hcl, n, hd⟩
              have isS : ∀ x ∈ (PyData.str (txt y) :: ys.map fun x => PyData.str (txt x)), ∃ z : List Sg, x = .str (txt z) := fun x hx => by
                rcases List.mem_cons.mp hx with rfl | hx
                · exact ⟨y, rfl⟩
                · obtain ⟨z, _, rfl⟩ := List.mem_map.mp hx
                  exact ⟨z, rfl⟩
              have dp : ∀ l : List (List Sg), PyData.depthAll (l.map fun x => PyData.str (txt x)) = 0 := fun l => by
                induction l with
                | nil => rfl
                | cons z l ih => show max 0 (PyData.depthAll _) = 0; rw [ih]; rfl
              refine PySem.W.min_list_data (I.ok.hd hc) lst rd ⟨fun x hx z hz => ?_, fun x hx => ?_⟩ ?_ fun i v g tk bs hv hr kp => ?_
              · obtain ⟨a1, rfl⟩ := isS x hx
                obtain ⟨a2, rfl⟩ := isS z hz
                rfl
              · obtain ⟨a1, rfl⟩ := isS x hx
                exact fun h => nomatch h
              · have := dp (y :: ys)
                rw [List.map_cons] at this
                rw [this]
                omega
              · rw [minD_strs] at hr
                generalize hd : PyData.str (txt (minN (y :: ys))) = d at hr
                cases hr with
                | str x tt =>
                  injection hd with hd
                  subst hd
                  exact ⟨.str _, H, I.kept (t' := tk) kp, ⟨tt, rfl⟩, fin _ H o Ext.refl (.str _)⟩
                | _ => cases hd
        · cases e
    · cases e
  · cases e
end
theorem fnv_max1F : FnV max1F := fnv_one (fun x => match x with
  | .lst ts => (intsT ts).bind fun ns => if ns.isEmpty = true then none else some (.int (maxI ns))
  | _ => none) (fun _ _ => rfl) rfl (fun _ _ _ => rfl) (fun _ => rfl) fun _ _ _ => rfl
theorem fnv_min1F : FnV min1F := fnv_one (fun x => match x with
  | .lst ts => minL ts
  | _ => none) (fun _ _ => rfl) rfl (fun _ _ _ => rfl) (fun _ => rfl) fun _ _ _ => rfl
theorem max1F_l {ns : List Int} (h : ns ≠ []) : max1F emp [.lst (ns.map T.int)] = some (.int (maxI ns)) := by
  have e := intsT_map (f := fun a : Int => a) ns
  rw [List.map_id'] at e
  show (intsT (ns.map fun a => T.int a)).bind _ = _
  rw [e]
  show (if _ then _ else _) = _
  rw [if_neg (by cases ns with | nil => exact absurd rfl h | cons _ _ => exact Bool.false_ne_true)]
theorem min1F_l {ns : List Int} (h : ns ≠ []) : min1F emp [.lst (ns.map T.int)] = some (.int (minI ns)) := by
  have e := intsT_map (f := fun a : Int => a) ns
  rw [List.map_id'] at e
  show minL (ns.map fun a => T.int a) = _
  unfold minL
  rw [e]
  show (if _ then _ else _) = _
  rw [if_neg (by cases ns with | nil => exact absurd rfl h | cons _ _ => exact Bool.false_ne_true)]
end TL
namespace TL
open PySem PySem.Spec PyProof.Rows L2
theorem bkT_inj : ∀ A B : Bk, bkT A = bkT B → A = B := fun A B e => by
  unfold bkT at e
  simp only [T.tup.injEq, List.cons.injEq, and_true] at e
  obtain ⟨e1, e2, e3, e4⟩ := e
  have g1 : A.folk = B.folk := (List.map_inj_right ke_fk.inj).mp e1
  have g2 : A.unions = B.unions := (List.map_inj_right ke_fam.inj).mp e2
  have g3 : A.births = B.births := (List.map_inj_right ke_kin.inj).mp e3
  have g4 : A.adopts = B.adopts := (List.map_inj_right ke_kin.inj).mp e4
  cases A
  cases B
  simp only at g1 g2 g3 g4
  rw [g1, g2, g3, g4]
mutual
theorem Dt.plain : ∀ {n : Nat} (t : T), Dt n t → TL.plain t = true
  | _, _, .str _ _ => rfl
  | _, _, .int _ _ => rfl
  | _, _, .bl _ _ => rfl
  | _, .tup xs, .tup h _ => Dt.plains xs h
  | _, .lst xs, .lst h _ => Dt.plains xs h
theorem Dt.plains : ∀ {n : Nat} (ts : List T), (∀ x ∈ ts, Dt n x) → TL.plains ts = true
  | _, [], _ => rfl
  | _, t :: ts, h => by
    show (TL.plain t && TL.plains ts) = true
    rw [Dt.plain t (h t (.head _)), Dt.plains ts fun x hx => h x (.tail _ hx)]
    rfl
end
mutual
theorem Dt.dep : ∀ {n : Nat} (t : T), Dt n t → TL.dep t ≤ n
  | _, _, .str _ _ => Nat.zero_le _
  | _, _, .int _ _ => Nat.zero_le _
  | _, _, .bl _ _ => Nat.zero_le _
  | _, .tup xs, .tup h _ => Nat.succ_le_succ (Dt.deps xs h)
  | _, .lst xs, .lst h _ => Nat.succ_le_succ (Dt.deps xs h)
theorem Dt.deps : ∀ {n : Nat} (ts : List T), (∀ x ∈ ts, Dt n x) → TL.deps ts ≤ n
  | _, [], _ => Nat.zero_le _
  | _, t :: ts, h => Nat.max_le.mpr ⟨Dt.dep t (h t (.head _)), Dt.deps ts fun x hx => h x (.tail _ hx)⟩
end
theorem Dt.okd {n : Nat} {t : T} (h : Dt n t) (hn : n ≤ 64) : TL.okd t = true := by
  unfold TL.okd
  rw [Dt.plain t h, decide_eq_true (Nat.le_trans (Dt.dep t h) hn)]
  rfl
theorem nl_res {t : T} (h : plain t = true) : res emp t = t := by
  cases t <;> first | rfl | cases h
theorem Dt.eqT {n m : Nat} {x y : T} (h : Dt n x) (hn : n ≤ 64) (k : Dt m y) (hm : m ≤ 64) : TL.eqT emp x y = some (.bl (eqt x y)) := by
  unfold TL.eqT
  rw [nl_res (Dt.plain x h), nl_res (Dt.plain y k), h.okd hn, k.okd hm]
  rfl
theorem Dt.neT {n m : Nat} {x y : T} (h : Dt n x) (hn : n ≤ 64) (k : Dt m y) (hm : m ≤ 64) : TL.neT emp x y = some (.bl (!eqt x y)) := by
  unfold TL.neT
  rw [nl_res (Dt.plain x h), nl_res (Dt.plain y k), h.okd hn, k.okd hm]
  rfl
end TL
namespace TL
open PySem PySem.Spec PyProof.Rows L2
section
variable {X : Cx}
end
/-- what a def promises where nothing guards -/
structure FnG (P : Program) (w : World) (K : PySem.W.Frag) (mg : Str → Option Value) (base : Heap) (k : Nat) (f : Addr) (fd : FuncData) (ps : List Str) (sp : Sp) : Prop where
  run : ∀ (A : Around) (outer : List Env) (s : Shared) (H : Hp) (args : Args) (us : List Value) (vs : List V) (Q : VK) (E : XK), A.guards = some [] → Room k A → Env0 P w K mg base A outer s H → BindsTo s fd args (ps.zip us) → Vals vs us → sp vs H Q E →
    codeAny (model P w) A (.call (.ref f) args) (CR (L2N.CX P w) outer P w H s Q E) s
section
variable {P : Program} {w : World} {K : PySem.W.Frag} {mg : Str → Option Value} {base : Heap} {x qual : Str} {params : Arguments} {body : List Stmt} {scope : Scope} {f : Addr} {fd : FuncData} {N ps : List Str} {k : Nat} {c : TTS} {sp : SpT}
end
end TL
namespace TL
open PySem PySem.Spec PyProof.Rows L2
end TL
namespace TL
open PySem PySem.Spec PyProof.Rows L2
local macro_rules | `(tactic| simp_arith [$ts,*] $[$loc]?) => `(tactic| simp (implicitDefEqProofs := false) only [pu_bd, bd_bd, bd_pu, ofO_some, ofO_none, ofO_ite, stuck_bd, thr_bd, lft_pu, lft_bd, lft_gdc, lft_ite, lft_stuck, tb_bl, intO_int, itemsM_tup, itemsM_lst, itemsM_str, gd_c, gdc_T, compG_map, compA_pu, compA_gd, compA_if, compA_gdif, forM_map, forR_map, un2_tup, un3_tup, un4_tup, sum_inl, sum_inr, isStr_str, isTup_tup, joinF_l, joinF_t, strsOf_nil, strsOf_cons, strsOf_map, Option.bind_some, Option.bind_none, addT_int, addT_str, addT_lst, addT_tup, subT_int, mulT2_int, mulT2_str, fdivT_int, modT_int, powT_int, negT_int, eqT_int, neT_int, eqT_str, neT_str, eqT_bl, neT_bl, ltT_int, gtT_int, leT_int, geT_int, ixT_lst, ixT_tup, atI_0, atI_1, atI_2, atI_3, lenF_lst, lenF_tup, lenF_str, absF_int, intF_int, intF_bl, max2F_int, min2F_int, strF_int, isi_str, isi_int, isi_tup, isi_lst, slT_lst, slT_tup, slT_str, tupleF_lst, tupleF_tup, listF_lst, listF_tup, inT_strs, ninT_strs, inT_strsT, ninT_strsT, ite_pu, decide_eq_true_eq, Bool.not_eq_true', if_true, if_false, Bool.false_eq_true, Bool.true_eq_false, Option.map_some, Option.map_none, isbT_bl, isnbT_bl, $ts,*] $[$loc]?)
local macro_rules | `(tactic| simp_arith! [$ts,*] $[$loc]?) => `(tactic| simp (implicitDefEqProofs := false) only [pu_bd, bd_bd, bd_pu, ofO_some, ofO_none, ofO_ite, stuck_bd, thr_bd, lft_pu, lft_bd, lft_gdc, lft_ite, lft_stuck, tb_bl, intO_int, itemsM_tup, itemsM_lst, itemsM_str, gd_c, gdc_T, compG_map, compA_pu, compA_gd, compA_if, compA_gdif, forM_map, forR_map, un2_tup, un3_tup, un4_tup, sum_inl, sum_inr, isStr_str, isTup_tup, joinF_l, joinF_t, strsOf_nil, strsOf_cons, strsOf_map, Option.bind_some, Option.bind_none, addT_int, addT_str, addT_lst, addT_tup, subT_int, mulT2_int, mulT2_str, fdivT_int, modT_int, powT_int, negT_int, eqT_int, neT_int, eqT_str, neT_str, eqT_bl, neT_bl, ltT_int, gtT_int, leT_int, geT_int, ixT_lst, ixT_tup, atI_0, atI_1, atI_2, atI_3, lenF_lst, lenF_tup, lenF_str, absF_int, intF_int, intF_bl, max2F_int, min2F_int, strF_int, isi_str, isi_int, isi_tup, isi_lst, slT_lst, slT_tup, slT_str, tupleF_lst, tupleF_tup, listF_lst, listF_tup, inT_strs, ninT_strs, inT_strsT, ninT_strsT, ite_pu, decide_eq_true_eq, Bool.not_eq_true', if_true, if_false, Bool.false_eq_true, Bool.true_eq_false, Option.map_some, Option.map_none, isbT_bl, isnbT_bl, kis_non_non, kis_non_bool, kis_non_int, kis_non_str, kis_non_tup, kis_non_lst, kis_non_dct, kis_bool_non, kis_bool_bool, kis_bool_int, kis_bool_str, kis_bool_tup, kis_bool_lst, kis_bool_dct, kis_int_non, kis_int_bool, kis_int_int, kis_int_str, kis_int_tup, kis_int_lst, kis_int_dct, kis_str_non, kis_str_bool, kis_str_int, kis_str_str, kis_str_tup, kis_str_lst, kis_str_dct, kis_tup_non, kis_tup_bool, kis_tup_int, kis_tup_str, kis_tup_tup, kis_tup_lst, kis_tup_dct, kis_lst_non, kis_lst_bool, kis_lst_int, kis_lst_str, kis_lst_tup, kis_lst_lst, kis_lst_dct, kis_dct_non, kis_dct_bool, kis_dct_int, kis_dct_str, kis_dct_tup, kis_dct_lst, kis_dct_dct, isi_bl, isi_non, List.any_cons, List.any_nil, Bool.or_false, Bool.or_true, Bool.false_or, Bool.true_or, Bool.not_true, Bool.not_false, beq_self_eq_true, bne_self_eq_false, $ts,*] $[$loc]?)
local macro_rules | `(tactic| simp_all_arith [$ts,*]) => `(tactic| simp (implicitDefEqProofs := false) only [pu_bd, bd_bd, bd_pu, ofO_some, ofO_none, ofO_ite, stuck_bd, thr_bd, lft_pu, lft_bd, lft_gdc, lft_ite, lft_stuck, tb_bl, intO_int, itemsM_tup, itemsM_lst, itemsM_str, gd_c, gdc_T, compG_map, compA_pu, compA_gd, compA_if, compA_gdif, forM_map, forR_map, un2_tup, un3_tup, un4_tup, sum_inl, sum_inr, isStr_str, isTup_tup, joinF_l, joinF_t, strsOf_nil, strsOf_cons, strsOf_map, Option.bind_some, Option.bind_none, addT_int, addT_str, addT_lst, addT_tup, subT_int, mulT2_int, mulT2_str, fdivT_int, modT_int, powT_int, negT_int, eqT_int, neT_int, eqT_str, neT_str, eqT_bl, neT_bl, ltT_int, gtT_int, leT_int, geT_int, ixT_lst, ixT_tup, atI_0, atI_1, atI_2, atI_3, lenF_lst, lenF_tup, lenF_str, absF_int, intF_int, intF_bl, max2F_int, min2F_int, strF_int, isi_str, isi_int, isi_tup, isi_lst, slT_lst, slT_tup, slT_str, tupleF_lst, tupleF_tup, listF_lst, listF_tup, inT_strs, ninT_strs, inT_strsT, ninT_strsT, ite_pu, decide_eq_true_eq, Bool.not_eq_true', if_true, if_false, Bool.false_eq_true, Bool.true_eq_false, Option.map_some, Option.map_none, isbT_bl, isnbT_bl, extM_l, appM_c, compA_ifo, fkT, kinT, famT, List.cons_append, List.nil_append, $ts,*])
/-- a family's names, in either order -/
structure LFam (f : List Nm) : Prop where
  lo : 1 ≤ f.length
  hi : f.length ≤ 2
  nd : f.Nodup
  ok : ∀ x ∈ f, NameOk x
theorem LFam.rise {f : List Nm} (h : LFam f) : Rise ((srt T.str f).map T.str) := se_str.rise (fun _ _ => trivial) h.nd
theorem LFam.rev {f : List Nm} (h : LFam f) : LFam f.reverse := ⟨by rw [List.length_reverse]; exact h.lo, by rw [List.length_reverse]; exact h.hi, (List.reverse_perm f).nodup_iff.mpr h.nd, fun x hx => h.ok x (List.mem_reverse.mp hx)⟩
def addF (B : Bk) (p : Nm × Nm) : Bk := ⟨srt fkT (B.folk ++ [p]), B.unions, B.births, B.adopts⟩
def addU (B : Bk) (f : List Nm) : Bk := ⟨B.folk, srt famT (B.unions ++ [f]), B.births, B.adopts⟩
def addB (B : Bk) (b : Nm × List Nm) : Bk := ⟨B.folk, B.unions, srt kinT (B.births ++ [b]), B.adopts⟩
def addA (B : Bk) (b : Nm × List Nm) : Bk := ⟨B.folk, B.unions, B.births, srt kinT (B.adopts ++ [b])⟩
/-- the first of the names that the book lacks -/
def missing (B : Bk) (ns : List Nm) : Option Nm := ns.find? fun n => decide (n ∉ B.names)
def withU (B : Bk) (f : List Nm) : Bk := if f ∈ B.unions then B else addU B f
def xcT (c : Str) : T := .exc c [] []
def lackT (n : Nm) : T := .exc "NoName" ["name"] [.str n]
def putF (B : Bk) (p : Nm × Nm) : PM Unit T := if p.1 ∈ B.names then thr (xcT "Known") else if B.folk.length = 16 then thr (xcT "TooMuch") else pu (bkT (addF B p))
def putU (B : Bk) (f : List Nm) : PM Unit T := match missing B f with
  | some n => thr (lackT n)
  | none => if srt T.str f ∈ B.unions then thr (xcT "Known") else if B.unions.length = 16 then thr (xcT "TooMuch") else pu (bkT (addU B (srt T.str f)))
def putB (B : Bk) (b : Nm × List Nm) : PM Unit T := if b.1 ∈ b.2 then thr (xcT "NoRow") else match missing B (b.1 :: b.2) with
  | some n => thr (lackT n)
  | none => if (b.1, srt T.str b.2) ∈ B.births then thr (xcT "Known") else if srt T.str b.2 ∉ B.unions ∧ B.unions.length = 16 then thr (xcT "TooMuch") else
    if B.births.length = 24 then thr (xcT "TooMuch") else pu (bkT (addB (withU B (srt T.str b.2)) (b.1, srt T.str b.2)))
def putA (B : Bk) (b : Nm × List Nm) : PM Unit T := if b.1 ∈ b.2 then thr (xcT "NoRow") else match missing B (b.1 :: b.2) with
  | some n => thr (lackT n)
  | none => if (b.1, srt T.str b.2) ∈ B.adopts then thr (xcT "Known") else if srt T.str b.2 ∉ B.unions ∧ B.unions.length = 16 then thr (xcT "TooMuch") else
    if B.adopts.length = 12 then thr (xcT "TooMuch") else pu (bkT (addA (withU B (srt T.str b.2)) (b.1, srt T.str b.2)))
def putR (B : Bk) : Rw → PM Unit T
  | .fk p => putF B p
  | .un f => putU B f
  | .bo b => putB B b
  | .ad b => putA B b
theorem fam_l {B : Bk} (h : BkOk B) {f : List Nm} (hf : f ∈ B.unions) : LFam f := ⟨(h.un f hf).lo, (h.un f hf).hi, (h.un f hf).nd, fun x hx => h.nm ((h.un f hf).mem x hx)⟩
end TL
namespace TL
open PySem PySem.Spec PyProof.Rows L2
end TL
namespace TL
open PySem PySem.Spec PyProof.Rows L2
end TL
namespace TL
open PySem PySem.Spec PyProof.Rows L2
section
variable {X : Cx} {pins : List (Addr × Obj)} {s : Shared} {σ : L2.St} {H : Hp} {S : Sto} {M : Addr → Prop} {Q : VK}
end
section
variable {X : Cx} {e : Expr} {p apos cpos pos : Pos}
end
end TL
namespace TL
open PySem PySem.Spec PyProof.Rows L2
section
variable {X : Cx} {k v : Expr} {pos : Pos} {a b : List Sg}
end
section
variable {κ : Type} {W : κ → Sto} {p : TEnv} {l : Cs} {a b : List Sg}
end
end TL
namespace TL
open PySem PySem.Spec PyProof.Rows L2
section
variable {X : Cx}
end
end TL
namespace TL
open PySem PySem.Spec PyProof.Rows
open L2 hiding putF
end TL
namespace TL
open PySem PySem.Spec PyProof.Rows L2
section
variable {X : Cx} {pins : List (Addr × Obj)} {s : Shared} {σ : L2.St} {H : Hp} {M : Addr → Prop} {S : Sto}
end
section
variable {X : Cx}
end
end TL
namespace TL
open PySem PySem.Spec PyProof.Rows L2
end TL
namespace TL
open PySem PySem.Spec PyProof.Rows L2
section
variable {X : Cx} {k1 v1 k2 v2 k3 v3 : Expr} {pos : Pos} {a1 b1 a2 b2 a3 b3 : List Sg}
end
section
variable {κ : Type} {W : κ → Sto} {p : TEnv} {l : Cs} {a1 b1 a2 b2 a3 b3 : List Sg}
end
end TL
namespace TL
open PySem PySem.Spec PyProof.Rows L2
section
variable {κ : Type} {W : κ → Sto} {p : TEnv} {l : Cs} {a : TTE} {lo hi : TTO} {ma : PM κ T} {ml mh : PM κ (Option Int)}
end
end TL
namespace TL
open PySem PySem.Spec PyProof.Rows L2
section
variable {κ : Type} {W : κ → Sto} {p : TEnv} {β : Type}
end
end TL
namespace TL
open PySem PySem.Spec PyProof.Rows L2
section
variable {X : Cx} {o e : Expr} {to te : TTE} {apos cpos : Pos}
end
section
variable {κ : Type} {W : κ → Sto} {p : TEnv} {l : Cs} {β : Type} {u : TTS} {post : β → Dest}
end
end TL
namespace TL
open PySem PySem.Spec PyProof.Rows L2
section
variable {P : Program} {K : PySem.W.Frag} {w : World} {M M2 : Addr → Prop} {H H2 : Hp} {S S2 : Sto}
/-- what is not looked at while a list is to be new -/
def old (M : Addr → Prop) (H : Hp) (S : Sto) : Addr → Prop := fun a => M a ∨ S a ≠ none ∨ ∃ xs, H a = some (.lst xs)
end
section
variable {X : Cx} {k j : Nat} {ps : List Str} {sp : SpT} {x : Str} {p pos : Pos} {e : Expr} {es : List Expr} {ta : TTA}
end
end TL
namespace TL
open PySem PySem.Spec PyProof.Rows L2
/-- the lists of a store -/
def lsS (S : Sto) : Sto := fun a => match S a with
  | some (.lst ts) => some (.lst ts)
  | _ => none
theorem lsS_at {S : Sto} {a : Addr} {c : Cell} : lsS S a = some c ↔ S a = some c ∧ ∃ ts, c = .lst ts := by
  unfold lsS
  constructor
  · intro h
    split at h
    · rename_i ts e
      cases h
      exact ⟨e, ts, rfl⟩
    · cases h
  · rintro ⟨h, ts, rfl⟩
    rw [h]
def allL (l : Cs) : Bool := l.all fun e => match e.2 with
  | .lst _ => true
  | _ => false
theorem allL_at {l : Cs} (h : allL l = true) {e : Addr × Cell} (m : e ∈ l) : ∃ ts, e.2 = .lst ts := by
  have := List.all_eq_true.mp h e m
  cases q : e.2 with
  | lst ts => exact ⟨ts, rfl⟩
  | dct b ks vs => rw [q] at this; cases this
  | ins c ns ts => rw [q] at this; cases this
section
variable {p : TEnv} {l : Cs} {β : Type} {pa : Addr} {k : Cell} {S : Sto}
theorem SI.ls (hl : allL l = true) (hk : ∃ ts, k = Cell.lst ts) (i : SI (penW emp pa) l k S) : SI (penW emp pa) l k (lsS S) :=
  ⟨fun e m => lsS_at.mpr ⟨i.at_ e m, allL_at hl m⟩, i.own, i.nd, fun a c h => by
    refine lsS_at.mpr ⟨i.base a c h, ?_⟩
    by_cases e : a = pa
    · subst e
      have h : ups emp a k a = some c := h
      rw [ups_same] at h
      cases h
      exact hk
    · have h : ups emp pa k a = some c := h
      rw [ups_ne e] at h
      cases h⟩
variable {u : TTS} {post : β → Dest}
end
end TL
namespace TL
open PySem PySem.Spec PyProof.Rows L2
section
variable {X : Cx} {elt tg : Expr} {ifs : List Expr} {scope : Scope} {g : TTG} {tc : TTB} {te : TTE} {pos p spos py : Pos} {x y : Str} {i j : Nat} {ow : List (Str × Nat)}
end
end TL
namespace TL
open PySem PySem.Spec PyProof.Rows L2
def spQ (f : T → PM Cell T) : SpT := fun ts S Q E => ∃ x p c, ts = [x, .ref p] ∧ S p = some c ∧ Sat (f x c) (fun v c' => Q v (ups S p c')) (fun y c' => E y (ups S p c'))
theorem spQ_len {f : T → PM Cell T} : ∀ ts S Q E, spQ f ts S Q E → ts.length = 2 := fun ts S Q E ⟨x, p, c, e, _⟩ => by
  rw [e]
  rfl
theorem vc_q {N : List Str} {c : TTS} {f : T → PM Cell T} (h : ∀ S pa x, XS (penW S pa) (startT N [x, .ref pa]) [] c (f x) .rt) : VC N (spQ f) c := fun ts S Q E ⟨x, pa, k, e, hs, q⟩ => by
  subst e
  have i0 : SI (penW S pa) [] k S := by
    have := si_start (W := penW S pa) (k := k)
    rwa [show penW S pa k = S from ups_self hs] at this
  exact h S pa x _ _ k _ S (En.refl _) i0 (q.mono (fun v k' q l z S' i w => fin_of i w q) fun x k' q τ' S' i => ⟨_, i.base, q⟩)
/-- an item of the dict that is handed in -/
def penDg (y : T) : PM Cell T := fun c => match c with
  | .dct false ks vs => match dgT emp (.dct false ks vs) y with
    | some r => .ok r (.dct false ks vs)
    | none => .bad
  | _ => .bad
def penDput (y z : T) : PM Cell Unit := fun c => match c with
  | .dct false ks vs => match kyT y with
    | some k => if ks.length < sizeLine then .ok () (.dct false (dPk ks k y) (dPv ks vs k z)) else .bad
    | none => .bad
  | _ => .bad
/-- while f(x, d): pass -/
def whP {κ : Type} (g : PM Cell T) : Nat → List T × List T → PM κ (List T × List T)
  | 0, _ => stuck
  | n + 1, r => fun k => match g (.dct false r.1 r.2) with
    | .ok (.bl true) (.dct false ks vs) => whP g n (ks, vs) k
    | .ok (.bl false) (.dct false ks vs) => .ok (ks, vs) k
    | _ => .bad
section
variable {S0 : Sto} {pa : Addr} {p : TEnv} {l : Cs} {β : Type} {u : TTS} {post : β → Dest}
theorem xe_penDg {i : Nat} {e : TTE} {m : PM Cell T} (hp : p[i]? = some (some (.ref pa))) (he : XE (penW S0 pa) p l e m) : XE (penW S0 pa) p l (cOp dgT (cVar i) e) (bd m penDg) := fun Q E k τ S hE j s => by
  refine ⟨.ref pa, hE.get hp, ?_⟩
  refine he _ _ k τ S hE j ((Sat.bd.mp s).mono (fun y k1 s1 S1 i1 => ?_) fun _ _ q => q)
  have hb := i1.base pa k1 ups_same
  unfold penDg at s1
  split at s1
  · rename_i ks vs
    cases q : dgT emp (.dct false ks vs) y with
    | none => rw [q] at s1; exact s1.elim
    | some r =>
      rw [q] at s1
      exact ⟨r, opv_dgT S1 _ _ _ _ r (.inr (.inr ⟨pa, false, ks, vs, rfl, hb, rfl⟩)) (.inl rfl) q, s1 S1 i1⟩
  · exact s1.elim
theorem xs_penDput {i : Nat} {e ei : TTE} {m mi : PM Cell T} {f : PM Cell β} (hp : p[i]? = some (some (.ref pa))) (he : XE (penW S0 pa) p l e m) (hi : XE (penW S0 pa) p l ei mi) (h : XS (penW S0 pa) p l u f post) :
    XS (penW S0 pa) p l (cSeq (cDput (cVar i) ei e) u) (bd m fun z => bd mi fun y => bd (penDput y z) fun _ => f) post := fun D E k τ S hE j s => by
  refine he _ _ k τ S hE j ((Sat.bd.mp s).mono (fun z k1 s1 S1 i1 => ?_) fun x k1 q S1 i1 => q τ S1 i1)
  refine ⟨.ref pa, hE.get hp, ?_⟩
  refine hi _ _ k1 τ S1 hE i1 ((Sat.bd.mp s1).mono (fun y k2 s2 S2 i2 => ?_) fun x k1 q S1 i1 => q τ S1 i1)
  have hb := i2.base pa k2 ups_same
  have s3 := Sat.bd.mp s2
  unfold penDput at s3
  split at s3
  · rename_i ks vs
    cases q : kyT y with
    | none => simp only [q] at s3; exact s3.elim
    | some kk =>
      simp only [q] at s3
      by_cases hl : ks.length < sizeLine
      · rw [if_pos hl] at s3
        exact ⟨pa, ks, vs, kk, rfl, hb, rfl, hl, h D E _ τ _ hE i2.pen s3⟩
      · rw [if_neg hl] at s3
        exact s3.elim
  · exact s3.elim
end
section
variable {κ : Type} {W : κ → Sto} {p : TEnv} {l1 l2 : Cs}
theorem xs_whQ {iB iD n : Nat} {a : Addr} {x : T} {r0 : List T × List T} {g : T → PM Cell T} (hx : p[iB]? = some (some x)) (hd : p[iD]? = some (some (.ref a))) :
    XS W p (l1 ++ (a, .dct false r0.1 r0.2) :: l2) (cWhile (bVal (cCall (spQ g) (cCons (cVar iB) (cCons (cVar iD) cNil)))) (cSeq cSkip cSkip)) (whP (g x) n r0) (fun r => .nx p (l1 ++ (a, .dct false r.1 r.2) :: l2)) := fun D E k τ S hE i s => by
  refine ⟨fun m τ' S' => ∃ k' r, En p τ' ∧ SI W (l1 ++ (a, .dct false r.1 r.2) :: l2) k' S' ∧ Sat (whP (g x) m r k') (fun r k' => DOk W D k' (.nx p (l1 ++ (a, .dct false r.1 r.2) :: l2))) (fun x k' => ∀ τ' S', SI W [] k' S' → E x τ' S'), ⟨n, k, r0, hE, i, s⟩, ?_⟩
  rintro m τ1 S1 ⟨k1, r, hE1, i1, h1⟩
  cases m with
  | zero => exact h1.elim
  | succ m =>
    refine ⟨x, hE1.get hx, .ref a, hE1.get hd, x, a, .dct false r.1 r.2, rfl, i1.at_ (a, .dct false r.1 r.2) (by simp), ?_⟩
    unfold whP at h1
    split at h1
    · rename_i ks vs e
      rw [e]
      refine ⟨true, rfl, ?_⟩
      exact ⟨m, Nat.lt_succ_self m, k1, (ks, vs), hE1, i1.put, h1⟩
    · rename_i ks vs e
      rw [e]
      refine ⟨false, rfl, ?_⟩
      exact h1 τ1 _ hE1 i1.put
    · exact h1.elim
end
end TL
namespace TL
open PySem PySem.Spec PyProof.Rows L2
section
variable {prog : Program} {w : World} {A : Around} {E : Value → Shared → Prop} {s : Shared} {z TI TO i1 i2 T : Addr} {f : Bool} {oT : Obj} {fp1 fp2 : List Addr} {n1 n2 i : Nat} {P1 P2 : Nat → Value → Prop} {St1 St2 : Nat → Heap → Prop}
end
theorem SeB.at {b : Bool} {h h' : Heap} {l : Addr} {xs : Array Value} (x : SeB b h l xs) (k : ∀ o, h.get? l = some o → h'.get? l = some o) : SeB b h' l xs := by
  cases b
  · exact Heap.IsTuple.at x k
  · exact Heap.IsList.at x k
theorem SeB.there {b : Bool} {h : Heap} {l : Addr} {xs : Array Value} (x : SeB b h l xs) : ∃ o, h.get? l = some o := by
  cases b
  · obtain ⟨o, ho, _⟩ := x
    exact ⟨o, ho⟩
  · obtain ⟨o, ho, _⟩ := x
    exact ⟨o, ho⟩
section
variable {prog : Program} {w : World}
end
section
variable {X : Cx} {e e2 : Expr} {p p2 pos pos2 : Pos}
end
end TL
namespace TL
open PySem PySem.Spec PyProof.Rows L2
section
variable {prog : Program} {w : World} {A : Around} {E : Value → Shared → Prop} {s : Shared}
theorem depthAll_ints : ∀ ns : List Int, PyData.depthAll (ns.map PyData.int) = 0
  | [] => rfl
  | n :: ns => by
    show max 0 (PyData.depthAll (ns.map PyData.int)) = 0
    rw [depthAll_ints ns]
    rfl
theorem max_vals_raw {v d : Addr} {es : Array DictEntry} {ep : Nat} {n : Int} {ns : List Int} {Q : Value → Shared → Prop} (hh : A.handled = none) (hu : A.units + 64 < cLine) (hv : s.heap.IsValuesView v d) (hm : s.heap.DictRaw d es ep)
    (hr : ReadsAll s.heap (es.map (·.val)).toList ((n :: ns).map PyData.int) [])
    (h : ∀ t h' tk, (∀ b o, s.heap.get? b = some o → h'.get? b = some o) → Q (.int (ns.foldl max n) t) { s with heap := h', toks := tk }) :
    wpAny (model prog w) A (call (.builtin "max") [.ref v]) Q E s := by
  have hsz : (es.map (·.val)).size = ns.length + 1 := by
    have := PySem.W.readsAll_len hr
    simpa using this
  have hes : es.size = ns.length + 1 := by simpa using hsz
  have hdl : d < s.heap.objs.size := by obtain ⟨o, e, _⟩ := hm; exact Heap.lt_size e
  have hr' : ReadsAll s.heap (es.map (·.val)).toList (PyData.int n :: ns.map PyData.int) [] := hr
  have alike : PySem.W.AlikeAll (PyData.int n :: ns.map PyData.int) := by
    have isI : ∀ x ∈ (PyData.int n :: ns.map PyData.int), ∃ z : Int, x = .int z := fun x hx => by
      rcases List.mem_cons.mp hx with rfl | hx
      · exact ⟨n, rfl⟩
      · obtain ⟨z, _, rfl⟩ := List.mem_map.mp hx
        exact ⟨z, rfl⟩
    refine ⟨fun x hx z hz => ?_, fun x hx => ?_⟩
    · obtain ⟨a1, rfl⟩ := isI x hx
      obtain ⟨a2, rfl⟩ := isI z hz
      rfl
    · obtain ⟨a1, rfl⟩ := isI x hx
      exact fun h => nomatch h
  refine PySem.call_max_walkH (wpAny_pyIter_values_raw hv hm ?_)
  have W := (Walks.mono_item (P' := fun i v => (es.map (·.val))[i]? = some v) (Walks.rawValues (prog := prog) (w := w) (A := A.in1) hh s.heap.objs.size d (Nat.ne_of_lt hdl) es ep) fun i v hi ⟨hi', e⟩ => by
    rw [e, Array.getElem?_map, Array.getElem?_eq_getElem hi]
    rfl).toS
  refine ⟨_, _, _, _, _, _, _, s.heap, _, rfl, W, ⟨⟨_, Heap.get?_push_size _ rfl, rfl, rfl⟩, hm.at fun o e => Heap.get?_push_of_some _ e⟩, fun b hb => ?_, by omega, fun b o e hb => ?_, fun b o e => Heap.get?_push_of_some _ e, PySem.W.cmpIn_gt (A := A.in1) hr' alike ?_, fun v s' hP m => ?_⟩
  · show b < (s.heap.push _).objs.size
    rw [Heap.size_push]
    rcases List.mem_cons.mp hb with rfl | hb
    · exact Nat.lt_succ_self _
    · rcases List.mem_cons.mp hb with rfl | hb
      · exact Nat.lt_succ_of_lt hdl
      · cases hb
  · exact absurd (Heap.lt_size e) ((List.mem_singleton.mp hb) ▸ Nat.lt_irrefl _)
  · have := depthAll_ints (n :: ns)
    rw [List.map_cons] at this
    rw [this]
    show A.units + 1 + 0 < cLine
    omega
  · obtain ⟨h', tk, rfl, hk'⟩ := PySem.W.moved_old rfl rfl m
    obtain ⟨bs, r, _, _, _⟩ := PySem.W.readsAll_atA hr' _ v hP
    have e1 : es.size - 1 = (ns.map PyData.int).length := by rw [List.length_map]; omega
    have e2 := (PySem.W.argBest_fold (fun a b => PySem.W.dataLt b a) PyData.none (.int n) (ns.map PyData.int) (ns.map PyData.int).length (Nat.le_refl _)).2
    rw [List.take_length] at e2
    rw [e1, e2] at r
    have e3 : (ns.map PyData.int).foldl (fun a b => if PySem.W.dataLt a b = true then b else a) (PyData.int n) = .int (ns.foldl max n) := PySem.W.maxD_ints n ns
    rw [e3] at r
    cases r with
    | int _ t => exact h t h' tk hk'
end
def maxDT (S : Sto) (x : T) : Option T := (dView S x).bind fun p => (intsT p.2).bind fun ns => if ns.isEmpty = true then none else some (.int (maxI ns))
def tMaxVals (te : L2.TE) : L2.TE := fun σ H Q => te σ H fun x H1 => ∃ d kvs n ns, x = .ref d ∧ Rd H1 d (.dK kvs) ∧ kvs.map (·.2) = (n :: ns).map V.int ∧ Q (.int (maxI (n :: ns))) H1
theorem reads_ints {h : Heap} : ∀ {ns : List Int} {us : List Value}, Vals (ns.map V.int) us → ReadsAll h us (ns.map PyData.int) []
  | [], us, r => by
    cases r
    exact .nil
  | x :: xs, us, r => by
    rw [List.map_cons] at r
    cases r with
    | cons a b =>
      obtain ⟨t, rfl⟩ := a
      exact .cons (as := []) (.int _ _) (reads_ints b)
section
variable {X : Cx} {e : Expr} {p apos cpos pos : Pos}
theorem pe_maxVals {te : L2.TE} (hc : X.calm = true) (hu : X.A.units + 64 < cLine) (he : PE X e te) (hg : Gl X "max") (hm : X.mg "max" = none) (hv : bootBuiltins "max" = some (.builtin "max")) (hbase : attributeBase e "values" X.env (eval e X.env) = eval e X.env := by rfl) (hline : (apos.endLine == cpos.line) = true := by rfl)
    (hs : starEach [.Call (.Attribute e "values" apos) [] [] cpos] X.env = (false, eval (.Call (.Attribute e "values" apos) [] [] cpos) X.env) :: starEach [] X.env := by rfl) :
    PE X (.Call (.Name "max" p) [.Call (.Attribute e "values" apos) [] [] cpos] [] pos) (tMaxVals te) := by
  refine ⟨fun pins s σ H Q I hq => ?_⟩
  refine wpAny_Call_Name_kw (ld_blt I hg hm hv ?_)
  refine PyProof.Rows.callWith_builtin1 ?_ hs rfl
  rw [hs]
  show wpAny _ _ (spliced ((false, eval (.Call (.Attribute e "values" apos) [] [] cpos) X.env) :: backTo pos (starEach [] X.env))) _ _ s
  refine Calls.spliced_cons ?_
  refine wpAny_Call_method (T := "dict") (id := "dict.values") hbase rfl hline F.plainAttrs_dict F.slot_dict_values F.type_dict_values (thn (he.run pins s σ H _ I hq) fun u s1 ⟨x, H1, I1, rx, d, kvs, n, ns, ex, hd, hns, q⟩ => ?_)
  subst ex
  obtain rfl : u = Value.ref d := rx
  obtain ⟨hz, hs0, vs, kv, hdo⟩ := dk_rd I1.hok hd
  obtain ⟨es, ep, hraw, hsz, hes⟩ := hdo.raw
  have lk : kvs.length = vs.length := Paired.length kv
  have I2 : Inv X pins σ H1 { s1 with heap := s1.heap.push { cls := .type "dict_values", data := .fields #[.ref d] } } := I1.kept (t' := s1.toks) fun b ob q => Heap.get?_push_of_some _ q
  refine ⟨hdo.typeIs, hdo.mapOf.noDict, ?_⟩
  show wpAny _ _ (callWith cpos (.builtin "dict.values") [.ref d] [] []) _ X.xe s1
  refine method_meetsIn F.slot_dict_values F.entry_dict_values rfl (PySem.evalArgs_none ⟨rfl, hdo.typeIs, F.args_dict_values_1 _, _, meets_dict_values (mixKind X.prog X.w) d hs0, ⟨vs, hdo⟩, ?_⟩)
  refine Calls.spliced_nil ?_
  have rv : Vals ((n :: ns).map V.int) (es.map (·.val)).toList := by
    rw [← hns]
    refine vals_of_at (by simp [lk, hsz]) fun j x w h1 h2 => ?_
    rw [List.getElem?_map] at h1
    obtain ⟨kx, e1, e2⟩ := Option.map_eq_some_iff.mp h1
    obtain ⟨qv, g1, g2, g3⟩ := paired_get kv e1
    have hj : j < es.size := by
      have := (List.getElem?_eq_some_iff.mp g1).1
      omega
    rw [Array.getElem?_toList, Array.getElem?_map, Array.getElem?_eq_getElem hj] at h2
    have h2 : es[j].val = w := Option.some.inj h2
    have := (hes j hj qv.1 qv.2 g1).2
    rw [← h2, this, ← e2]
    exact g3
  refine max_vals_raw (I1.ok.hd hc) hu (v := s1.heap.objs.size) (d := d) (es := es) (ep := ep) (n := n) (ns := ns) ⟨_, Heap.get?_push_size _ rfl, rfl, rfl⟩ (hraw.at fun o e => Heap.get?_push_of_some _ e) (reads_ints rv) fun t h' tk hk => ?_
  exact ⟨.int _, H1, I2.kept (t' := tk) hk, ⟨_, rfl⟩, q⟩
theorem te_maxVals {te : TTE} (hc : X.calm = true) (hu : X.A.units + 64 < cLine) (he : TE X e te) (hg : Gl X "max") (hm : X.mg "max" = none) (hbase : attributeBase e "values" X.env (eval e X.env) = eval e X.env := by rfl) (hline : (apos.endLine == cpos.line) = true := by rfl)
    (hs : starEach [.Call (.Attribute e "values" apos) [] [] cpos] X.env = (false, eval (.Call (.Attribute e "values" apos) [] [] cpos) X.env) :: starEach [] X.env := by rfl) :
    TE X (.Call (.Name "max" p) [.Call (.Attribute e "values" apos) [] [] cpos] [] pos) (cUn maxDT te) := fun M S0 H0 E tk =>
  (pe_maxVals hc hu (he M S0 H0 E tk) hg hm (by rfl) hbase hline hs).weak fun σ H Q ⟨τ, S, Qt, rel, h, k⟩ => ⟨τ, S, _, rel, h, fun x S1 v H1 ⟨z, ez, hq⟩ o1 x1 r1 => by
    obtain ⟨p, hp, ez⟩ := Option.bind_eq_some_iff.mp ez
    obtain ⟨ns, hn, ez⟩ := Option.bind_eq_some_iff.mp ez
    obtain ⟨a, kvs, rfl, g1, g2, g3⟩ := dView_rep o1 r1 hp
    cases ns with
    | nil => cases ez
    | cons n ns =>
      cases ez
      exact ⟨a, kvs, n, ns, rfl, g1, intsT_reps hn g3, k _ S1 (.int _) _ hq o1 x1 (.int _)⟩⟩
theorem unv_maxDT : UnV maxDT := fun S z v r h e => by
  unfold maxDT at e ⊢
  obtain ⟨p, hp, e⟩ := Option.bind_eq_some_iff.mp e
  rw [dView_v h hp]
  exact e
end
end TL
namespace TL
open PySem PySem.Spec PyProof.Rows L2
section
variable {κ : Type} {W : κ → Sto} {p : TEnv} {l : Cs} {β : Type} {u : TTS} {post : β → Dest}
end
end TL
namespace TL
open PySem PySem.Spec PyProof.Rows L2 HotX
section
variable {κ : Type} {W : κ → Sto} {p : TEnv} {l : Cs} {β : Type} {u : TTS} {post : β → Dest}
end
section
variable {X : Cx} {body : List Stmt} {h₀ : ExceptHandler} {hds : List ExceptHandler} {pos : Pos}
end
section
variable {κ : Type} {W : κ → Sto} {p : TEnv} {l : Cs} {β : Type} {u : TTS} {post : β → Dest}
end
end TL
namespace TL
open PySem PySem.Spec PyProof.Rows L2
section
variable {X : Cx} {pins : List (Addr × Obj)} {s : Shared} {σ : L2.St} {H : Hp} {S : Sto} {M : Addr → Prop}
mutual
theorem nst_of (I : Inv X pins σ H s) : ∀ (t : T) (v : V) (u : Value) (k : NestedKey), Rep (gdOf X M) H S t v → RelV v u → keyOf t = some k → NestedIs s.heap k u
  | .non, _, _, _, r, q, e => by
    cases r; cases e
    obtain rfl := (show _ = Value.none from q)
    exact .none
  | .bl b, _, _, _, r, q, e => by
    cases r; cases e
    obtain rfl := (show _ = Value.bool b from q)
    exact .bool rfl
  | .int i, _, _, _, r, q, e => by
    cases r; cases e
    obtain ⟨t, rfl⟩ := q
    exact .int _ _
  | .str x, _, _, _, r, q, e => by
    cases r; cases e
    obtain ⟨t, rfl⟩ := q
    exact .text _ _
  | .tup ts, _, _, _, r, q, e => by
    obtain ⟨ks, hk, rfl⟩ := Option.map_eq_some_iff.mp (show (keysOf ts).map NestedKey.tup = some _ from e)
    cases r with
    | @tup a xs _ h1 h2 =>
      obtain rfl := (show _ = Value.ref a from q)
      obtain ⟨its, hv, ⟨ob, g1, g2, n, g4⟩, hz⟩ := I.tuple h1.sq
      exact .tup g1 g2 g4 (nst_all I ts xs its ks h2 hv hk)
  | .lst _, _, _, _, _, _, e => by cases e
  | .ref _, _, _, _, _, _, e => by cases e
  | .exc _ _ _, _, _, _, _, _, e => by cases e
  | .dct _ _ _, _, _, _, _, _, e => by cases e
  | .obj _ _ _, _, _, _, _, _, e => by cases e
  | .fn _, _, _, _, _, _, e => by cases e
  | .scr _, _, _, _, _, _, e => by cases e
theorem nst_all (I : Inv X pins σ H s) : ∀ (ts : List T) (vs : List V) (us : List Value) (ks : List NestedKey), Reps (gdOf X M) H S ts vs → Vals vs us → keysOf ts = some ks → NestedAll s.heap ks us
  | [], _, _, _, r, q, e => by
    cases r; cases q; cases e
    exact .nil
  | t :: ts, _, _, _, r, q, e => by
    cases r with
    | cons r1 r2 =>
      cases q with
      | cons q1 q2 =>
        unfold keysOf at e
        split at e
        · rename_i k ks h1 h2
          cases e
          exact .cons (nst_of I t _ _ k r1 q1 h1) (nst_all I ts _ _ ks r2 q2 h2)
        · cases e
end
end
abbrev Es := List (NestedKey × Addr × V)
def hsE (es : Es) (k : NestedKey) : Bool := es.any fun e => decide (e.1 = k)
def stE (es : Es) (k : NestedKey) (b : Addr) (v : V) : Es := if hsE es k = true then es.map (fun e => if e.1 = k then (e.1, e.2.1, v) else e) else es ++ [(k, b, v)]
def zf (es : Es) (us : List Value) : List (NestedKey × Addr × Value) := (es.zip us).map fun q => (q.1.1, q.1.2.1, q.2)
theorem zf_keys : ∀ {es : Es} {us : List Value}, es.length = us.length → (zf es us).map (·.1) = es.map (·.1)
  | [], _, _ => rfl
  | _ :: _, [], h => by cases h
  | e :: es, u :: us, h => by
    have := zf_keys (es := es) (us := us) (by simpa using h)
    unfold zf at this ⊢
    rw [List.zip_cons_cons, List.map_cons, List.map_cons, this]
    rfl
theorem at_zf (k : NestedKey) : ∀ {es : Es} {us : List Value}, es.length = us.length → (atKey (zf es us) k).isSome = hsE es k
  | [], _, _ => rfl
  | _ :: _, [], h => by cases h
  | e :: es, u :: us, h => by
    have ih := at_zf k (es := es) (us := us) (by simpa using h)
    unfold atKey zf hsE at *
    rw [List.zip_cons_cons, List.map_cons, List.find?_cons, List.any_cons]
    by_cases q : e.1 = k
    · simp [q]
    · simp only [q, decide_false, Bool.false_or]
      exact ih
theorem st_zip {k : NestedKey} {b : Addr} {v : V} {u : Value} (r : RelV v u) {es : Es} {us : List Value} (h : Vals (es.map (·.2.2)) us) :
    ∃ us', Vals ((stE es k b v).map (·.2.2)) us' ∧ storedH (zf es us) k b u = zf (stE es k b v) us' := by
  have hl : es.length = us.length := by have := h.length; rwa [List.length_map] at this
  unfold storedH stE
  rw [at_zf k hl]
  by_cases q : hsE es k = true
  · rw [if_pos q, if_pos q]
    clear q hl
    induction es generalizing us with
    | nil =>
      cases h
      exact ⟨[], .nil, rfl⟩
    | cons e es ih =>
      cases h with
      | @cons _ u0 _ us h1 h2 =>
        obtain ⟨us', i1, i2⟩ := ih h2
        by_cases z : e.1 = k
        · refine ⟨u :: us', ?_, ?_⟩
          · rw [List.map_cons, if_pos z]
            exact .cons r i1
          · unfold zf at i2 ⊢
            rw [List.zip_cons_cons, List.map_cons, List.map_cons, i2, List.map_cons, if_pos z, List.zip_cons_cons, List.map_cons]
            simp [putAt, z]
        · refine ⟨u0 :: us', ?_, ?_⟩
          · rw [List.map_cons, if_neg z]
            exact .cons h1 i1
          · unfold zf at i2 ⊢
            rw [List.zip_cons_cons, List.map_cons, List.map_cons, i2, List.map_cons, if_neg z, List.zip_cons_cons, List.map_cons]
            simp [putAt, z]
  · rw [if_neg q, if_neg q]
    refine ⟨us ++ [u], ?_, ?_⟩
    · rw [List.map_append]
      exact h.append (.cons r .nil)
    · unfold zf
      rw [List.zip_append hl, List.map_append]
      rfl
theorem stE_len {es : Es} {k : NestedKey} {b : Addr} {v : V} : (stE es k b v).length ≤ es.length + 1 := by
  unfold stE
  split
  · rw [List.length_map]; omega
  · rw [List.length_append]; exact Nat.le_refl _
theorem stE_mem {es : Es} {k : NestedKey} {b : Addr} {v : V} {e : NestedKey × Addr × V} (h : e ∈ stE es k b v) : e.1 = k ∨ ∃ f ∈ es, f.1 = e.1 := by
  unfold stE at h
  split at h
  · obtain ⟨f, hf, rfl⟩ := List.mem_map.mp h
    refine .inr ⟨f, hf, ?_⟩
    split <;> rfl
  · rcases List.mem_append.mp h with h | h
    · exact .inr ⟨e, h, rfl⟩
    · rw [List.mem_singleton.mp h]; exact .inl rfl

def nLk : List T → List T → NestedKey → Option T
  | k :: ks, v :: vs, x => if keyOf k = some x then some v else nLk ks vs x
  | _, _, _ => none
def nHs : List T → NestedKey → Bool
  | k :: ks, x => if keyOf k = some x then true else nHs ks x
  | [], _ => false
def nRp : List T → List T → NestedKey → T → List T
  | k :: ks, v :: vs, x, y => (if keyOf k = some x then y else v) :: nRp ks vs x y
  | _, _, _, _ => []
def nPk (ks : List T) (x : NestedKey) (t : T) : List T := if nHs ks x = true then ks else ks ++ [t]
def nPv (ks vs : List T) (x : NestedKey) (y : T) : List T := if nHs ks x = true then nRp ks vs x y else vs ++ [y]
/-- a key that is a tuple -/
def tky : T → Option NestedKey
  | .tup ts => match keyOf (.tup ts) with
    | some k => if k.depth ≤ 8 then some k else none
    | none => none
  | _ => none
theorem tky_of {t : T} {k : NestedKey} (e : tky t = some k) : (∃ ts, t = .tup ts) ∧ keyOf t = some k ∧ k.depth ≤ 8 := by
  unfold tky at e
  split at e
  · split at e
    · rename_i ts k' h
      split at e
      · cases e; exact ⟨⟨_, rfl⟩, h, by assumption⟩
      · cases e
    · cases e
  · cases e
def dnk : List T → Bool
  | [] => false
  | _ :: _ => true
def nView (S : Sto) : T → Option (List T × List T)
  | .dct true ks vs => some (ks, vs)
  | .dct false [] [] => some ([], [])
  | .ref a => match S a with
    | some (.dct true ks vs) => some (ks, vs)
    | some (.dct false [] []) => some ([], [])
    | _ => none
  | _ => none
def tgT (S : Sto) (x y : T) : Option T := match nView S x, tky y with
  | some p, some k => nLk p.1 p.2 k
  | _, _ => none
def cTput (o i e : TTE) : TTS := fun D τ S E => e τ S (fun z S1 => o τ S1 (fun x S2 => i τ S2 (fun y S3 => ∃ a ks vs k, x = .ref a ∧ S3 a = some (.dct (dnk ks) ks vs) ∧ tky y = some k ∧ ks.length < sizeLine ∧ D.nx τ (ups S3 a (.dct true (nPk ks k y) (nPv ks vs k z))))
  (fun x S' => E x τ S')) (fun x S' => E x τ S')) (fun x S' => E x τ S')
section
variable {G : Gd} {H : Hp} {S : Sto}
theorem hs_repN : ∀ {ks : List T} {es : Es} (k : NestedKey), keysOf ks = some (es.map (·.1)) → hsE es k = nHs ks k
  | [], es, k, e => by
    have : es = [] := by cases es with
      | nil => rfl
      | cons a b => cases e
    subst this
    rfl
  | t :: ks, es, k, e => by
    unfold keysOf at e
    split at e
    · rename_i k' ks' h1 h2
      cases es with
      | nil => cases e
      | cons f es =>
        rw [List.map_cons] at e
        injection e with e
        injection e with e1 e2
        subst e1
        have ih := hs_repN (ks := ks) (es := es) k (by rw [h2, e2])
        unfold hsE at ih ⊢
        unfold nHs
        rw [h1, List.any_cons]
        by_cases q : f.1 = k
        · rw [if_pos (by rw [q])]; simp [q]
        · rw [if_neg (fun z => q (Option.some.inj z))]; simp only [q, decide_false, Bool.false_or]; exact ih
    · cases e
theorem keysOf_len : ∀ {ks : List T} {es : List NestedKey}, keysOf ks = some es → ks.length = es.length
  | [], es, e => by cases e; rfl
  | t :: ks, es, e => by
    unfold keysOf at e
    split at e
    · rename_i k' ks' h1 h2
      cases e
      rw [List.length_cons, List.length_cons, keysOf_len h2]
    · cases e
theorem keysOf_app : ∀ {ks : List T} {es : List NestedKey} {t : T} {k : NestedKey}, keysOf ks = some es → keyOf t = some k → keysOf (ks ++ [t]) = some (es ++ [k])
  | [], es, t, k, e, h => by
    cases e
    unfold keysOf
    rw [List.nil_append]
    unfold keysOf
    simp [h, keysOf]
  | x :: ks, es, t, k, e, h => by
    unfold keysOf at e
    split at e
    · rename_i k' ks' h1 h2
      cases e
      rw [List.cons_append]
      unfold keysOf
      rw [h1, keysOf_app h2 h]
      rfl
    · cases e
theorem rp_repN : ∀ {ks vs : List T} {es : Es} (k : NestedKey) {y : T} {v : V}, keysOf ks = some (es.map (·.1)) → Reps G H S vs (es.map (·.2.2)) → Rep G H S y v →
    Reps G H S (nRp ks vs k y) ((es.map fun e => if e.1 = k then (e.1, e.2.1, v) else e).map (·.2.2))
  | [], vs, es, k, y, v, e, r, ry => by
    have : es = [] := by cases es with
      | nil => rfl
      | cons a b => cases e
    subst this
    cases r
    exact .nil
  | t :: ks, vs, es, k, y, v, e, r, ry => by
    unfold keysOf at e
    split at e
    · rename_i k' ks' h1 h2
      cases es with
      | nil => cases e
      | cons f es =>
        rw [List.map_cons] at e
        injection e with e
        injection e with e1 e2
        subst e1
        cases r with
        | cons r1 r2 =>
          have ih := rp_repN (ks := ks) (es := es) k (y := y) (v := v) (by rw [h2, e2]) r2 ry
          unfold nRp
          rw [h1, List.map_cons]
          by_cases q : f.1 = k
          · rw [if_pos (by rw [q]), if_pos q, List.map_cons]
            exact .cons ry ih
          · rw [if_neg (fun z => q (Option.some.inj z)), if_neg q, List.map_cons]
            exact .cons r1 ih
    · cases e
theorem put_repN {ks vs : List T} {es : Es} {t y : T} {k : NestedKey} {b : Addr} {v : V} (hk : keysOf ks = some (es.map (·.1))) (r1 : Reps G H S ks (es.map fun e => V.ref e.2.1)) (r2 : Reps G H S vs (es.map (·.2.2)))
    (ek : keyOf t = some k) (ht : Rep G H S t (.ref b)) (r : Rep G H S y v) :
    keysOf (nPk ks k t) = some ((stE es k b v).map (·.1)) ∧ Reps G H S (nPk ks k t) ((stE es k b v).map fun e => V.ref e.2.1) ∧ Reps G H S (nPv ks vs k y) ((stE es k b v).map (·.2.2)) := by
  unfold nPk nPv stE
  rw [hs_repN k hk]
  by_cases q : nHs ks k = true
  · rw [if_pos q, if_pos q, if_pos q]
    have e1 : (es.map fun e => if e.1 = k then (e.1, e.2.1, v) else e).map (·.1) = es.map (·.1) := by
      rw [List.map_map]
      exact List.map_congr_left fun e _ => by
        show (if e.1 = k then (e.1, e.2.1, v) else e).1 = e.1
        split <;> rfl
    have e2 : (es.map fun e => if e.1 = k then (e.1, e.2.1, v) else e).map (fun e => V.ref e.2.1) = es.map fun e => V.ref e.2.1 := by
      rw [List.map_map]
      exact List.map_congr_left fun e _ => by
        show V.ref (if e.1 = k then (e.1, e.2.1, v) else e).2.1 = V.ref e.2.1
        split <;> rfl
    rw [e1, e2]
    exact ⟨hk, r1, rp_repN k hk r2 r⟩
  · rw [if_neg q, if_neg q, if_neg q, List.map_append, List.map_append, List.map_append]
    exact ⟨keysOf_app hk ek, r1.append (.cons ht .nil), r2.append (.cons r .nil)⟩
theorem lk_repN : ∀ {ks vs : List T} {es : Es} {us : List Value} (k : NestedKey) {t : T}, keysOf ks = some (es.map (·.1)) → Reps G H S vs (es.map (·.2.2)) → Vals (es.map (·.2.2)) us → nLk ks vs k = some t →
    ∃ b u v, atKey (zf es us) k = some (b, u) ∧ RelV v u ∧ Rep G H S t v
  | [], vs, es, us, k, t, e, r, q, h => by cases h
  | x :: ks, vs, es, us, k, t, e, r, q, h => by
    unfold keysOf at e
    split at e
    · rename_i k' ks' h1 h2
      cases es with
      | nil => cases e
      | cons f es =>
        rw [List.map_cons] at e
        injection e with e
        injection e with e1 e2
        subst e1
        cases r with
        | cons r1 r2 =>
          cases q with
          | cons q1 q2 =>
            unfold nLk at h
            rw [h1] at h
            unfold atKey zf
            rw [List.zip_cons_cons, List.map_cons, List.find?_cons]
            by_cases z : f.1 = k
            · rw [if_pos (by rw [z])] at h
              cases h
              simp only [z, decide_true, Option.map_some]
              exact ⟨_, _, _, rfl, q1, r1⟩
            · rw [if_neg (fun y => z (Option.some.inj y))] at h
              simp only [z, decide_false]
              exact lk_repN k (by rw [h2, e2]) r2 q2 h
    · cases e
end
section
variable {X : Cx} {pins : List (Addr × Obj)} {s : Shared} {σ : L2.St} {H : Hp} {S : Sto} {M : Addr → Prop}
/-- a dict's entries, be it one by tuples or an empty one -/
def NAt (X : Cx) (M : Addr → Prop) (H : Hp) (S : Sto) (a : Addr) (p : List T × List T) (es : Es) : Prop :=
  (Rd H a (dN X.w a es) ∨ (es = [] ∧ Rd H a (.dK []))) ∧ keysOf p.1 = some (es.map (·.1)) ∧ Reps (gdOf X M) H S p.1 (es.map fun e => V.ref e.2.1) ∧ Reps (gdOf X M) H S p.2 (es.map (·.2.2))
theorem nat_cell (o : StoOk (gdOf X M) H S) {a : Addr} {ks vs : List T} (e : S a = some (.dct (dnk ks) ks vs)) : ∃ es, NAt X M H S a (ks, vs) es ∧ ((H a = some (dN X.w a es)) ∨ (es = [] ∧ H a = some (.dK []))) := by
  cases ks with
  | cons k ks =>
    obtain ⟨es, h1, h2, h3, h4⟩ := o.at_ a _ (show S a = some (.dct true (k :: ks) vs) from e)
    exact ⟨es, ⟨.inl (.inl h1), h2, h3, h4⟩, .inl h1⟩
  | nil =>
    obtain ⟨kvs, h1, h2, h3⟩ := o.at_ a _ (show S a = some (.dct false [] vs) from e)
    have : kvs = [] := by
      cases kvs with
      | nil => rfl
      | cons a b => cases h2
    subst this
    cases h3
    exact ⟨[], ⟨.inr ⟨rfl, .inl h1⟩, rfl, .nil, .nil⟩, .inr ⟨rfl, h1⟩⟩
theorem nView_rep {x : T} {v : V} {p : List T × List T} (o : StoOk (gdOf X M) H S) (r : Rep (gdOf X M) H S x v) (e : nView S x = some p) : ∃ a es, v = .ref a ∧ NAt X M H S a p es := by
  cases r with
  | dN h1 h2 h3 h4 => cases e; exact ⟨_, _, rfl, .inl h1.1, h2, h3, h4⟩
  | @dK a kvs ks vs h1 h2 h3 =>
    unfold nView at e
    split at e
    · rename_i z; cases z
    · rename_i z
      cases z
      cases e
      have : kvs = [] := by
        cases kvs with
        | nil => rfl
        | cons a b => cases h2
      subst this
      exact ⟨a, [], rfl, .inr ⟨rfl, h1.1⟩, rfl, .nil, .nil⟩
    · rename_i z; cases z
    · cases e
  | ref a =>
    unfold nView at e
    simp only at e
    cases q : S a with
    | none => rw [q] at e; cases e
    | some c =>
      rw [q] at e
      cases c with
      | dct n ks vs =>
        cases n with
        | true =>
          cases e
          obtain ⟨es, h1, h2, h3, h4⟩ := o.at_ a _ q
          exact ⟨a, es, rfl, .inl (.inl h1), h2, h3, h4⟩
        | false =>
          cases ks with
          | cons _ _ => cases e
          | nil =>
            cases vs with
            | cons _ _ => cases e
            | nil =>
              cases e
              obtain ⟨es, h1, _⟩ := nat_cell o (ks := []) (vs := []) q
              exact ⟨a, es, rfl, h1⟩
      | _ => cases e
  | _ => cases e
theorem nkeys_is (I : Inv X pins σ H s) : ∀ {ks : List T} {es : Es}, keysOf ks = some (es.map (·.1)) → Reps (gdOf X M) H S ks (es.map fun e => V.ref e.2.1) → ∀ e ∈ es, NestedIs s.heap e.1 (.ref e.2.1)
  | [], es, h, _, e, he => by
    have : es = [] := by cases es with
      | nil => rfl
      | cons a b => cases h
    subst this
    cases he
  | t :: ks, es, h, r, e, he => by
    unfold keysOf at h
    split at h
    · rename_i k' ks' h1 h2
      cases es with
      | nil => cases h
      | cons f es =>
        rw [List.map_cons] at h
        injection h with h
        injection h with e1 e2
        subst e1
        cases r with
        | cons r1 r2 =>
          rcases List.mem_cons.mp he with rfl | he
          · exact nst_of I t _ _ _ r1 rfl h1
          · exact nkeys_is I (by rw [h2, e2]) r2 e he
    · cases h
theorem dN_at {a : Addr} {es : Es} {h : Heap} {P : Program} {w : World} (x : Rd H a (dN w a es)) (k : HOk P w H h) : rawN w a es h := by
  have z : ObjOk P w H h a (dN w a es) := x.elim (fun e => k a _ e) fun ⟨o, e⟩ => (show ObjOk P w H h a (.frz o (dN w a es)) from k a _ e).2
  exact z.1
/-- as the kit's rules want it -/
theorem nat_of (I : Inv X pins σ H s) {a : Addr} {p : List T × List T} {es : Es} (h : NAt X M H S a p es) :
    es.length ≤ sizeLine ∧ (a == sysModules) = false ∧ (∀ e ∈ es, e.1.depth ≤ 8) ∧ ∃ us, Vals (es.map (·.2.2)) us ∧ s.heap.DictOfH (nestedKind X.prog X.w) a (zf es us) := by
  obtain ⟨h1, hk, r1, r2⟩ := h
  rcases h1 with h1 | ⟨rfl, h1⟩
  · obtain ⟨l, ns, dep, nd, us, hv, o, en, ep, g1, g2, g3, g4⟩ := dN_at h1 I.hok
    have hl : es.length = us.length := by have := hv.length; rwa [List.length_map] at this
    refine ⟨l, ns, dep, us, hv, o, en, ep, g1, g2, g3, ?_, fun x hx => ?_, by rw [zf_keys hl]; exact nd⟩
    · rw [g4]
      unfold zf
      rw [List.map_map]
      rfl
    · unfold zf at hx
      obtain ⟨⟨e, u⟩, hq, rfl⟩ := List.mem_map.mp hx
      have he := (List.of_mem_zip hq).1
      exact ⟨nkeys_is I hk r1 e he, dep e he⟩
  · obtain ⟨z, hd, vs, kv, dd⟩ := dk_rd I.hok h1
    cases kv
    refine ⟨Nat.zero_le _, hd, nofun, [], .nil, ?_⟩
    obtain ⟨o, es, ep, ho, hc, hdt, hs, hp, hn⟩ := dd
    have : es.toList = [] := by
      cases q : es.toList with
      | nil => rfl
      | cons a b => rw [q] at hp; cases hp
    exact ⟨o, es, ep, ho, hc, hdt, this, nofun, .nil⟩
theorem nroom {A : Around} (hu : A.units + 64 < cLine) : (nestedKind X.prog X.w).room A.in1 := by
  show A.units + 1 + 8 < cLine
  omega
variable {a b o i e : Expr} {ta tb to ti te : TTE} {pos pos' apos cpos p : Pos}
theorem te_tg (hu : X.A.units + 64 < cLine) (ha : TE X a ta) (hb : TE X b tb) (hs : NoSl b := by intro _ _; rfl) : TE X (.Subscript a b pos) (cOp tgT ta tb) := fun M S0 H0 E tk => by
  refine ⟨fun pins s σ H Q I hq => ?_⟩
  obtain ⟨τ, S, Qt, rel, h, k⟩ := hq
  refine subD_of F.slot_dict_getitem.lookup hs (thn ((ha M S0 H0 E tk).run pins s σ H (fun v H1 => ∃ z S1, (tb τ S1 (fun y S2 => ∃ w, tgT S2 z y = some w ∧ Qt w S2) fun x S' => E x τ S') ∧ StoOk (gdOf X M) H1 S1 ∧ Ext S H S1 H1 ∧ Rep (gdOf X M) H1 S1 z v) I
    ⟨τ, S, _, rel, h, fun z S1 v H1 hz o1 x1 r1 => ⟨z, S1, hz, o1, x1, r1⟩⟩) fun u s1 ⟨x, H1, I1, rx, z, S1, h1, o1, x1, r1⟩ => ?_)
  refine thn ((hb M S0 H0 E tk).run pins s1 σ H1 (fun v H2 => ∃ y S2, (∃ w, tgT S2 z y = some w ∧ Qt w S2) ∧ StoOk (gdOf X M) H2 S2 ∧ Ext S1 H1 S2 H2 ∧ Rep (gdOf X M) H2 S2 y v) I1
    ⟨τ, S1, _, rel.step o1 x1, h1, fun y S2 v H2 hy o2 x2 r2 => ⟨y, S2, hy, o2, x2, r2⟩⟩) fun iv s2 ⟨yv, H2, I2, ry, y, S2, ⟨w, ew, hw⟩, o2, x2, r2⟩ => ?_
  unfold tgT at ew
  split at ew
  · rename_i pp kk h1 h2
    obtain ⟨d, es, rfl, na⟩ := nView_rep o2 (Rep.ext x2 _ _ r1) h1
    obtain rfl : u = Value.ref d := rx
    obtain ⟨hl, hd, _, us, hv, dd⟩ := nat_of I2 na
    obtain ⟨⟨ts, rfl⟩, hk, dep⟩ := tky_of h2
    have ni := nst_of I2 _ _ _ kk r2 ry hk
    obtain ⟨bb, u', v', e1, e2, e3⟩ := lk_repN kk na.2.1 na.2.2.2 hv ew
    cases r2 with
    | @tup aa xs _ q1 q2 =>
      obtain rfl : iv = Value.ref aa := ry
      refine ⟨dd.typeIs, wpAny_getItem_heap (nroom hu) ⟨ni, dep⟩ dd e1 ?_⟩
      exact ⟨v', H2, I2.tok _, e2, k w S2 v' H2 hw o2 (x1.trans x2) e3⟩
  · cases ew
/-- d[k] = v on an entry list -/
theorem n_set (hu : X.A.units + 64 < cLine) (I : Inv X pins σ H s) {d b : Addr} {p : List T × List T} {es : Es} {k : NestedKey} {v : V} {u : Value} (na : NAt X M H S d p es) (hH : (H d = some (dN X.w d es)) ∨ (es = [] ∧ H d = some (.dK [])))
    (ni : NestedIs s.heap k (.ref b)) (dep : k.depth ≤ 8) (hl : es.length < sizeLine) (rv : RelV v u) {Q : Unit → Shared → Prop} {E : Value → Shared → Prop} (h : ∀ s', Inv X pins σ (upd H d (dN X.w d (stE es k b v))) s' → Q () s') :
    wpAny (model X.prog X.w) X.A (setItem (.ref d) (.ref b) u) Q E s := by
  obtain ⟨_, hd, dp, us, hv, dd⟩ := nat_of I na
  have hlen : es.length = us.length := by have := hv.length; rwa [List.length_map] at this
  have hz : (zf es us).length ≤ sizeLine := by
    unfold zf
    rw [List.length_map, List.length_zip]
    omega
  refine wpAny_setItem_heap (hsz := hz) (nroom hu) ⟨ni, dep⟩ dd fun h' hm' hs => h _ ?_
  obtain ⟨us', i1, i2⟩ := st_zip (k := k) (b := b) rv hv
  rw [i2] at hm'
  have hl' : (stE es k b v).length = us'.length := by have := i1.length; rwa [List.length_map] at this
  obtain ⟨o, en, ep, g1, g2, g3, g4, g5, g6⟩ := hm'
  have mu : Mut (H d) := by
    rcases hH with z | ⟨_, z⟩ <;> (rw [z]; exact True.intro)
  refine I.write (x := d) (e := d) mu (.inl rfl) (fun c w hc z => (hs.2 c hc).trans z) ⟨o, g1⟩ ⟨⟨?_, hd, fun f hf => ?_, ?_, us', i1, o, en, ep, g1, g2, g3, ?_⟩, ⟨o, g1⟩, ?_⟩
  · have := stE_len (es := es) (k := k) (b := b) (v := v)
    omega
  · rcases stE_mem hf with z | ⟨g, hg, z⟩
    · rw [z]; exact dep
    · rw [← z]; exact dp g hg
  · rw [zf_keys hl'] at g6
    exact g6
  · rw [g4]
    unfold zf
    rw [List.map_map]
    rfl
  · rintro h1 h2 ⟨a1, a2, a3, a4, us2, a5, o2, en2, ep2, b1, b2, b3, b4⟩ hk
    exact ⟨a1, a2, a3, a4, us2, a5, o2, en2, ep2, hk _ b1, b2, b3, b4⟩
theorem ts_tput (hu : X.A.units + 64 < cLine) (ho : TE X o to) (hi : TE X i ti) (hv : TE X e te) (hs : swapsWith e (some (.Subscript o i pos')) pos.line X.env = pure false := by rfl) : TS X (.Assign [.Subscript o i pos'] e pos) (cTput to ti te) := fun M S0 H0 E tk => by
  refine ⟨fun pins s σ H D I hq => ?_⟩
  obtain ⟨τ, S, B, rel, h, k1, _⟩ := hq
  refine wpAny_Assign_Subscript (thn ((hv M S0 H0 E tk).run pins s σ H (fun v H1 => ∃ z S1, (to τ S1 (fun x S2 => ti τ S2 (fun y S3 => ∃ a ks vs k, x = .ref a ∧ S3 a = some (.dct (dnk ks) ks vs) ∧ tky y = some k ∧ ks.length < sizeLine ∧ B.nx τ (ups S3 a (.dct true (nPk ks k y) (nPv ks vs k z))))
    (fun x S' => E x τ S')) (fun x S' => E x τ S')) ∧ StoOk (gdOf X M) H1 S1 ∧ Ext S H S1 H1 ∧ Rep (gdOf X M) H1 S1 z v) I ⟨τ, S, _, rel, h, fun z S1 v H1 hz o1 x1 r1 => ⟨z, S1, hz, o1, x1, r1⟩⟩) fun r s1 ⟨v, H1, I1, rv, zz, S1, h1, o1, x1, r1⟩ => ?_) hs
  refine thn ((ho M S0 H0 E tk).run pins s1 σ H1 (fun v H2 => ∃ x S2, (ti τ S2 (fun y S3 => ∃ a ks vs k, x = .ref a ∧ S3 a = some (.dct (dnk ks) ks vs) ∧ tky y = some k ∧ ks.length < sizeLine ∧ B.nx τ (ups S3 a (.dct true (nPk ks k y) (nPv ks vs k zz)))) (fun x S' => E x τ S')) ∧ StoOk (gdOf X M) H2 S2 ∧ Ext S1 H1 S2 H2 ∧ Rep (gdOf X M) H2 S2 x v) I1
    ⟨τ, S1, _, rel.step o1 x1, h1, fun z S2 v H2 hz o2 x2 r2 => ⟨z, S2, hz, o2, x2, r2⟩⟩) fun u s2 ⟨x, H2, I2, rx, xx, S2, h2, o2, x2, r2⟩ => ?_
  refine thn ((hi M S0 H0 E tk).run pins s2 σ H2 (fun v H3 => ∃ y S3, (∃ a ks vs k, xx = .ref a ∧ S3 a = some (.dct (dnk ks) ks vs) ∧ tky y = some k ∧ ks.length < sizeLine ∧ B.nx τ (ups S3 a (.dct true (nPk ks k y) (nPv ks vs k zz)))) ∧ StoOk (gdOf X M) H3 S3 ∧ Ext S2 H2 S3 H3 ∧ Rep (gdOf X M) H3 S3 y v) I2
    ⟨τ, S2, _, rel.step o2 (x1.trans x2), h2, fun z S2 v H2 hz o2 x2 r2 => ⟨z, S2, hz, o2, x2, r2⟩⟩) fun iv s3 ⟨yv, H3, I3, ry, yy, S3, ⟨a, ks, vs, kk, ea, es, ek, hl, hn⟩, o3, x3, r3⟩ => ?_
  subst ea
  cases r2
  obtain rfl : u = Value.ref a := rx
  obtain ⟨en, na, hH⟩ := nat_cell o3 es
  obtain ⟨⟨ts, rfl⟩, hk, dep⟩ := tky_of ek
  have ni := nst_of I3 _ _ _ kk r3 ry hk
  have hlen : en.length < sizeLine := by
    have := keysOf_len na.2.1
    rw [List.length_map] at this
    have e1 : ((ks, vs) : List T × List T).1 = ks := rfl
    rw [e1] at this
    omega
  have hrep := r3
  cases r3 with
  | @tup aa xs _ q1 q2 =>
    obtain rfl : iv = Value.ref aa := ry
    refine n_set hu I3 na hH ni dep hlen rv fun s4 I4 => ⟨σ, _, I4, ?_⟩
    obtain ⟨p1, p2, p3⟩ := put_repN (b := aa) na.2.1 na.2.2.1 na.2.2.2 hk hrep (Rep.ext (x2.trans x3) _ _ r1)
    have xc : Ext S3 H3 (ups S3 a (.dct true (nPk ks kk (.tup ts)) (nPv ks vs kk zz))) (upd H3 a (dN X.w a (stE en kk aa v))) := Ext.cell (.inr ⟨_, es⟩)
    have rel4 := rel.step (o3.cell (o := dN X.w a (stE en kk aa v)) (c := .dct true (nPk ks kk (.tup ts)) (nPv ks vs kk zz)) (.inr ⟨_, es⟩) ⟨_, upd_same, p1, Reps.ext xc _ _ p2, Reps.ext xc _ _ p3⟩) (((x1.trans x2).trans x3).trans xc)
    exact k1 σ _ τ _ rel4 (((x1.trans x2).trans x3).trans xc) hn
end
section
variable {X : Cx} {pins : List (Addr × Obj)} {s : Shared} {σ : L2.St} {H : Hp} {S : Sto} {M : Addr → Prop}
end
end TL
namespace TL
open PySem PySem.Spec PyProof.Rows
open L2 hiding putF
/-- e.f: f of an instance of one of the classes ok -/
def fldT (f : Str) (ok : Str → Bool) (S : Sto) : T → Option T
  | .obj c ns ts => if ok c = true then (ns.zip ts).lookup f else none
  | .ref a => match S a with
    | some (.ins c ns ts) => if ok c = true then (ns.zip ts).lookup f else none
    | _ => none
  | _ => none
/-- the fields with f set -/
def putN : List Str → List T → Str → T → List Str × List T
  | [], _, f, y => ([f], [y])
  | n :: ns, t :: ts, f, y => if n = f then (n :: ns, y :: ts) else (n :: (putN ns ts f y).1, t :: (putN ns ts f y).2)
  | _ :: _, [], _, _ => ([], [])
def cFput (f : Str) (ok : Str → Bool) (o e : TTE) : TTS := fun D τ S E => e τ S (fun z S1 => o τ S1 (fun x S2 => ∃ a c ns ts, x = .ref a ∧ S2 a = some (.ins c ns ts) ∧ ok c = true ∧ ns.length < 1000 ∧
  D.nx τ (ups S2 a (.ins c (putN ns ts f z).1 (putN ns ts f z).2))) (fun x S' => E x τ S')) (fun x S' => E x τ S')
/-- C(..) -/
def cMake (c : Str) (sp : SpT) (a : TTA) : TTE := fun τ S Q E => a τ S (fun ts S1 => ∀ p, S1 p = none → sp (.ref p :: ts) (ups S1 p (.ins c [] [])) (fun z S2 => z = .non ∧ Fin Q (.ref p) S2) E) E
/-- an instance of c, without the name m of its own -/
def isI (c m : Str) (S : Sto) : T → Prop
  | .obj d ns _ => d = c ∧ m ∉ ns
  | .ref a => ∃ ns ts, S a = some (.ins c ns ts) ∧ m ∉ ns
  | _ => False
/-- o.m(..) -/
def cMeth (c m : Str) (sp : SpT) (o : TTE) (a : TTA) : TTE := fun τ S Q E => o τ S (fun x S1 => isI c m S1 x ∧ a τ S1 (fun ts S2 => sp (x :: ts) S2 Q E) E) E
/-- a method of the module's class c keeps its promise -/
def Okm (P : Program) (w : World) (K : PySem.W.Frag) (mg : Str → Option Value) (base : Heap) (k : Nat) (c m : Str) (ps : List Str) (sp : SpT) : Prop :=
  ∃ fd, FnOk P w K mg base (L2N.CX P w) k (He.ma K (He.ga K c) m) fd ps (liftSp P K w sp) ∧ Cls K (He.ga K c) ∧ Meth K (He.ga K c) m (He.ma K (He.ga K c) m) ∧ Binds K fd ps []
/-- its __init__ -/
def Okc (P : Program) (w : World) (K : PySem.W.Frag) (mg : Str → Option Value) (base : Heap) (k : Nat) (c : Str) (ps : List Str) (sp : SpT) : Prop :=
  ∃ fd, FnOk P w K mg base (L2N.CX P w) k (He.ma K (He.ga K c) "__init__") fd ps (liftSp P K w sp) ∧ Mk K (He.ga K c) (He.ma K (He.ga K c) "__init__") ∧ mg c = some (.ref (He.ga K c)) ∧ Binds K fd ps []
section
variable {G : Gd} {H : Hp} {S : Sto}
theorem putN_rep {f : Str} {y : T} {v : V} (r : Rep G H S y v) : ∀ {ns : List Str} {ts : List T} {xs : List V}, Reps G H S ts xs → ns.length = xs.length →
    ∃ xs', L2.putF f v (ns.zip xs) = (putN ns ts f y).1.zip xs' ∧ (putN ns ts f y).1.length = xs'.length ∧ Reps G H S (putN ns ts f y).2 xs'
  | [], ts, xs, h, l => by
    have : xs = [] := List.length_eq_zero_iff.mp l.symm
    subst this
    cases h
    exact ⟨[v], rfl, rfl, .cons r .nil⟩
  | n :: ns, _, _, .nil, l => by cases l
  | n :: ns, _, _, @Reps.cons _ _ _ t ts v0 vs h1 h2, l => by
    obtain ⟨xs', i1, i2, i3⟩ := putN_rep r (ns := ns) h2 (by simpa using l)
    unfold putN
    rw [List.zip_cons_cons]
    unfold L2.putF
    by_cases q : n = f
    · rw [if_pos q, if_pos q]
      exact ⟨v :: vs, rfl, by simpa using l, .cons r h2⟩
    · rw [if_neg q, if_neg q, i1]
      exact ⟨v0 :: xs', rfl, by simp [i2], .cons h1 i3⟩
theorem ins_rep {f : Str} {ok : Str → Bool} {x t : T} {v : V} (o : StoOk G H S) (r : Rep G H S x v) (e : fldT f ok S x = some t) :
    ∃ a c d, ∃ (ns : List Str) (xs : List V) (w : V), v = .ref a ∧ H a = some (.ins (He.ga G.K c) d (ns.zip xs)) ∧ ok c = true ∧ (ns.zip xs).lookup f = some w ∧ Rep G H S t w := by
  cases r with
  | @obj a d c ns ts xs h1 h2 h3 =>
    have e : (if ok c = true then (ns.zip ts).lookup f else none) = some t := e
    by_cases hc : ok c = true
    · rw [if_pos hc] at e
      obtain ⟨w, l, rw1⟩ := lookup_reps h3 e
      exact ⟨a, c, d, ns, xs, w, rfl, h1.1, hc, l, rw1⟩
    · rw [if_neg hc] at e; cases e
  | ref a =>
    unfold fldT at e
    simp only at e
    cases q : S a with
    | none => rw [q] at e; cases e
    | some c =>
      rw [q] at e
      cases c with
      | ins c ns ts =>
        simp only at e
        by_cases hc : ok c = true
        · rw [if_pos hc] at e
          obtain ⟨d, xs, h1, h2, h3⟩ := o.at_ a _ q
          obtain ⟨w, l, rw1⟩ := lookup_reps h3 e
          exact ⟨a, c, d, ns, xs, w, rfl, h1, hc, l, rw1⟩
        · rw [if_neg hc] at e; cases e
      | _ => cases e
  | _ => cases e
theorem lookup_no {m : Str} : ∀ {ns : List Str} {xs : List V}, m ∉ ns → (ns.zip xs).lookup m = none
  | [], _, _ => rfl
  | _ :: _, [], _ => rfl
  | n :: ns, x :: xs, h => by
    rw [List.mem_cons, not_or] at h
    have q : (m == n) = false := beq_eq_false_iff_ne.mpr h.1
    rw [List.zip_cons_cons, List.lookup_cons, q]
    exact lookup_no h.2
theorem isI_rep {c m : Str} {x : T} {v : V} (o : StoOk G H S) (r : Rep G H S x v) (e : isI c m S x) : ∃ a d, ∃ (ns : List Str) (xs : List V), v = .ref a ∧ H a = some (.ins (He.ga G.K c) d (ns.zip xs)) ∧ (ns.zip xs).lookup m = none := by
  cases r with
  | @obj a d c' ns ts xs h1 h2 h3 =>
    obtain ⟨e1, e2⟩ := (show c' = c ∧ m ∉ ns from e)
    subst e1
    exact ⟨a, d, ns, xs, rfl, h1.1, lookup_no e2⟩
  | ref a =>
    obtain ⟨ns, ts, q, e⟩ := (show ∃ ns ts, S a = some (.ins c ns ts) ∧ m ∉ ns from e)
    obtain ⟨d, xs, h1, h2, h3⟩ := o.at_ a _ q
    exact ⟨a, d, ns, xs, rfl, h1, lookup_no e⟩
  | _ => exact e.elim
end
section
variable {X : Cx} {e o : Expr} {te to : TTE} {f : Str} {ok : Str → Bool} {p pos pos' apos : Pos} {es : List Expr} {ta : TTA} {j k : Nat} {c m x : Str} {ps : List Str} {sp : SpT}
theorem te_fld (hk : ∀ c, ok c = true → Cls X.K (He.ga X.K c) ∧ NoAttr X.K (He.ga X.K c) f) (he : TE X e te) (hb : attributeBase e f X.env (eval e X.env) = eval e X.env := by rfl) : TE X (.Attribute e f pos) (cUn (fldT f ok) te) := fun M S0 H0 E tk =>
  (pe_fld (he M S0 H0 E tk) hb).weak fun σ H Q ⟨τ, S, Qt, rel, h, fin⟩ => ⟨τ, S, _, rel, h, fun z S1 v H1 ⟨w, e, hq⟩ o1 x1 r1 => by
    obtain ⟨a, c, d, ns, xs, u, rfl, h1, hc, l, rw1⟩ := ins_rep o1 r1 e
    obtain ⟨k1, k2⟩ := hk c hc
    exact ⟨a, _, d, _, u, rfl, h1, k1, k2, l, fin w S1 u H1 hq o1 x1 rw1⟩⟩
theorem ts_fput (hk : ∀ c, ok c = true → Cls X.K (He.ga X.K c) ∧ NoAttr X.K (He.ga X.K c) f) (ho : TE X o to) (he : TE X e te) (hs : swapsWith e (some (.Attribute o f pos')) pos.line X.env = pure false := by rfl) : TS X (.Assign [.Attribute o f pos'] e pos) (cFput f ok to te) := fun M S0 H0 E tk =>
  (ps_fld (ho M S0 H0 E tk) (he M S0 H0 E tk) hs).weak fun D σ H ⟨τ, S, B, rel, h, k1, _⟩ => ⟨τ, S, _, rel, h, fun zz S1 z H1 h1 o1 x1 r1 => ⟨τ, S1, _, rel.step o1 x1, h1, fun zx S2 x H2 ⟨a, c, ns, ts, ea, es, hc, hl, hn⟩ o2 x2 r2 => by
    subst ea
    cases r2
    obtain ⟨d, xs, g1, g2, g3⟩ := o2.at_ a _ es
    obtain ⟨q1, q2⟩ := hk c hc
    obtain ⟨xs', p1, p2, p3⟩ := putN_rep (f := f) (Rep.ext x2 _ _ r1) g3 g2
    have xc : Ext S2 H2 (ups S2 a (.ins c (putN ns ts f zz).1 (putN ns ts f zz).2)) (upd H2 a (.ins (He.ga X.K c) d ((putN ns ts f zz).1.zip xs'))) := Ext.cell (.inr ⟨_, es⟩)
    refine ⟨a, _, d, _, rfl, g1, q1, q2, ?_, ?_⟩
    · rw [List.length_zip]; omega
    · rw [p1]
      have rel4 := rel.step (o2.cell (o := .ins (He.ga X.K c) d ((putN ns ts f zz).1.zip xs')) (c := .ins c (putN ns ts f zz).1 (putN ns ts f zz).2) (.inr ⟨_, es⟩) ⟨d, xs', upd_same, p2, Reps.ext xc _ _ p3⟩) ((x1.trans x2).trans xc)
      exact k1 σ _ τ _ rel4 ((x1.trans x2).trans xc) hn⟩⟩
end
end TL
namespace L2
open PySem PySem.Spec PyProof.Rows
section
variable {X : Cx} {CX : CXT} {k : Nat} {f C : Addr} {fd : FuncData} {ps : List Str} {sp : Sp} {x m : Str} {p apos pos : Pos} {o e : Expr} {es : List Expr} {ta : TE} {t : TA}
theorem run_makeS {E : XK} {pins : List (Addr × Obj)} {σ : St} {H : Hp} {s : Shared} {Q : VK} {us : List Value} {vs : List V} (M : Mk X.K C f) (F : FnOk X.prog X.w X.K X.mg X.base CX k f fd ps sp) (hr : Room (k + 1) X.A) (hb : Binds X.K fd ps [])
    (hx : PassesAt CX X σ E) (I : Inv X pins σ H s) (r : Vals vs us)
    (h : ∀ x dx, H x = none → H dx = none → dx ≠ x → sp (.ref x :: vs) (upd (upd H dx (.own x)) x (.ins C dx [])) (fun v H2 => v = .non ∧ Q (.ref x) H2) E) :
    wpAny (model X.prog X.w) X.A (call (.ref C) us) (EP X pins σ Q) X.xe s := by
  have hq := h (s.heap.objs.size + 1) s.heap.objs.size (I.hok.fresh (Nat.le_succ _)) (I.hok.fresh (Nat.le_refl _)) (Nat.ne_of_lt (Nat.lt_succ_self _))
  have I2 := Inv.made (C := C) I
  have r2 : Vals (V.ref (s.heap.objs.size + 1) :: vs) (Value.ref (s.heap.objs.size + 1) :: us) := .cons rfl r
  have hl : (Value.ref (s.heap.objs.size + 1) :: us ++ []).length = ps.length := by
    rw [List.append_nil]
    have e := r2.length
    rw [F.len _ _ _ _ hq] at e
    exact e.symm
  refine wpAny_call (make_map (f := f) I.kIn M.makes M.init (beq_iff_eq.mp M.fn) (codeAny_mono (F.run _ X.stack _ _ ⟨Value.ref (s.heap.objs.size + 1) :: us, []⟩ (Value.ref (s.heap.objs.size + 1) :: us) _ _ E (hr.make C us [])
    (I2.env0.make C us []) (by have := hb _ (Value.ref (s.heap.objs.size + 1) :: us) I2.kIn hl; rwa [List.append_nil] at this) r2 hq) fun r s' hq' => ?_))
  cases r with
  | error e => exact hx pins _ _ e s' I2 hq'
  | ok fl =>
    cases fl with
    | ret u =>
      obtain ⟨v, H', I3, rv, ev, q3⟩ := I2.after hq'
      subst ev
      exact ⟨rv, ⟨V.ref (s.heap.objs.size + 1), H', I3, rfl, q3⟩⟩
    | next => exact False.elim hq'
    | brk => exact False.elim hq'
    | cont => exact False.elim hq'
def tMakeS (C : Addr) (sp : Sp) (E : St → XK) (t : TA) : TE := fun σ H Q => t σ H fun vs H1 => ∀ x dx, H1 x = none → H1 dx = none → dx ≠ x → sp (.ref x :: vs) (upd (upd H1 dx (.own x)) x (.ins C dx [])) (fun v H2 => v = .non ∧ Q (.ref x) H2) (E σ)
theorem pe_makeS {E : St → XK} (M : Mk X.K C f) (F : FnOk X.prog X.w X.K X.mg X.base CX k f fd ps sp) (hr : Room (k + 1) X.A) (hg : Gl X x) (hm : X.mg x = some (.ref C)) (hb : Binds X.K fd ps []) (hx : ∀ σ, PassesAt CX X σ (E σ))
    (ha : PA X (e :: es) t) (hdb : (x == ("__debug__" : Str)) = false := by decide) (he : starEach (e :: es) X.env = (false, eval e X.env) :: starEach es X.env := by rfl) (hpl : (backTo pos (starEach es X.env)).any (·.1) = false := by rfl) :
    PE X (.Call (.Name x p) (e :: es) [] pos) (tMakeS C sp E t) := by
  refine ⟨fun pins s σ H Q I h => ?_⟩
  refine wpAny_Call_Name_kw (ld_glob I hg hm ?_ hdb)
  refine PySem.W.callWith_K (h₀ := X.base) I.ok.mod.kin M.kp (thn (ha.run pos pins s σ H _ I h) fun us s1 ⟨vs, H1, I1, r, q⟩ => ⟨I1.kIn, ?_⟩) he hpl
  exact run_makeS M F hr hb (hx σ) I1 r q
def tMethSS (C : Addr) (m : Str) (sp : Sp) (E : St → XK) (ta : TE) (t : TA) : TE := fun σ H Q => ta σ H fun x H1 => ∃ a dx fs, x = .ref a ∧ H1 a = some (.ins C dx fs) ∧ fs.lookup m = none ∧ t σ H1 fun vs H2 => sp (x :: vs) H2 Q (E σ)
theorem pe_methSS {E : St → XK} {pl : Sem Bool} (he : PE X o ta) (c : Cls X.K C) (hm : Meth X.K C m f) (F : FnOk X.prog X.w X.K X.mg X.base CX k f fd ps sp) (hr : Room k X.A) (hb : Binds X.K fd ps []) (hx : ∀ σ, PassesAt CX X σ (E σ)) (ha : PA X (e :: es) t)
    (hst : starEach (e :: es) X.env = (false, eval e X.env) :: starEach es X.env := by rfl) (hpl : (backTo pos (starEach es X.env)).any (·.1) = false := by rfl)
    (ht : eval (.Call (.Attribute o m apos) (e :: es) [] pos) X.env = (do
      let ov ← eval o X.env
      standAt apos.atName
      let (f, first) ← holding [ov] (getMethod ov m pl)
      callWith pos f first (backTo pos (starEach (e :: es) X.env)) (backToKw pos (keywordEach [] X.env))) := by rfl) :
    PE X (.Call (.Attribute o m apos) (e :: es) [] pos) (tMethSS C m sp E ta t) := by
  refine ⟨fun pins s σ H Q I h => ?_⟩
  refine PySem.W.methodCall_KW (pl := pl) (thn (he.run pins s σ H _ I h) fun u s1 ⟨x, H1, I1, rx, a, dx, fs, ex, ea, l, q⟩ => ?_) ht
  subst ex
  obtain rfl : u = Value.ref a := rx
  refine getmeth_ok I1 ea c hm l ?_
  refine PySem.W.callWith_K (first := [.ref a]) (h₀ := X.base) I.ok.mod.kin hm.kp (thn (ha.run pos pins s1 σ H1 _ I1 q) fun us s2 ⟨vs, H2, I2, r, q2⟩ => ⟨I2.kIn, ?_⟩) hst hpl
  exact run_fnS (us := .ref a :: us) (vs := .ref a :: vs) F hr hb (hx σ) I2 (.cons rfl r) q2
end
end L2
namespace TL
open PySem PySem.Spec PyProof.Rows
open L2 hiding putF
section
variable {X : Cx} {e o : Expr} {te to : TTE} {f : Str} {ok : Str → Bool} {p pos pos' apos : Pos} {es : List Expr} {ta : TTA} {j k : Nat} {c m x : Str} {ps : List Str} {sp : SpT} {M : Addr → Prop} {S0 : Sto} {H0 : Hp} {E : T → TEnv → Sto → Prop}
theorem made_le {σ : L2.St} {H : Hp} {Q : VK} (h : LE X M S0 H0 (cMake c sp ta) E σ H Q) : tMakeS (He.ga X.K c) (liftSp X.prog X.K X.w sp) (WE (wOf X M S0 H0 E)) (LA X M S0 H0 ta E) σ H Q := by
  obtain ⟨τ, S, Qt, rel, h, fin⟩ := h
  refine ⟨τ, S, _, rel, h, fun zs S1 vs H1 hq o1 x1 r1 x dx n1 n2 ne => ?_⟩
  have n1' : (upd H1 dx (.own x)) x = none := (upd_ne (Ne.symm ne)).trans n1
  have xa : Ext S1 H1 S1 (upd H1 dx (.own x)) := Ext.new n2
  have xb : Ext S1 (upd H1 dx (.own x)) (ups S1 x (.ins c [] [])) (upd (upd H1 dx (.own x)) x (.ins (He.ga X.K c) dx [])) := Ext.cell (.inl n1')
  have o2 : StoOk (gdOf X M) (upd (upd H1 dx (.own x)) x (.ins (He.ga X.K c) dx [])) (ups S1 x (.ins c [] [])) := (o1.new n2).cell (.inl n1') ⟨dx, [], upd_same, rfl, .nil⟩
  have xc := xa.trans xb
  refine ⟨M, .ref x :: zs, ups S1 x (.ins c [] []), fun z S2 => z = .non ∧ Fin Qt (.ref x) S2, fun x S' => E x τ S', .cons (.ref x) (Reps.ext xc _ _ r1), o2, hq x (o1.free n1), ?_, ?_⟩
  · rintro z S' v H' ⟨rfl, S2, u, k2, fz, q2⟩ o3 x3 r3
    cases r3
    exact ⟨rfl, fin u S2 (.ref x) H' q2 (o3.drop k2) (((x1.trans xc).trans x3).trans k2.ext) (Fz.rep o3 k2 fz (.ref x))⟩
  · intro y S' cls d H' qx o3 x3 hx
    exact ⟨τ, S', y, rel.step o3 ((x1.trans xc).trans x3), hx, qx⟩
theorem te_make (F : Okc X.prog X.w X.K X.mg X.base k c ps sp) (hr : Room j X.A) (hkj : k + 1 ≤ j) (hg : Gl X c) (ha : TA X (e :: es) ta) (hdb : (c == ("__debug__" : Str)) = false := by decide)
    (he : starEach (e :: es) X.env = (false, eval e X.env) :: starEach es X.env := by rfl) (hpl : (backTo pos (starEach es X.env)).any (·.1) = false := by rfl) : TE X (.Call (.Name c p) (e :: es) [] pos) (cMake c sp ta) := fun M S0 H0 E tk => by
  obtain ⟨fd, F1, mk, hm, hb⟩ := F
  exact (pe_makeS (E := WE (wOf X M S0 H0 E)) mk F1 (hr.mono hkj) hg hm hb (fun σ => L2N.passAt tk σ) (ha M S0 H0 E tk) hdb he hpl).weak fun σ H Q h => made_le h
theorem te_meth {pl : Sem Bool} (F : Okm X.prog X.w X.K X.mg X.base k c m ps sp) (hr : Room j X.A) (hkj : k ≤ j) (ho : TE X o to) (ha : TA X (e :: es) ta)
    (hst : starEach (e :: es) X.env = (false, eval e X.env) :: starEach es X.env := by rfl) (hpl : (backTo pos (starEach es X.env)).any (·.1) = false := by rfl)
    (ht : eval (.Call (.Attribute o m apos) (e :: es) [] pos) X.env = (do
      let ov ← eval o X.env
      standAt apos.atName
      let (f, first) ← holding [ov] (getMethod ov m pl)
      callWith pos f first (backTo pos (starEach (e :: es) X.env)) (backToKw pos (keywordEach [] X.env))) := by rfl) :
    TE X (.Call (.Attribute o m apos) (e :: es) [] pos) (cMeth c m sp to ta) := fun M S0 H0 E tk => by
  obtain ⟨fd, F1, hc, hm, hb⟩ := F
  exact (pe_methSS (E := WE (wOf X M S0 H0 E)) (ho M S0 H0 E tk) hc hm F1 (hr.mono hkj) hb (fun σ => L2N.passAt tk σ) (ha M S0 H0 E tk) hst hpl ht).weak fun σ H Q ⟨τ, S, Qt, rel, h, fin⟩ =>
    ⟨τ, S, _, rel, h, fun z S1 v H1 ⟨hi, h1⟩ o1 x1 r1 => by
      obtain ⟨a, d, ns, xs, rfl, g1, g2⟩ := isI_rep o1 r1 hi
      exact ⟨a, d, _, rfl, g1, g2, τ, S1, _, rel.step o1 x1, h1, fun zs S2 vs H2 q o2 x2 r2 =>
        ⟨M, z :: zs, S2, Qt, fun x S' => E x τ S', .cons (Rep.ext x2 _ _ r1) r2, o2, q, fun z S' v H' qz o3 x3 r3 => fin z S' v H' qz o3 ((x1.trans x2).trans x3) r3, fun x S' cls d H' qx o3 x3 hx => ⟨τ, S', x, rel.step o3 ((x1.trans x2).trans x3), hx, qx⟩⟩⟩⟩
end
end TL
namespace TL
open PySem PySem.Spec PyProof.Rows
open L2 hiding putF
/-- a dict's cell, its kind told by its keys -/
abbrev cN (r : List T × List T) : Cell := .dct (dnk r.1) r.1 r.2
theorem unv_fldT {f : Str} {ok : Str → Bool} : UnV (fldT f ok) := fun S z v r h e => by
  rcases h with rfl | ⟨a, xs, rfl, h, rfl⟩ | ⟨a, n, ks, vs, rfl, h, rfl⟩
  · cases z <;> first | exact e | cases e
  · cases e
  · cases e
theorem nView_v {S : Sto} {z v : T} {p : List T × List T} (h : VwS S z v) (e : nView emp v = some p) : nView S z = some p := by
  rcases h with rfl | ⟨a, xs, rfl, h, rfl⟩ | ⟨a, n, ks, vs, rfl, h, rfl⟩
  · cases z with
    | ref a => cases e
    | dct n ks vs =>
      cases n
      · cases ks with
        | nil => cases vs <;> exact e
        | cons _ _ => cases e
      · exact e
    | _ => exact e
  · cases e
  · cases n with
    | true => simp only [nView, h]; exact e
    | false =>
      cases ks with
      | cons _ _ => cases e
      | nil =>
        cases vs with
        | cons _ _ => cases e
        | nil => simp only [nView, h]; exact e
theorem tky_v {S : Sto} {z v : T} {k : NestedKey} (h : VwS S z v) (e : tky v = some k) : z = v := by
  rcases h with q | ⟨a, xs, _, _, rfl⟩ | ⟨a, n, ks, vs, _, _, rfl⟩
  · exact q
  · cases e
  · cases e
theorem opv_tgT : OpV tgT := fun S z1 v1 z2 v2 r h1 h2 e => by
  unfold tgT at e ⊢
  split at e
  · rename_i p k e1 e2
    rw [nView_v h1 e1, tky_v h2 e2, e2]
    exact e
  · cases e
def tputM {κ : Type} (r : List T × List T) (y z : T) : PM κ (List T × List T) := match tky y with
  | some k => bd (gd (r.1.length < sizeLine)) fun _ => pu (nPk r.1 k y, nPv r.1 r.2 k z)
  | none => stuck
theorem nPk_some {ks : List T} {k : NestedKey} {t : T} : dnk (nPk ks k t) = true := by
  unfold nPk
  cases ks with
  | nil => rfl
  | cons a b => split <;> rfl
section
variable {κ : Type} {W : κ → Sto} {p : TEnv} {l : Cs} {β : Type} {u : TTS} {post : β → Dest} {e ei : TTE} {m mi : PM κ T} {i : Nat} {fs : List Str} {c f : Str} {ok : Str → Bool}
theorem xn_dnewN : XN W p l cDnewM (pu (([], []) : List T × List T)) (fun _ a => .ref a) (fun r a => [(a, cN r)]) := fun Q E k τ S hE i s => fun q n => s _ q (i.new n)
theorem xv_ncell {a : Addr} {r : List T × List T} (h : p[i]? = some (some (.ref a))) (hm : (a, cN r) ∈ l) : XV W p l (cVar i) (pu (.dct (dnk r.1) r.1 r.2)) := xv_dcell h hm
theorem xs_tput {a : Addr} {r : List T × List T} {l1 l2 : Cs} {f : List T × List T → PM κ β} (hp : p[i]? = some (some (.ref a))) (he : XE W p (l1 ++ (a, cN r) :: l2) e m) (hi : XE W p (l1 ++ (a, cN r) :: l2) ei mi) (h : ∀ ys, XS W p (l1 ++ (a, cN ys) :: l2) u (f ys) post) :
    XS W p (l1 ++ (a, cN r) :: l2) (cSeq (cTput (cVar i) ei e) u) (bd m fun z => bd mi fun y => bd (tputM r y z) f) post := fun D E k τ S hE j s => by
  refine he _ _ k τ S hE j ((Sat.bd.mp s).mono (fun v k1 s1 S1 i1 => ?_) fun x k1 q S1 i1 => q τ S1 i1)
  refine ⟨.ref a, hE.get hp, ?_⟩
  refine hi _ _ k1 τ S1 hE i1 ((Sat.bd.mp s1).mono (fun y k2 s2 S2 i2 => ?_) fun x k1 q S1 i1 => q τ S1 i1)
  have s3 := Sat.bd.mp s2
  unfold tputM at s3
  cases q : tky y with
  | none => simp only [q] at s3; exact s3.elim
  | some kk =>
    simp only [q] at s3
    obtain ⟨hl, s3⟩ := sat_gd (Sat.bd.mp s3)
    refine ⟨a, r.1, r.2, kk, rfl, i2.at_ (a, cN r) (by simp), rfl, hl, ?_⟩
    have := h (nPk r.1 kk y, nPv r.1 r.2 kk v) D E k2 τ _ hE i2.put s3
    rwa [show cN (nPk r.1 kk y, nPv r.1 r.2 kk v) = .dct true (nPk r.1 kk y) (nPv r.1 r.2 kk v) from by unfold cN; rw [nPk_some]] at this
theorem fzs_self {S S2 : Sto} : ∀ ts : List T, Fzs S S2 ts ts
  | [] => .nil
  | _ :: ts => .cons (.same _) (fzs_self ts)
structure Lns (W : κ → Sto) (a : Addr) (get : κ → List T × List T) (set : κ → List T × List T → κ) : Prop where
  at_ : ∀ k, W k a = some (cN (get k))
  put : ∀ {l k r S}, SI W l k S → SI W l (set k r) (ups S a (cN r))
variable {a : Addr} {get : κ → List T × List T} {set : κ → List T × List T → κ} {x : T}
end
abbrev DD := List T × List T
section
variable {S S' : Sto} {m g : Addr} {l : Cs} {k : DD × DD} {r : DD}
end
end TL
namespace TL
open PySem PySem.Spec PyProof.Rows
open L2 hiding putF
section
variable {κ : Type} {W : κ → Sto} {p : TEnv} {l : Cs} {β : Type} {u : TTS} {post : β → Dest}
end
theorem fld_ok {K : PySem.W.Frag} {f : Str} {cs : List Str} (h : Alls (fun c => Cls K (He.ga K c) ∧ NoAttr K (He.ga K c) f) cs) : ∀ c, okL cs c = true → Cls K (He.ga K c) ∧ NoAttr K (He.ga K c) f := fun c hc => h.mem (List.contains_iff_mem.mp hc)
def nsE : List Str := ["name", "family", "steps"]
def endT (a b c : T) : T := .obj "End" nsE [a, b, c]
section
variable {S0 : Sto} {m g : Addr} {p : TEnv} {l : Cs} {D F : T}
end
section
variable {κ : Type} {W : κ → Sto} {p : TEnv} {l : Cs} {u : TTS}
theorem SI.more {S S2 : Sto} {k : κ} (i : SI W l k S) (h : ∀ a c, S a = some c → S2 a = some c) : SI W l k S2 := ⟨fun e he => h _ _ (i.at_ e he), i.own, i.nd, fun a c e => h _ _ (i.base a c e)⟩
end
section
variable {D F : T} {m g : Addr}
end
end TL
namespace TL
open PySem PySem.Spec PyProof.Rows L2
end TL
namespace TL
open PySem PySem.Spec PyProof.Rows L2
section
variable {κ : Type} {W : κ → Sto} {p : TEnv} {l : Cs}
end
end TL
namespace TL
open PySem PySem.Spec PyProof.Rows L2
/-- keys and values of a display -/
inductive TPs (X : Cx) : List (Option Expr) → List Expr → List (List Sg × TTE) → Prop
  | nil : TPs X [] [] []
  | cons {k v : Expr} {ks : List (Option Expr)} {vs : List Expr} {a : List Sg} {t : TTE} {prs : List (List Sg × TTE)} : TE X k (cC (.str a)) → TE X v t → TPs X ks vs prs → TPs X (some k :: ks) (v :: vs) ((a, t) :: prs)
section
variable {κ : Type} {W : κ → Sto} {p : TEnv} {l : Cs}
end
end TL
namespace TL
open PySem PySem.Spec PyProof.Rows L2
section
variable {X : Cx} {o e : Expr} {to : TTE} {apos cpos : Pos} {b : Bool}
end
section
variable {X : Cx} {tg a b d : Expr} {ta tb td : TTE} {p pos : Pos}
end
section
variable {κ : Type} {W : κ → Sto} {p : TEnv} {l : Cs} {a b d : TTE} {ma mb md : PM κ T}
end
end TL
namespace TL
open PySem PySem.Spec PyProof.Rows
open L2 hiding putF
def TET (X : Cx) (e : Expr) (t : TTE) : Prop := ∀ M S0 H0 E, Takes X (wOf X M S0 H0 E) → PET X e (LE X M S0 H0 t E)
def TST (X : Cx) (s : Stmt) (t : TTS) : Prop := ∀ M S0 H0 E, Takes X (wOf X M S0 H0 E) → PST X s (LS X M S0 H0 t E)
def TSsT (X : Cx) (s : List Stmt) (t : TTS) : Prop := ∀ M S0 H0 E, Takes X (wOf X M S0 H0 E) → PSsT X s (LS X M S0 H0 t E)
section
variable {X : Cx} {e a b o : Expr} {es : List Expr} {ta tb te to : TTE} {tA tB : TTB} {tr : TTA} {st : Stmt} {rest body : List Stmt} {t u : TTS} {pos apos c0 c1 p : Pos} {j k : Nat}
theorem TET.of (h : TE X e te) : TET X e te := fun M S0 H0 E tk => CwR.PET.of (h M S0 H0 E tk)
theorem TSsT.of (h : TSs X rest t) : TSsT X rest t := fun M S0 H0 E tk => PSsT.of (h M S0 H0 E tk)
theorem TST.of (h : TS X st t) : TST X st t := fun M S0 H0 E tk => PST.of (h M S0 H0 E tk)
end
structure FnT (P : Program) (w : World) (K : PySem.W.Frag) (mg : Str → Option Value) (base : Heap) (CX : CXT) (k : Nat) (f : Addr) (fd : FuncData) (ps : List Str) (sp : Sp) : Prop where
  len : ∀ vs H Q E, sp vs H Q E → vs.length = ps.length
  run : ∀ (A : Around) (outer : List Env) (s : Shared) (H : Hp) (args : Args) (us : List Value) (vs : List V) (Q : VK) (E : XK), 1 ≤ s.toks → Room k A → Env0 P w K mg base A outer s H → BindsTo s fd args (ps.zip us) → Vals vs us → sp vs H Q E →
    codeAny (model P w) A (.call (.ref f) args) (CR CX outer P w H s Q E) s
section
variable {P : Program} {w : World} {K : PySem.W.Frag} {mg : Str → Option Value} {base : Heap} {x qual : Str} {params : Arguments} {body : List Stmt} {scope : Scope} {f : Addr} {fd : FuncData} {N ps : List Str} {k : Nat} {sp : SpT} {c : TTS}
end
section
variable {X : Cx} {k j : Nat} {f : Addr} {fd : FuncData} {ps : List Str} {sp : SpT} {x : Str} {p pos : Pos} {e : Expr} {es : List Expr} {ta : TTA}
end
end TL
namespace TL
open PySem PySem.Spec PyProof.Rows
open L2 hiding putF
abbrev Dsk := T × List T
def nsD : List Str := ["kept", "elder"]
def dIns (e : Addr) (k : Dsk) : Cell := .ins "Desk" nsD [k.1, .ref e]
def WD (d e : Addr) (S : Sto) (k : Dsk) : Sto := ups (ups S d (dIns e k)) e (.lst k.2)
structure DAt (d e : Addr) (S : Sto) (k : Dsk) : Prop where
  ne : d ≠ e
  d : S d = some (dIns e k)
  e : S e = some (.lst k.2)
section
variable {S S' : Sto} {d e a : Addr} {k k' : Dsk} {l : Cs} {c : Cell}
theorem WD_e : WD d e S k e = some (.lst k.2) := ups_same
theorem WD_d (h : d ≠ e) : WD d e S k d = some (dIns e k) := (ups_ne h).trans ups_same
theorem WD_o (h1 : a ≠ d) (h2 : a ≠ e) : WD d e S k a = S a := (ups_ne h2).trans (ups_ne h1)
theorem DAt.self (h : DAt d e S k) : WD d e S k = S := by
  unfold WD
  rw [ups_self h.d, ups_self h.e]
theorem WD_no (h : d ≠ e) (n : WD d e S k a = none) : a ≠ d ∧ a ≠ e ∧ S a = none := by
  have n2 : a ≠ e := fun z => by rw [z, WD_e] at n; cases n
  have n1 : a ≠ d := fun z => by rw [z, WD_d h] at n; cases n
  exact ⟨n1, n2, (WD_o n1 n2).symm.trans n⟩
theorem WD_put (h : d ≠ e) (i : SI (WD d e S) l k S') : SI (WD d e S) l k' (WD d e S' k') := ⟨fun x hx => by
    obtain ⟨n1, n2, _⟩ := WD_no h (i.own x hx)
    rw [WD_o n1 n2]
    exact i.at_ x hx, fun x hx => by
    obtain ⟨n1, n2, n3⟩ := WD_no h (i.own x hx)
    exact (WD_o n1 n2).trans n3, i.nd, fun x c hx => by
    by_cases z1 : x = e
    · subst z1; rw [WD_e] at hx ⊢; exact hx
    by_cases z2 : x = d
    · subst z2; rw [WD_d h] at hx ⊢; exact hx
    rw [WD_o z2 z1] at hx ⊢
    exact i.base x c (by rw [WD_o z2 z1]; exact hx)⟩
theorem WD_dat (h : d ≠ e) (i : SI (WD d e S) l k S') : DAt d e S' k := ⟨h, i.base d _ (WD_d h), i.base e _ WD_e⟩
end
section
variable {κ α β ι : Type}
/-- by the state without the last desk; by the last desk -/
def up (m : PM κ α) : PM (κ × Dsk) α := fun k => match m k.1 with
  | .ok v k' => .ok v (k', k.2)
  | .exc x k' => .exc x (k', k.2)
  | .bad => .bad
def dk (m : PM Dsk α) : PM (κ × Dsk) α := fun k => match m k.2 with
  | .ok v k' => .ok v (k.1, k')
  | .exc x k' => .exc x (k.1, k')
  | .bad => .bad
def WX (W : κ → Sto) (d e : Addr) (k : κ × Dsk) : Sto := WD d e (W k.1) k.2
/-- one place alone comes and goes never -/
def DomC (W : κ → Sto) : Prop := ∀ k k' a, W k a = none → W k' a = none
theorem DomC.up {W : κ → Sto} {d e : Addr} (h : DomC W) (ne : d ≠ e) : DomC (WX W d e) := fun k k' a n => by
  obtain ⟨n1, n2, n3⟩ := WD_no ne n
  exact (WD_o n1 n2).trans (h _ _ _ n3)
/-- the desk at (d, e), by lift -/
structure LD (W : κ → Sto) (d e : Addr) (lift : PM Dsk T → PM κ T) : Prop where
  ne : d ≠ e
  dom : ∀ k, W k d ≠ none ∧ W k e ≠ none
  at_ : ∀ (k : κ) (S : Sto) (l : Cs), SI W l k S → ∃ st, DAt d e S st
  run : ∀ (m : PM Dsk T) (P : T → κ → Prop) (X : T → κ → Prop) (k : κ) (S : Sto) (l : Cs), SI W l k S → Sat (lift m k) P X →
    ∃ st, DAt d e S st ∧ Sat (m st) (fun v st' => ∃ k', P v k' ∧ SI W l k' (WD d e S st')) (fun x st' => ∃ k', X x k' ∧ SI W l k' (WD d e S st'))
/-- the pen's cell, by lift -/
def LP (W : κ → Sto) (pa : Addr) (lift : PM Cell T → PM κ T) : Prop := (∀ k, W k pa ≠ none) ∧ ∀ (m : PM Cell T) (P : T → κ → Prop) (X : T → κ → Prop) (k : κ) (S : Sto) (l : Cs), SI W l k S → Sat (lift m k) P X →
  ∃ c, S pa = some c ∧ Sat (m c) (fun v c' => ∃ k', P v k' ∧ SI W l k' (ups S pa c')) (fun x c' => ∃ k', X x k' ∧ SI W l k' (ups S pa c'))
theorem sat_up {m : PM κ α} {k : κ × Dsk} {P : α → κ × Dsk → Prop} {X : T → κ × Dsk → Prop} (h : Sat (up m k) P X) : Sat (m k.1) (fun v k' => P v (k', k.2)) fun x k' => X x (k', k.2) := by
  unfold TL.up at h
  cases q : m k.1 <;> rw [q] at h <;> exact h
theorem sat_dk {m : PM Dsk α} {k : κ × Dsk} {P : α → κ × Dsk → Prop} {X : T → κ × Dsk → Prop} (h : Sat (dk m k) P X) : Sat (m k.2) (fun v k' => P v (k.1, k')) fun x k' => X x (k.1, k') := by
  unfold TL.dk at h
  cases q : m k.2 <;> rw [q] at h <;> exact h
theorem LD.one {S0 : Sto} {d e : Addr} (ne : d ≠ e) : LD (WD d e S0) d e id := ⟨ne, fun k => ⟨by rw [WD_d ne]; exact Option.some_ne_none _, by rw [WD_e]; exact Option.some_ne_none _⟩, fun k S l i => ⟨k, WD_dat ne i⟩, fun m P X k S l i h =>
  ⟨k, WD_dat ne i, Sat.mono h (fun v k' q => ⟨k', q, WD_put ne i⟩) fun x k' q => ⟨k', q, WD_put ne i⟩⟩⟩
section
variable {W : κ → Sto} {d e d' e' pa : Addr} {l : Cs} {k : κ × Dsk} {S : Sto}
/-- the state without the last desk -/
theorem SI.low (ne : d ≠ e) (n : ∀ k, W k d = none ∧ W k e = none) (i : SI (WX W d e) l k S) : SI W l k.1 S := ⟨i.at_, fun x hx => (WD_no ne (i.own x hx)).2.2, i.nd, fun a c h => by
  have n1 : a ≠ d := fun z => by rw [z, (n k.1).1] at h; cases h
  have n2 : a ≠ e := fun z => by rw [z, (n k.1).2] at h; cases h
  exact i.base a c ((WD_o n1 n2).trans h)⟩
/-- back again, the last desk as it was -/
theorem SI.high {k' : κ} {S' : Sto} (ne : d ≠ e) (i : SI (WX W d e) l k S) (j : SI W l k' S') (h1 : S' d = S d) (h2 : S' e = S e) : SI (WX W d e) l (k', k.2) S' := ⟨j.at_, fun x hx => by
  obtain ⟨n1, n2, _⟩ := WD_no ne (i.own x hx)
  exact (WD_o n1 n2).trans (j.own x hx), j.nd, fun a c h => by
  by_cases z1 : a = e
  · subst z1
    have h : WD d a (W k') k.2 a = some c := h
    rw [WD_e] at h
    rw [h2]
    exact i.base a c (show WD d a (W k.1) k.2 a = some c by rw [WD_e]; exact h)
  by_cases z2 : a = d
  · subst z2
    have h : WD a e (W k') k.2 a = some c := h
    rw [WD_d ne] at h
    rw [h1]
    exact i.base a c (show WD a e (W k.1) k.2 a = some c by rw [WD_d ne]; exact h)
  have h : WD d e (W k') k.2 a = some c := h
  rw [WD_o z2 z1] at h
  exact j.base a c h⟩
theorem LD.up {lift : PM Dsk T → PM κ T} (L : LD W d' e' lift) (ne : d ≠ e) (n : ∀ k, W k d = none ∧ W k e = none) : LD (WX W d e) d' e' fun m => TL.up (lift m) := by
  have hne : ∀ k : κ, (d ≠ d' ∧ d ≠ e') ∧ (e ≠ d' ∧ e ≠ e') := fun k => ⟨⟨fun z => (L.dom k).1 (z ▸ (n k).1), fun z => (L.dom k).2 (z ▸ (n k).1)⟩, fun z => (L.dom k).1 (z ▸ (n k).2), fun z => (L.dom k).2 (z ▸ (n k).2)⟩
  refine ⟨L.ne, fun k => ?_, fun k S l i => L.at_ k.1 S l (i.low ne n), fun m P X k S l i h => ?_⟩
  · obtain ⟨⟨a1, a2⟩, a3, a4⟩ := hne k.1
    exact ⟨by rw [show WX W d e k d' = W k.1 d' from WD_o a1.symm a3.symm]; exact (L.dom k.1).1, by rw [show WX W d e k e' = W k.1 e' from WD_o a2.symm a4.symm]; exact (L.dom k.1).2⟩
  · obtain ⟨⟨a1, a2⟩, a3, a4⟩ := hne k.1
    obtain ⟨st, h1, h2⟩ := L.run m _ _ k.1 S l (i.low ne n) (sat_up h)
    exact ⟨st, h1, h2.mono (fun v st' ⟨k', q, j⟩ => ⟨(k', k.2), q, i.high ne j (WD_o a1 a2) (WD_o a3 a4)⟩) fun v st' ⟨k', q, j⟩ => ⟨(k', k.2), q, i.high ne j (WD_o a1 a2) (WD_o a3 a4)⟩⟩
theorem LD.last (ne : d ≠ e) : LD (WX W d e) d e dk := ⟨ne, fun k => ⟨by rw [show WX W d e k d = _ from WD_d ne]; exact Option.some_ne_none _, by rw [show WX W d e k e = _ from WD_e]; exact Option.some_ne_none _⟩, fun k S l i => ⟨k.2, ne, i.base d _ (show WX W d e k d = _ from WD_d ne), i.base e _ (show WX W d e k e = _ from WD_e)⟩, fun m P X k S l i h => by
  refine ⟨k.2, ⟨ne, i.base d _ (show WX W d e k d = _ from WD_d ne), i.base e _ (show WX W d e k e = _ from WD_e)⟩, ?_⟩
  have j : ∀ st', SI (WX W d e) l (k.1, st') (WD d e S st') := fun st' => by
    have : SI (WD d e (W k.1)) l k.2 S := ⟨i.at_, i.own, i.nd, i.base⟩
    have := WD_put (k' := st') ne this
    exact ⟨this.at_, this.own, this.nd, this.base⟩
  exact (sat_dk h).mono (fun v st' q => ⟨_, q, j st'⟩) fun v st' q => ⟨_, q, j st'⟩⟩
theorem LP.one {S0 : Sto} : LP (penW S0 pa) pa id := ⟨fun k => by rw [show penW S0 pa k pa = some k from ups_same]; exact Option.some_ne_none _, fun m P X k S l i h => ⟨k, i.base pa k ups_same, Sat.mono h (fun v k' q => ⟨k', q, i.pen⟩) fun v k' q => ⟨k', q, i.pen⟩⟩⟩
theorem LP.up {lift : PM Cell T → PM κ T} (L : LP W pa lift) (ne : d ≠ e) (n : ∀ k, W k d = none ∧ W k e = none) : LP (WX W d e) pa fun m => TL.up (lift m) := by
  have hne : ∀ k : κ, d ≠ pa ∧ e ≠ pa := fun k => ⟨fun z => L.1 k (z ▸ (n k).1), fun z => L.1 k (z ▸ (n k).2)⟩
  refine ⟨fun k => ?_, fun m P X k S l i h => ?_⟩
  · obtain ⟨a1, a2⟩ := hne k.1
    rw [show WX W d e k pa = W k.1 pa from WD_o a1.symm a2.symm]
    exact L.1 k.1
  · obtain ⟨a1, a2⟩ := hne k.1
    obtain ⟨c, h1, h2⟩ := L.2 m _ _ k.1 S l (i.low ne n) (sat_up h)
    exact ⟨c, h1, h2.mono (fun v st' ⟨k', q, j⟩ => ⟨(k', k.2), q, i.high ne j (ups_ne a1) (ups_ne a2)⟩) fun v st' ⟨k', q, j⟩ => ⟨(k', k.2), q, i.high ne j (ups_ne a1) (ups_ne a2)⟩⟩
end
variable {W : κ → Sto} {p : TEnv} {l : Cs} {i : Nat}
/-- desks by which -/
def LF (W : κ → Sto) (ad el : ι → Addr) (lift : ι → PM Dsk T → PM κ T) : Prop := ∀ i, LD W (ad i) (el i) (lift i)
theorem LF.one {d e : Addr} {lift : PM Dsk T → PM κ T} (L : LD W d e lift) : LF (ι := Unit) W (fun _ => d) (fun _ => e) fun _ => lift := fun _ => L
theorem LF.two {d0 e0 d1 e1 : Addr} {l0 l1 : PM Dsk T → PM κ T} (L0 : LD W d0 e0 l0) (L1 : LD W d1 e1 l1) : LF (ι := Bool) W (fun b => if b = true then d1 else d0) (fun b => if b = true then e1 else e0) fun b => if b = true then l1 else l0 := fun b => by
  cases b with
  | true => exact L1
  | false => exact L0
variable {ad el : ι → Addr} {lift : ι → PM Dsk T → PM κ T} {eo : TTE} {mo : PM κ ι} {r : TTA} {n : Nat}
end
section
variable {κ α β ι : Type} {W : κ → Sto} {p : TEnv} {l : Cs} {i : Nat} {u : TTS} {post : β → Dest} {k0 : T}
end
section
variable {β : Type} {S0 : Sto} {d e : Addr} {p : TEnv} {l : Cs} {i : Nat} {u : TTS} {post : β → Dest} {ok : Str → Bool} {ee : TTE} {m : PM Dsk T} {g : PM Dsk β}
end
end TL
namespace TL
open PySem PySem.Spec PyProof.Rows
open L2 hiding putF
def ItkN (d : Addr) (o : Obj) (w : World) (es : Es) : It :=
  ⟨fun i H => H d = some (.frz o (dN w d es)) ∧ i < es.length, fun i H x H' => H' = H ∧ ∃ e, es[i]? = some e ∧ x = .ref e.2.1, fun i H => H d = some (.frz o (dN w d es)) ∧ es.length ≤ i⟩
section
variable {P : Program} {w : World} {K : PySem.W.Frag} {tg : Expr} {d : Addr} {o : Obj} {en : Array DictEntry} {ep : Nat} {es : Es}
theorem frzN {X : Cx} {pins : List (Addr × Obj)} {σ : L2.St} {H : Hp} {s : Shared} (I : Inv X pins σ H s) (h : H d = some (.frz o (dN w d es))) :
    (d == sysModules) = false ∧ s.heap.get? d = some o ∧ o.ExactDict ∧ ∃ (en : Array DictEntry) (ep : Nat), o.data = .dict en ep ∧ en.size = es.length ∧ ∀ (i : Nat) e, es[i]? = some e → ∃ x : DictEntry, en[i]? = some x ∧ x.key = .ref e.2.1 := by
  obtain ⟨hd, z⟩ := I.hok d _ h
  obtain ⟨l, ns, dep, nd, us, hv, o', en, ep, g1, g2, g3, g4⟩ := (show rawN w d es s.heap from z.1)
  rw [hd] at g1
  cases g1
  have hl : es.length = us.length := by have := hv.length; rwa [List.length_map] at this
  have sz : en.size = es.length := by
    rw [← Array.length_toList, g4, List.length_map, List.length_zip, ← hl, Nat.min_self]
  refine ⟨ns, hd, g2, en, ep, g3, sz, fun i e he => ?_⟩
  have hi : i < es.length := (List.getElem?_eq_some_iff.mp he).1
  have q : en.toList[i]? = ((es.zip us).map fun q => (⟨q.1.1.hash w, .ref q.1.2.1, q.2⟩ : DictEntry))[i]? := by rw [g4]
  rw [Array.getElem?_toList, List.getElem?_map] at q
  have hu : us[i]? = some us[i] := List.getElem?_eq_getElem (by omega)
  have hz : (es.zip us)[i]? = some (e, us[i]) := by
    rw [List.getElem?_zip_eq_some]
    exact ⟨he, hu⟩
  rw [hz] at q
  exact ⟨_, q, rfl⟩
theorem turn_keysN (it : Addr) (hod : o.data = .dict en ep) : Turn P w K tg (ItkN d o w es) [it] it (fun i h => h.IsKeyIter it d i es.length ep) where
  mem := by simp
  obj := fun i h st b hb => by
    have e : b = it := by simpa using hb
    subst e
    obtain ⟨oi, e, c, dd⟩ := st
    exact ⟨oi, e, fun v z => by rw [dd] at z; cases z⟩
  keep := fun i h h' st k => st.at fun oi e => k it (by simp) oi e
  item := by
    intro X hP hw hK hc i pins s σ H E I hf st hg
    subst hP hw hK
    obtain ⟨hd, hi⟩ := hg
    obtain ⟨f0, f1, f2, f3, f4, f5⟩ := hf it (by simp)
    obtain ⟨hs, hgd, hx, es', ep', hdt, hsz, ent⟩ := frzN I hd
    obtain ⟨rfl, rfl⟩ := dict_ep hod hdt
    obtain ⟨e, he⟩ : ∃ p, es[i]? = some p := ⟨es[i], List.getElem?_eq_getElem hi⟩
    obtain ⟨x, hen, hkey⟩ := ent i e he
    refine next_key_item st hgd hdt hsz hen fun h' st' sb => ?_
    have I1 : Inv X pins σ H { s with heap := h' } := I.turned (t' := s.toks) (fun b ob hb e => (sb.2 b hb).trans e) f0 f1 f3 f4 f5
    obtain ⟨oi, e1, c, dd⟩ := id st'
    exact ⟨x.key, rfl, go_of (s := { s with heap := h' }) e1 c dd (by decide) ⟨.ref e.2.1, H, I1, hkey, ⟨rfl, e, he, rfl⟩, st', fun b hb => (hf b hb).1⟩⟩
  done := by
    intro X hP hw hK hc i pins s σ H E I hf st hg
    subst hP hw hK
    obtain ⟨hd, hi⟩ := hg
    obtain ⟨f0, f1, f2, f3, f4, f5⟩ := hf it (by simp)
    obtain ⟨hs, hgd, hx, es', ep', hdt, hsz, ent⟩ := frzN I hd
    obtain ⟨rfl, rfl⟩ := dict_ep hod hdt
    exact next_key_end (I.ok.hd hc) st hgd hdt hsz hi fun h' eb => ⟨rfl, I.turned (t' := s.toks) (fun b ob hb e => eb b ob hb e) f0 f1 f3 f4 f5⟩
  self := fun A i s Q E st h => by
    refine wpAny_pyIter_slot st.typeIs F.slot_dict_keyiterator_iter (wpAny_call_entry F.slot_dict_keyiterator_iter st.typeIs F.entry_dict_keyiterator_iter ?_ (F.args_dict_keyiterator_iter_1 _))
    show wpAny _ _ (ret (.ref it)) _ _ s
    exact wpAny_pure ⟨_, rfl, "dict_keyiterator", _, st.typeIs, F.slot_dict_keyiterator_next.lookup, h⟩
end
/-- what is walked: the keys (q = false) or the values (true) of the dict -/
def ItD (q : Bool) (w : World) (u : HO) (d : Addr) (o : Obj) (J : It) : Prop :=
  (∃ kvs, u = .dK kvs ∧ J = if q = true then Itd d o kvs else Itk d o kvs) ∨ (q = false ∧ ∃ es, u = dN w d es ∧ J = ItkN d o w es)
/-- e read, the dict locked -/
def tWalk (q : Bool) (w : World) (rd : L2.St → Hp → V → Prop) : L2.TI := fun σ H R => ∃ d o u J, rd σ H (.ref d) ∧ H d = some (.frz o u) ∧ ItD q w u d o J ∧ R J H
/-- e is read as it stands: p tells its tree -/
structure Rpth (X : Cx) (e : Expr) (p : TEnv → Sto → T → Prop) (rd : L2.St → Hp → V → Prop) : Prop where
  pe : PE X e (fun σ H Q => ∃ v, rd σ H v ∧ Q v H)
  rep : ∀ {M S0 H0 σ H τ S t}, Rel (gdOf X M) S0 H0 σ H τ S → p τ S t → ∃ v, rd σ H v ∧ Rep (gdOf X M) H S t v
  lock : ∀ {σ H v d o u}, H d = some u → isD u = true → rd σ H v → rd σ (upd H d (.frz o u)) v
section
variable {X : Cx} {e : Expr} {p : TEnv → Sto → T → Prop} {rd : L2.St → Hp → V → Prop} {i : Nat} {x f : Str} {q p' : Pos} {ok : Str → Bool}
def pVar (i : Nat) : TEnv → Sto → T → Prop := fun τ _ t => τ[i]? = some (some t)
def pFld (f : Str) (ok : Str → Bool) (p : TEnv → Sto → T → Prop) : TEnv → Sto → T → Prop := fun τ S t => ∃ x, p τ S x ∧ fldT f ok S x = some t
theorem pth_var (hN : X.N[i]? = some x) (hv : Vis X.env.scope x) (hd : (x == ("__debug__" : Str)) = false := by decide) (hcd : (x == ("__classdict__" : Str)) = false := by decide) : Rpth X (.Name x q) (pVar i) (fun σ _ v => σ[i]? = some (some v)) where
  pe := pe_var hN hv hd hcd
  rep := fun rel h => rel.env.2 i _ h
  lock := fun _ _ h => h
theorem pth_fld (P : Rpth X e p rd) (hk : ∀ c, ok c = true → Cls X.K (He.ga X.K c) ∧ NoAttr X.K (He.ga X.K c) f) (hb : attributeBase e f X.env (eval e X.env) = eval e X.env := by rfl) :
    Rpth X (.Attribute e f p') (pFld f ok p) (fun σ H v => ∃ a C d fs, rd σ H (.ref a) ∧ H a = some (.ins C d fs) ∧ Cls X.K C ∧ NoAttr X.K C f ∧ fs.lookup f = some v) where
  pe := (pe_fld P.pe hb).weak fun σ H Q ⟨v, ⟨a, C, d, fs, h1, h2, h3, h4, h5⟩, h6⟩ => ⟨.ref a, h1, a, C, d, fs, v, rfl, h2, h3, h4, h5, h6⟩
  rep := fun rel ⟨x, h1, h2⟩ => by
    obtain ⟨v, r1, r2⟩ := P.rep rel h1
    obtain ⟨a, c, d, ns, xs, w, rfl, g1, g2, g3, g4⟩ := ins_rep rel.sto r2 h2
    obtain ⟨k1, k2⟩ := hk c g2
    exact ⟨w, ⟨a, _, d, _, r1, g1, k1, k2, g3⟩, g4⟩
  lock := fun {σ H v d o u} h k ⟨a, C, dd, fs, h1, h2, h3, h4, h5⟩ => by
    refine ⟨a, C, dd, fs, P.lock h k h1, ?_, h3, h4, h5⟩
    rw [upd_ne fun z => ?_]
    · exact h2
    · rw [z, h] at h2
      cases h2
      cases k
end
theorem walk_keysN {w : World} {d : Addr} {o : Obj} {es : Es} {G : Gd} {S1 : Sto} {H1 : Hp} {ks : List T} (hd : H1 d = some (.frz o (dN w d es))) (hn : S1 d = none) (r : Reps G H1 S1 ks (es.map fun e => V.ref e.2.1)) : Wks G (ItkN d o w es) ks yes S1 H1 where
  go := fun M' S H i z nk ok x _ hz => by
    have l := r.length
    rw [List.length_map] at l
    obtain ⟨v, hv, rv⟩ := (Reps.ext x _ _ (Reps.mask (newK nk) _ _ r)).get hz
    have hi : i < es.length := by
      have := (List.getElem?_eq_some_iff.mp hz).1
      omega
    refine ⟨⟨(x.exact hd hn).1, hi⟩, ?_⟩
    rintro y H' ⟨rfl, e, he, rfl⟩
    rw [List.getElem?_map, he] at hv
    cases hv
    exact ⟨ok, Ext.refl, rv⟩
  stop := fun M' S H ok x _ => by
    have l := r.length
    rw [List.length_map] at l
    exact ⟨(x.exact hd hn).1, by omega⟩
theorem walk_vals {d : Addr} {o : Obj} {kvs : List (Key × V)} {G : Gd} {S1 : Sto} {H1 : Hp} {vs : List T} (hd : H1 d = some (.frz o (.dK kvs))) (hn : S1 d = none) (r : Reps G H1 S1 vs (kvs.map (·.2))) : Wks G (Itd d o kvs) vs yes S1 H1 where
  go := fun M' S H i z nk ok x _ hz => by
    have l := r.length
    rw [List.length_map] at l
    obtain ⟨v, hv, rv⟩ := (Reps.ext x _ _ (Reps.mask (newK nk) _ _ r)).get hz
    have hi : i < kvs.length := by
      have := (List.getElem?_eq_some_iff.mp hz).1
      omega
    refine ⟨⟨(x.exact hd hn).1, hi⟩, ?_⟩
    rintro y H' ⟨rfl, k, he⟩
    rw [List.getElem?_map, he] at hv
    cases hv
    exact ⟨ok, Ext.refl, rv⟩
  stop := fun M' S H ok x _ => by
    have l := r.length
    rw [List.length_map] at l
    exact ⟨(x.exact hd hn).1, by omega⟩
section
variable {X : Cx} {e tg : Expr} {p : TEnv → Sto → T → Prop} {rd : L2.St → Hp → V → Prop} {apos cpos : Pos}
theorem pi_walkK (P : Rpth X e p rd) : PI X tg e (tWalk false X.w rd) := by
  refine ⟨fun pins s σ H R I ⟨d, o, u, J, h1, h2, h3, h4⟩ => ?_⟩
  refine thn (P.pe.run pins s σ H (fun v H' => v = .ref d ∧ H' = H) I ⟨_, h1, rfl, rfl⟩) fun v s1 ⟨x, H1, I1, rx, ex, eh⟩ => ?_
  subst ex eh
  obtain rfl : v = Value.ref d := rx
  rcases h3 with ⟨kvs, rfl, rfl⟩ | ⟨_, es, rfl, rfl⟩
  · obtain ⟨hs, hgd, hx, es, ep, vs, hdt, hsz, kv, hm⟩ := I1.frzK h2
    refine iter_keys hs hgd hx hdt (pi_one (tk := s1.toks) I1 _ (turn_keys _ hdt) ⟨_, Heap.get?_push_size _ rfl, rfl, ?_⟩ h4)
    rw [hsz] <;> rfl
  · obtain ⟨hs, hgd, hx, en, ep, hdt, hsz, ent⟩ := frzN I1 h2
    refine iter_keys hs hgd hx hdt (pi_one (tk := s1.toks) I1 _ (turn_keysN _ hdt) ⟨_, Heap.get?_push_size _ rfl, rfl, ?_⟩ h4)
    rw [hsz] <;> rfl
/-- a loop over the keys (values) of the dict that p tells -/
def iWalk (q : Bool) (p : TEnv → Sto → T → Prop) : TTI := fun τ S Q _ => ∃ b ks vs, p τ S (.dct b ks vs) ∧ (q = true → b = false) ∧ Q (if q = true then vs else ks) yes S
/-- what the loop walks, in the locked heap -/
theorem walk_at {G : Gd} {w : World} {q b : Bool} {d : Addr} {o : Obj} {S1 : Sto} {H1 : Hp} {ks vs : List T} {u : HO} (hn : S1 d = none) (hd : H1 d = some (.frz o u)) (hb : q = true → b = false)
    (h : (b = false ∧ ∃ kvs : List (Key × V), u = .dK kvs ∧ Reps G H1 S1 ks (kvs.map fun p => kV p.1) ∧ Reps G H1 S1 vs (kvs.map (·.2))) ∨ (b = true ∧ ∃ es : Es, u = dN w d es ∧ Reps G H1 S1 ks (es.map fun e => V.ref e.2.1))) :
    ∃ J, ItD q w u d o J ∧ Wks G J (if q = true then vs else ks) yes S1 H1 := by
  rcases h with ⟨rfl, kvs, rfl, r1, r2⟩ | ⟨rfl, es, rfl, r1⟩
  · refine ⟨_, .inl ⟨kvs, rfl, rfl⟩, ?_⟩
    cases q with
    | true => exact walk_vals hd hn r2
    | false => exact wks_keys hd hn r1
  · cases q with
    | true => cases hb rfl
    | false => exact ⟨_, .inr ⟨rfl, es, rfl, rfl⟩, walk_keysN hd hn r1⟩
theorem extU_lock {S : Sto} {H : Hp} {d : Addr} {o : Obj} {u : HO} (k : isD u = true) (hd : H d = some u) : Ext S H S (upd H d (.frz o u)) := fun b v n => by
  by_cases e : b = d
  · subst e
    refine ⟨fun h f => ?_, fun h f => ?_⟩
    · rw [hd] at h
      cases h
      rw [k] at f
      cases f
    · rcases h with h | ⟨o', h⟩
      · rw [hd] at h
        cases h
        exact ⟨.inr ⟨o, upd_same⟩, n⟩
      · rw [hd] at h
        cases h
        cases k
  · exact ⟨fun h _ => ⟨(upd_ne e).trans h, n⟩, fun h _ => ⟨Rd.upd e h, n⟩⟩
theorem extU_unlock {S0 S S' : Sto} {H0 H H' : Hp} {d : Addr} {o : Obj} {u : HO} (k : isD u = true) (x1 : Ext S0 H0 S H) (hd : H d = some u) (x2 : Ext S (upd H d (.frz o u)) S' H') (hn : S d = none) : Ext S0 H0 S' (upd H' d u) := fun b v n => by
  by_cases e : b = d
  · subst e
    refine ⟨fun h f => ?_, fun h f => ?_⟩
    · have := ((x1 b v n).1 h f).1
      rw [hd] at this
      cases this
      rw [k] at f
      cases f
    · have r := ((x1 b v n).2 h f).1
      rcases r with r | ⟨o', r⟩
      · rw [hd] at r
        cases r
        exact ⟨.inl upd_same, ((x2 b (.frz o u) hn).1 upd_same rfl).2⟩
      · rw [hd] at r
        cases r
        cases k
  · refine ⟨fun h f => ?_, fun h f => ?_⟩
    · have q := (x1 b v n).1 h f
      have q2 := (x2 b v q.2).1 ((upd_ne e).trans q.1) f
      exact ⟨(upd_ne e).trans q2.1, q2.2⟩
    · have q := (x1 b v n).2 h f
      have q2 := (x2 b v q.2).2 (Rd.upd e q.1) f
      exact ⟨Rd.upd e q2.1, q2.2⟩
theorem extMU_unlock {S' : Sto} {H' : Hp} {d : Addr} {o : Obj} {u : HO} {M : Addr → Prop} (k : isD u = true) (hd : H' d = some (.frz o u)) : ExtM M S' H' S' (upd H' d u) := fun b v _ n => by
  by_cases e : b = d
  · subst e
    refine ⟨fun h f => ?_, fun h f => ?_⟩
    · rw [hd] at h
      cases h
      have f : isD u = false := f
      rw [k] at f
      cases f
    · rcases h with h | ⟨o', h⟩
      · rw [hd] at h
        cases h
        cases f
      · rw [hd] at h
        cases h
        exact ⟨.inl upd_same, n⟩
  · exact ⟨fun h _ => ⟨(upd_ne e).trans h, n⟩, fun h _ => ⟨Rd.upd e h, n⟩⟩
theorem stoU_unlock {G : Gd} {S' : Sto} {H' : Hp} {d : Addr} {o : Obj} {u : HO} (k : isD u = true) (hd : H' d = some (.frz o u)) (hn : S' d = none) (ok : StoOk G H' S') : StoOk G (upd H' d u) S' :=
  ⟨fun a c e => (ok.at_ a c e).extM (extMU_unlock k hd) (upd_ne fun z => by rw [z, hn] at e; cases e), fun a m => upd_some (ok.msk a m), ok.sep⟩
theorem relU_lock {G : Gd} {S0 S : Sto} {H0 H : Hp} {σ : L2.St} {τ : TEnv} {d : Addr} {o : Obj} {u : HO} (k : isD u = true) (hd : H d = some u) (hn : S d = none) (rel : Rel G S0 H0 σ H τ S) : Rel G S0 H0 σ (upd H d (.frz o u)) τ S := by
  have xl : Ext S H S (upd H d (.frz o u)) := extU_lock k hd
  exact ⟨rel.env.ext xl, ⟨fun a c e => (rel.sto.at_ a c e).ext xl (upd_ne fun z => by rw [z, hn] at e; cases e), fun a m => upd_some (rel.sto.msk a m), rel.sto.sep⟩, rel.ext.trans xl⟩
end
section
variable {X : Cx} {e tg : Expr} {body : List Stmt} {g : TTG} {t : TTS} {vs : List Nat} {pos : Pos} {q : Bool} {p : TEnv → Sto → T → Prop} {rd : L2.St → Hp → V → Prop}
theorem ts_forW {e' : Expr} (P : Rpth X e p rd) (hi : PI X tg e' (tWalk q X.w rd)) (hp : PassesOwn (model X.prog X.w) X.A X.env X.xe) (hc : X.calm = true) (hg : TGt X vs tg g) (hb : TSs X body t) (hs : ∀ v, foldedSetIterable e' X.env v = pure v := by intro _; rfl) :
    TS X (.For tg e' body [] pos) (cFor (iWalk q p) g t) := fun M S0 H0 E tk => by
  have base := ps_for (pos := pos) hp hc hi (hg M S0 H0 E tk) (hb M S0 H0 E tk) hs
  have loop : ∀ (D : Ends) (σ : L2.St) (H1 : Hp) (τ : TEnv) (S1 : Sto) (B : TD) (d : Addr) (o : Obj) (u : HO) (J : It) (ks : List T), Rel (gdOf X M) S0 H0 σ H1 τ S1 → rd σ H1 (.ref d) → H1 d = some (.frz o u) → ItD q X.w u d o J → Wks (gdOf X M) J ks yes S1 H1 → forT g t yes B E ks τ S1 →
      (∀ σ' H' τ' S', Rel (gdOf X M) S0 H0 σ' H' τ' S' → Ext S1 H1 S' H' → B.nx τ' S' → D.nx σ' H') → (∀ z S' v H', StoOk (gdOf X M) H' S' → Ext S1 H1 S' H' → Rep (gdOf X M) H' S' z v → B.rt z S' → D.rt v H') →
      tFor (tWalk q X.w rd) (LG X M vs S0 H0 g) (LS X M S0 H0 t E) D σ H1 := by
    intro D σ H1 τ S1 B d o u J ks rel hσ hd hJ wk hq k1 k2
    refine ⟨d, o, u, J, hσ, hd, hJ, ?_⟩
    let W : Nat → Nat → L2.St → Hp → Prop := fun i m σ' H' => m = ks.length - i ∧ i ≤ ks.length ∧ ∃ τ' S', Rel (gdOf X M) S0 H0 σ' H' τ' S' ∧ Ext S1 H1 S' H' ∧ forT g t yes B E (ks.drop i) τ' S'
    refine ⟨W, ⟨ks.length, by simp, Nat.zero_le _, τ, S1, rel, Ext.refl, hq⟩, ?_⟩
    rintro i m σ2 H2 ⟨rfl, hi, τ2, S2, rel2, x2, q2⟩
    by_cases hlt : i < ks.length
    · rw [List.drop_eq_getElem_cons hlt] at q2
      obtain ⟨hgd, q2⟩ := q2
      obtain ⟨hgo, hy⟩ := wk.go M S2 H2 i ks[i] (fun a h n => absurd h n) rel2.sto x2 hgd (List.getElem?_eq_getElem hlt)
      refine .inr ⟨hgo, W (i + 1) (ks.length - (i + 1)), fun σ' H' w => ⟨_, by omega, w⟩, fun x H' y => ?_⟩
      obtain ⟨o3, x3, r3⟩ := hy x H' y
      refine ⟨τ2, S2, ks[i], _, rel2.step o3 x3, r3, q2, fun σ4 H4 τ4 S4 rel4 x4 _ q4 => ?_⟩
      have xx : Ext S1 H1 S4 H4 := (x2.trans x3).trans x4
      refine ⟨τ4, S4, _, rel4, q4, fun σ5 H5 τ5 S5 rel5 x5 q5 => ⟨rfl, hlt, τ5, S5, rel5, xx.trans x5, q5⟩, fun z S5 v H5 o5 x5 r5 q5 => k2 z S5 v H5 o5 (xx.trans x5) r5 q5,
        fun σ5 H5 τ5 S5 rel5 x5 q5 => k1 _ _ _ _ rel5 (xx.trans x5) q5, fun σ5 H5 τ5 S5 rel5 x5 q5 => ⟨rfl, hlt, τ5, S5, rel5, xx.trans x5, q5⟩⟩
    · have e : i = ks.length := by omega
      subst e
      rw [List.drop_length] at q2
      exact .inl ⟨wk.stop M S2 H2 rel2.sto x2 q2.1, k1 _ _ _ _ rel2 x2 q2.2⟩
  refine ⟨fun pins s σ H D I ⟨τ, S, B, rel, ⟨b, ks, ws, hτ, hb, hq⟩, k1, k2, k3, k4⟩ => ?_⟩
  obtain ⟨v, hσ, rv⟩ := P.rep rel hτ
  have key : ∀ d u, v = .ref d → At M H S d u → isD u = true → isFrz u = false → ((b = false ∧ ∃ kvs : List (Key × V), u = .dK kvs ∧ Reps (gdOf X M) H S ks (kvs.map fun p => kV p.1) ∧ Reps (gdOf X M) H S ws (kvs.map (·.2))) ∨ (b = true ∧ ∃ es : Es, u = dN X.w d es ∧ Reps (gdOf X M) H S ks (es.map fun e => V.ref e.2.1))) →
      wpAny (model X.prog X.w) X.A (exec (.For tg e' body [] pos) X.env) (SP X pins D) X.xe s := by
    intro d u ev h1 hu hf hr
    subst ev
    obtain ⟨hr1, hn, hm⟩ := h1
    rcases hr1 with hH | ⟨o, hH⟩
    · refine (ps_lock base).run pins s σ H D I ⟨d, u, hH, ?_, fun od => ?_⟩
      · cases u <;> first | trivial | cases hu
      have xl : Ext S H S (upd H d (.frz od u)) := extU_lock hu hH
      have rl := relU_lock (o := od) hu hH hn rel
      obtain ⟨J, hJ, wk⟩ := walk_at (G := gdOf X M) (H1 := upd H d (.frz od u)) (o := od) hn upd_same hb (hr.imp (fun ⟨z, kvs, e, r1, r2⟩ => ⟨z, kvs, e, Reps.ext xl _ _ r1, Reps.ext xl _ _ r2⟩) fun ⟨z, es, e, r1⟩ => ⟨z, es, e, Reps.ext xl _ _ r1⟩)
      refine loop _ σ _ τ S B d od u J _ rl (P.lock hH hu hσ) upd_same hJ wk hq (fun σ' H' τ' S' rel' x' q' => ?_) fun z S' v H' o' x' r' q' => ?_
      · have hd' : H' d = some (.frz od u) ∧ S' d = none := (x' d _ hn).1 upd_same rfl
        refine ⟨hd'.1, k1 _ _ τ' S' ⟨⟨rel'.env.1, fun j t e => ?_⟩, stoU_unlock hu hd'.1 hd'.2 rel'.sto, extU_unlock hu rel.ext hH x' hn⟩ (extU_unlock hu Ext.refl hH x' hn) q'⟩
        obtain ⟨v, e1, e2⟩ := rel'.env.2 j t e
        exact ⟨v, e1, Rep.extM (extMU_unlock hu hd'.1) _ _ e2⟩
      · have hd' : H' d = some (.frz od u) ∧ S' d = none := (x' d _ hn).1 upd_same rfl
        exact ⟨hd'.1, k2 z S' v _ (stoU_unlock hu hd'.1 hd'.2 o') (extU_unlock hu Ext.refl hH x' hn) (Rep.extM (extMU_unlock hu hd'.1) _ _ r') q'⟩
    · obtain ⟨J, hJ, wk⟩ := walk_at (G := gdOf X M) hn hH hb hr
      exact base.run pins s σ H D I (loop D σ H τ S B d o u J _ rel hσ hH hJ wk hq k1 k2)
  cases rv with
  | dK h1 h2 h3 => exact key _ _ rfl h1 rfl rfl (.inl ⟨rfl, _, rfl, h2, h3⟩)
  | dN h1 h2 h3 h4 => exact key _ _ rfl h1 rfl rfl (.inr ⟨rfl, _, rfl, h3⟩)
end
section
variable {X : Cx} {e elt tg : Expr} {ifs : List Expr} {scope : Scope} {g : TTG} {tc : TTB} {te : TTE} {pos : Pos} {ow : List (Str × Nat)} {q : Bool} {p : TEnv → Sto → T → Prop} {rd : L2.St → Hp → V → Prop}
theorem te_compW {e' : Expr} (P : Rpth X e p rd) (hi : PI X tg e' (tWalk q X.w rd)) (hc : X.calm = true) (hND : X.N.Nodup) (ok : BlkOk X.N X.env.scope scope ow) (hg : Blk X scope fun Y => TGt Y (ow.map (·.2)) tg g) (ht : Blk X scope fun Y => TBs Y ifs tc) (he : Blk X scope fun Y => TE Y elt te)
    (hs : ∀ v, foldedSetIterable e' X.env v = pure v := by intro _; rfl) :
    TE X (.ListComp elt [⟨tg, e', ifs, 0⟩] scope pos) (cComp (iWalk q p) g tc te (ow.map (·.2))) := fun M S0 H0 E tk => by
  have base : PE X (.ListComp elt [⟨tg, e', ifs, 0⟩] scope pos) (tLc (tWalk q X.w rd) (XG X (ow.map (·.2)) S0 H0 g) (XB X S0 H0 tc) (XE' X S0 H0 te) (ow.map (·.2))) := pe_lc hc hND hi ok (fun s H C cl fp => blk_g (hg s H C cl fp) fun _ => takes_blk) (fun s H C cl fp => blk_t (ht s H C cl fp) fun _ => takes_blk) (fun s H C cl fp => blk_e (he s H C cl fp) fun _ => takes_blk) hs
  have loop : ∀ (Q : VK) (σ : L2.St) (H1 : Hp) (τ : TEnv) (S1 : Sto) (Qt : T → Sto → Prop) (d : Addr) (o : Obj) (u : HO) (J : It) (ks : List T), Rel (gdOf X M) S0 H0 σ H1 τ S1 → rd σ H1 (.ref d) → H1 d = some (.frz o u) → ItD q X.w u d o J → Wks (gdOf X M) J ks yes S1 H1 → compT g tc te (ow.map (·.2)) yes τ (fun zs S2 => Qt (.lst zs) S2) ks [] S1 →
      (∀ z S' v H', Qt z S' → StoOk (gdOf X M) H' S' → Ext S1 H1 S' H' → Rep (gdOf X M) H' S' z v → Q v H') →
      tLc (tWalk q X.w rd) (XG X (ow.map (·.2)) S0 H0 g) (XB X S0 H0 tc) (XE' X S0 H0 te) (ow.map (·.2)) σ H1 Q := by
    intro Q σ H1 τ S1 Qt d o u J ks rel hσ hd hJ wk hq k
    have q := comp_read (X := X) (ti := fun _ S' Qt _ => S' = S1 ∧ Qt ks yes S1) (g := g) (tc := tc) (te := te) (own := ow.map (·.2)) (E := E) (Q := Q) (fun zs S2 => Qt (.lst zs) S2) rel ⟨rfl, hq⟩ fun zs S2 D H2 vs q o2 x2 hD nD nM xD r => k (.lst zs) S2 (.ref D) H2 q (o2.takeOff fun _ m => .inl m) x2 (.lst ⟨hD, nD, nM⟩ (r.takeOff fun _ m => .inl m))
    obtain ⟨τ', S', Qt', rel', ⟨rfl, h'⟩, k'⟩ := q
    exact ⟨d, o, u, J, hσ, hd, hJ, k' ks yes S' J H1 h' rel'.sto Ext.refl wk⟩
  refine ⟨fun pins s σ H Q I ⟨τ, S, Qt, rel, ⟨b, ks, ws, hτ, hb, hq⟩, k⟩ => ?_⟩
  obtain ⟨v, hσ, rv⟩ := P.rep rel hτ
  have key : ∀ d u, v = .ref d → At M H S d u → isD u = true → isFrz u = false → ((b = false ∧ ∃ kvs : List (Key × V), u = .dK kvs ∧ Reps (gdOf X M) H S ks (kvs.map fun p => kV p.1) ∧ Reps (gdOf X M) H S ws (kvs.map (·.2))) ∨ (b = true ∧ ∃ es : Es, u = dN X.w d es ∧ Reps (gdOf X M) H S ks (es.map fun e => V.ref e.2.1))) →
      wpAny (model X.prog X.w) X.A (eval (.ListComp elt [⟨tg, e', ifs, 0⟩] scope pos) X.env) (EP X pins σ Q) X.xe s := by
    intro d u ev h1 hu hf hr
    subst ev
    obtain ⟨hr1, hn, hm⟩ := h1
    rcases hr1 with hH | ⟨o, hH⟩
    · refine (pe_lock base).run pins s σ H Q I ⟨d, u, hH, ?_, fun od => ?_⟩
      · cases u <;> first | trivial | cases hu
      have xl : Ext S H S (upd H d (.frz od u)) := extU_lock hu hH
      have rl := relU_lock (o := od) hu hH hn rel
      obtain ⟨J, hJ, wk⟩ := walk_at (G := gdOf X M) (H1 := upd H d (.frz od u)) (o := od) hn upd_same hb (hr.imp (fun ⟨z, kvs, e, r1, r2⟩ => ⟨z, kvs, e, Reps.ext xl _ _ r1, Reps.ext xl _ _ r2⟩) fun ⟨z, es, e, r1⟩ => ⟨z, es, e, Reps.ext xl _ _ r1⟩)
      refine loop _ σ _ τ S Qt d od u J _ rl (P.lock hH hu hσ) upd_same hJ wk hq fun z S' v H' q' o' x' r' => ?_
      have hd' : H' d = some (.frz od u) ∧ S' d = none := (x' d _ hn).1 upd_same rfl
      exact ⟨hd'.1, k z S' v _ q' (stoU_unlock hu hd'.1 hd'.2 o') (extU_unlock hu Ext.refl hH x' hn) (Rep.extM (extMU_unlock hu hd'.1) _ _ r')⟩
    · obtain ⟨J, hJ, wk⟩ := walk_at (G := gdOf X M) hn hH hb hr
      exact base.run pins s σ H Q I (loop Q σ H τ S Qt d o u J _ rel hσ hH hJ wk hq k)
  cases rv with
  | dK h1 h2 h3 => exact key _ _ rfl h1 rfl rfl (.inl ⟨rfl, _, rfl, h2, h3⟩)
  | dN h1 h2 h3 h4 => exact key _ _ rfl h1 rfl rfl (.inr ⟨rfl, _, rfl, h3⟩)
end
end TL
namespace TL
open PySem PySem.Spec PyProof.Rows
open L2 hiding putF
def walkM {κ : Type} (q : Bool) (v : T) : PM κ (List T) := match v with
  | .dct b ks vs => if q = true then (if b = true then stuck else pu vs) else pu ks
  | _ => stuck
/-- a path, told -/
def XPt (pat : TEnv) (p : TEnv → Sto → T → Prop) (m : Option T) : Prop := ∀ τ S, En pat τ → ∀ t, m = some t → p τ S t
theorem fldT_up {f : Str} {ok : Str → Bool} {x t : T} {S : Sto} (h : fldT f ok emp x = some t) : fldT f ok S x = some t := by
  cases x <;> first | exact h | cases h
section
variable {κ : Type} {W : κ → Sto} {p : TEnv} {l : Cs} {β : Type} {pp : TEnv → Sto → T → Prop} {mo : Option T} {i : Nat} {x : T} {f c m : Str} {ok : Str → Bool} {q : Bool}
theorem xpt_var (h : p[i]? = some (some x)) : XPt p (pVar i) (some x) := fun τ S hE t e => by
  cases e
  exact hE.get h
theorem xpt_fld (h : XPt p pp mo) : XPt p (pFld f ok pp) (mo.bind (fldT f ok emp)) := fun τ S hE t e => by
  obtain ⟨y, hy, e⟩ := Option.bind_eq_some_iff.mp e
  exact ⟨y, h τ S hE y hy, fldT_up e⟩
theorem xiy_walk (h : XPt p pp mo) : XIy W p l (iWalk q pp) (bd (ofO mo) (walkM q)) := fun Q E k τ S hE j s => by
  cases e : mo with
  | none => rw [e] at s; exact s.elim
  | some t =>
    rw [e] at s
    have s : Sat (walkM q t k) _ _ := s
    cases t with
    | dct b ks vs =>
      refine ⟨b, ks, vs, h τ S hE _ e, ?_, ?_⟩
      · intro hq
        subst hq
        cases b with
        | false => rfl
        | true => exact s.elim
      · cases q with
        | false => exact s S j
        | true =>
          cases b with
          | false => exact s S j
          | true => exact s.elim
    | _ => exact s.elim
def isOb (c m : Str) (x : T) : Bool := match x with
  | .obj d ns _ => decide (d = c) && decide (m ∉ ns)
  | _ => false
theorem isOb_I {c m : Str} {x : T} {S : Sto} (h : isOb c m x = true) : isI c m S x := by
  cases x with
  | obj d ns ts =>
    have h : (decide (d = c) && decide (m ∉ ns)) = true := h
    rw [Bool.and_eq_true, decide_eq_true_iff, decide_eq_true_iff] at h
    exact h
  | _ => cases h
variable {o : TTE} {mx : PM κ T}
theorem xe_methO {n : Nat} {g : List T → PM Unit T} {r : TTA} {mr : (List T → PM κ T) → PM κ T} (ho : XE W p l o mx) (h : XA W p l n r mr) :
    XE W p l (cMeth c m (spU g) o r) (bd mx fun x => bd (gd (isOb c m x = true)) fun _ => mr fun xs => lft (g (x :: xs))) := fun Q E k τ S hE i s => by
  refine ho _ _ k τ S hE i ((Sat.bd.mp s).mono (fun x k1 s1 S1 i1 => ?_) fun _ _ q => q)
  obtain ⟨hx, s2⟩ := sat_gd (Sat.bd.mp s1)
  refine ⟨isOb_I hx, ?_⟩
  exact h _ _ _ _ E k1 τ S1 hE i1 s2 (fun zs k' S' e i' s' => (Sat.lft.mp s').mono (fun v _ q => q S' i') fun x _ q => q S' i'.nil) fun x k' S' i' q => q S' i'
def spFz (c : Str) (f : List T → PM Unit T) : SpT := fun ts S Q E => ∃ p vs, ts = .ref p :: vs ∧ S p = some (.ins c [] []) ∧ Sat (f vs ()) (fun z _ => ∀ S', Sub (offs S p) S' → Fz S' (offs S p) (.ref p) z → Q .non S') (fun x _ => ∀ S', Sub (offs S p) S' → E x S')
theorem spFz_len {c : Str} {f : List T → PM Unit T} {n : Nat} (h : Ar n f) : ∀ ts S Q E, spFz c f ts S Q E → ts.length = n + 1 := fun ts S Q E ⟨p, vs, e, _, s⟩ => by
  rw [e, List.length_cons, h vs () (sat_nb s)]
theorem SI.subW {l : Cs} {k : κ} {S S' : Sto} (i : SI W l k S) (s : Sub S S') : SI W [] k S' := ⟨nofun, nofun, List.nodup_nil, fun a c e => s a c (i.base a c e)⟩
theorem xe_makeF {n : Nat} {g : List T → PM Unit T} {r : TTA} {mr : (List T → PM κ T) → PM κ T} (h : XA W p l n r mr) : XE W p l (cMake c (spFz c g) r) (mr fun vs => lft (g vs)) := fun Q E k τ S hE i s =>
  h _ _ _ _ E k τ S hE i s (fun zs k' S' e i' s' a na => ⟨a, zs, rfl, ups_same, (Sat.lft.mp s').mono (fun z _ q S2 sub fz => by
    rw [offs_ups na] at sub fz
    exact ⟨rfl, S', z, sub, fz, q S' i'⟩) fun x _ q S2 sub => by
    rw [offs_ups na] at sub
    exact q S2 (i'.subW sub)⟩) fun x k' S' i' q => q S' i'
end
end TL
namespace TL
open PySem PySem.Spec PyProof.Rows
open L2 hiding putF
/-- a height: a row, a track -/
def hgT (p : Int × Int) : T := .tup [.int p.1, .int p.2]
def hgD (p : Int × Int) : PyData := .tuple [.int p.1, .int p.2]
def hgsT : List T → Option (List (Int × Int))
  | [] => some []
  | .tup [.int a, .int b] :: ts => (hgsT ts).map ((a, b) :: ·)
  | _ => none
def hlt (p q : Int × Int) : Bool := decide (p.1 < q.1) || (decide (p.1 = q.1) && decide (p.2 < q.2))
def minH (p : Int × Int) (ps : List (Int × Int)) : Int × Int := ps.foldl (fun a y => if hlt y a = true then y else a) p
def maxH (p : Int × Int) (ps : List (Int × Int)) : Int × Int := ps.foldl (fun a y => if hlt a y = true then y else a) p
theorem hgsT_map : ∀ ps : List (Int × Int), hgsT (ps.map hgT) = some ps
  | [] => rfl
  | (a, b) :: ps => by
    show (hgsT (ps.map hgT)).map ((a, b) :: ·) = _
    rw [hgsT_map ps]
    rfl
theorem hgsT_is : ∀ {ts : List T} {ps : List (Int × Int)}, hgsT ts = some ps → ts = ps.map hgT
  | [], ps, e => by cases e; rfl
  | t :: ts, ps, e => by
    unfold hgsT at e
    split at e
    · rename_i e1; cases e1
    · rename_i a b ts' e1
      cases e1
      obtain ⟨qs, h, rfl⟩ := Option.map_eq_some_iff.mp e
      rw [hgsT_is h]
      rfl
    · cases e
theorem hlt_dat (p q : Int × Int) : PySem.W.dataLt (hgD p) (hgD q) = hlt p q := by
  have e : PySem.W.dataLt (hgD p) (hgD q) = ltt (hgT p) (hgT q) := ltt_dat (hgT p) (hgT q) rfl rfl rfl (fun h => nomatch h)
  rw [e]
  obtain ⟨a, b⟩ := p
  obtain ⟨c, d⟩ := q
  show ltts [.int a, .int b] [.int c, .int d] = _
  unfold hlt
  have e1 : eqt (.int a) (.int c) = decide (a = c) := rfl
  have e2 : eqt (.int b) (.int d) = decide (b = d) := rfl
  simp only [ltts, e1, e2, decide_eq_true_eq]
  show (if a = c then (if b = d then false else decide (b < d)) else decide (a < c)) = _
  by_cases h : a = c
  · subst h
    rw [if_pos rfl]
    by_cases h2 : b = d
    · subst h2; simp
    · rw [if_neg h2]; simp
  · rw [if_neg h]; simp [h]
theorem minH_dat : ∀ (ps : List (Int × Int)) (p : Int × Int), PySem.W.minD (hgD p) (ps.map hgD) = hgD (minH p ps)
  | [], p => rfl
  | y :: ys, p => by
    show PySem.W.minD (if PySem.W.dataLt (hgD y) (hgD p) = true then hgD y else hgD p) (ys.map hgD) = hgD (minH (if hlt y p = true then y else p) ys)
    rw [hlt_dat]
    by_cases z : hlt y p = true
    · rw [if_pos z, if_pos z, minH_dat ys y]
    · rw [if_neg z, if_neg z, minH_dat ys p]
theorem maxH_dat : ∀ (ps : List (Int × Int)) (p : Int × Int), PySem.W.maxD (hgD p) (ps.map hgD) = hgD (maxH p ps)
  | [], p => rfl
  | y :: ys, p => by
    show PySem.W.maxD (if PySem.W.dataLt (hgD p) (hgD y) = true then hgD y else hgD p) (ys.map hgD) = hgD (maxH (if hlt p y = true then y else p) ys)
    rw [hlt_dat]
    by_cases z : hlt p y = true
    · rw [if_pos z, if_pos z, maxH_dat ys y]
    · rw [if_neg z, if_neg z, maxH_dat ys p]
theorem hgD_inj {p q : Int × Int} (h : hgD p = hgD q) : p = q := by
  injection h with h
  injection h with h1 h2
  injection h1 with h1
  injection h2 with h2 _
  injection h2 with h2
  exact Prod.ext h1 h2
theorem depth_hg : ∀ ps : List (Int × Int), PyData.depthAll (ps.map hgD) ≤ 1
  | [] => Nat.zero_le _
  | p :: ps => by
    show max (PyData.depth (hgD p)) (PyData.depthAll (ps.map hgD)) ≤ 1
    have := depth_hg ps
    have h1 : PyData.depth (hgD p) = 1 := rfl
    omega
section
variable {X : Cx} {pins : List (Addr × Obj)} {s : Shared} {σ : L2.St} {H : Hp} {S : Sto} {M : Addr → Prop}
theorem reads_hg (I : Inv X pins σ H s) {p : Int × Int} {v : V} {u : Value} (r : Rep (gdOf X M) H S (hgT p) v) (q : RelV v u) : Reads s.heap u (hgD p) [] := by
  cases r with
  | @tup a xs _ h1 h2 =>
    obtain rfl := (show u = Value.ref a from q)
    obtain ⟨its, hv, ⟨ob, g1, g2, n, g4⟩, hz⟩ := I.tuple h1.sq
    cases h2 with
    | cons a1 a2 =>
      cases a2 with
      | cons a3 a4 =>
        cases a4
        cases a1
        cases a3
        exact .tuple g1 g2 g4 (reads_ints (ns := [p.1, p.2]) hv)
theorem reads_hgs (I : Inv X pins σ H s) : ∀ {ps : List (Int × Int)} {vs : List V} {us : List Value}, Reps (gdOf X M) H S (ps.map hgT) vs → Vals vs us → ReadsAll s.heap us (ps.map hgD) []
  | [], _, _, r, q => by
    cases r
    cases q
    exact .nil
  | p :: ps, _, _, r, q => by
    rw [List.map_cons] at r
    cases r with
    | cons r1 r2 =>
      cases q with
      | cons q1 q2 => exact .cons (as := []) (reads_hg I r1 q1) (reads_hgs I r2 q2)
theorem vals_get : ∀ {vs : List V} {us : List Value} {i : Nat} {u : Value}, Vals vs us → us[i]? = some u → ∃ v, vs[i]? = some v ∧ RelV v u
  | _, _, i, u, .nil, e => by simp at e
  | _, _, 0, u, .cons h1 h2, e => by
    simp at e
    subst e
    exact ⟨_, rfl, h1⟩
  | _, _, i + 1, u, .cons h1 h2, e => by
    simp at e
    obtain ⟨v, a, b⟩ := vals_get h2 e
    exact ⟨v, by simpa using a, b⟩
end
def min1H (S : Sto) : List T → Option T
  | [t] => match res S t with
    | .lst ts => (match hgsT ts with
      | some (p :: ps) => some (hgT (minH p ps))
      | _ => none)
    | _ => none
  | _ => none
def max1H (S : Sto) : List T → Option T
  | [t] => match res S t with
    | .lst ts => (match hgsT ts with
      | some (p :: ps) => some (hgT (maxH p ps))
      | _ => none)
    | _ => none
  | _ => none
section
variable {X : Cx}
theorem hg_call {b : String} {F : (Int × Int) → List (Int × Int) → Int × Int} {D : PyData → List PyData → PyData} (hc : X.calm = true) (hu : X.A.units + 64 < cLine) (hD : ∀ p ps, D (hgD p) (ps.map hgD) = hgD (F p ps))
    (hcall : ∀ {prog : Program} {w : World} {A : Around} {E : Value → Shared → Prop} {s : Shared} {l : Addr} {vs : Array Value} {x : PyData} {xs : List PyData} {as : List Addr} {Q : Value → Shared → Prop}, A.handled = none → s.heap.IsList l vs → ReadsAll s.heap vs.toList (x :: xs) as → PySem.W.AlikeAll (x :: xs) → A.units + 1 + PyData.depthAll (x :: xs) < cLine →
      (∀ (i : Nat) v h' tk bs, vs[i]? = some v → Reads h' v (D x xs) bs → (∀ b o, s.heap.get? b = some o → h'.get? b = some o) → Q v { s with heap := h', toks := tk }) → wpAny (model prog w) A (call (.builtin b) [.ref l]) Q E s) :
    CallT X (.builtin b) (fun S ts => match ts with
      | [t] => match res S t with
        | .lst ts => (match hgsT ts with
          | some (p :: ps) => some (hgT (F p ps))
          | _ => none)
        | _ => none
      | _ => none) := by
  intro pins s σ H xs us Q I r h
  obtain ⟨M, S, ts, t, o, rs, e, fin⟩ := h
  dsimp only at e
  split at e
  · obtain ⟨v, rfl, ry⟩ := rs.one
    split at e
    · rename_i zs hz
      split at e
      · rename_i p ps hp
        cases e
        obtain ⟨a, ws, rfl, h1, h2⟩ := res_lst o ry hz
        obtain ⟨u, rfl, rx⟩ := L2.vals1 r
        cases rx
        obtain ⟨its, rv, pl, hl⟩ := I.list (SqL.of h1)
        have ez := hgsT_is hp
        subst ez
        have rd : ReadsAll s.heap its.toArray.toList (hgD p :: ps.map hgD) [] := by
          have := reads_hgs (ps := p :: ps) I h2 rv
          simpa using this
        have lst : s.heap.IsList a its.toArray := by
          obtain ⟨ob, n, ho, hcl, _, hd⟩ := pl
          exact ⟨ob, ho, hcl, n, hd⟩
        have isS : ∀ x ∈ (hgD p :: ps.map hgD), ∃ z, x = hgD z := fun x hx => by
          rcases List.mem_cons.mp hx with rfl | hx
          · exact ⟨p, rfl⟩
          · obtain ⟨z, _, rfl⟩ := List.mem_map.mp hx
            exact ⟨z, rfl⟩
        refine hcall (I.ok.hd hc) lst rd ⟨fun x hx z hz => ?_, fun x hx => ?_⟩ ?_ fun i v g tk bs hv hr kp => ?_
        · obtain ⟨a1, rfl⟩ := isS x hx
          obtain ⟨a2, rfl⟩ := isS z hz
          rfl
        · obtain ⟨a1, rfl⟩ := isS x hx
          exact fun h => nomatch h
        · have := depth_hg (p :: ps)
          rw [List.map_cons] at this
          omega
        · rw [hD] at hr
          have hv' : its[i]? = some v := by simpa using hv
          obtain ⟨w, hw, rw1⟩ := vals_get rv hv'
          have I2 := I.kept (t' := tk) kp
          have hi : i < ((p :: ps).map hgT).length := by
            rw [h2.length]
            exact (List.getElem?_eq_some_iff.mp hw).1
          obtain ⟨w', hw', rep⟩ := h2.get (i := i) (List.getElem?_eq_getElem hi)
          rw [hw] at hw'
          cases hw'
          rw [List.getElem_map] at rep
          have r1 := reads_hg (s := { s with heap := g, toks := tk }) I2 rep rw1
          have e1 := (Reads.unique (h := g) r1 _ _ hr).1
          have e2 := hgD_inj e1
          rw [e2] at rep
          exact ⟨w, H, I2, rw1, fin _ H o Ext.refl rep⟩
      · cases e
    · cases e
  · cases e
theorem fn_min1H (hc : X.calm = true) (hu : X.A.units + 64 < cLine) : CallT X (.builtin "min") min1H := hg_call hc hu (fun p ps => minH_dat ps p) fun a b c d e f => PySem.W.min_list_data a b c d e f
theorem fn_max1H (hc : X.calm = true) (hu : X.A.units + 64 < cLine) : CallT X (.builtin "max") max1H := hg_call hc hu (fun p ps => maxH_dat ps p) fun a b c d e f => PySem.W.max_list_data a b c d e f
end
theorem fnv_min1H : FnV min1H := fnv_one (fun x => match x with
  | .lst ts => (match hgsT ts with
    | some (p :: ps) => some (hgT (minH p ps))
    | _ => none)
  | _ => none) (fun _ _ => rfl) rfl (fun _ _ _ => rfl) (fun _ => rfl) fun _ _ _ => rfl
theorem fnv_max1H : FnV max1H := fnv_one (fun x => match x with
  | .lst ts => (match hgsT ts with
    | some (p :: ps) => some (hgT (maxH p ps))
    | _ => none)
  | _ => none) (fun _ _ => rfl) rfl (fun _ _ _ => rfl) (fun _ => rfl) fun _ _ _ => rfl
theorem min1H_l {p : Int × Int} {ps : List (Int × Int)} : min1H emp [.lst ((p :: ps).map hgT)] = some (hgT (minH p ps)) := by
  show (match hgsT ((p :: ps).map hgT) with
    | some (p :: ps) => some (hgT (minH p ps))
    | _ => none) = _
  rw [hgsT_map]
theorem max1H_l {p : Int × Int} {ps : List (Int × Int)} : max1H emp [.lst ((p :: ps).map hgT)] = some (hgT (maxH p ps)) := by
  show (match hgsT ((p :: ps).map hgT) with
    | some (p :: ps) => some (hgT (maxH p ps))
    | _ => none) = _
  rw [hgsT_map]
end TL
namespace TL
open PySem PySem.Spec PyProof.Rows
open L2 hiding putF
inductive Tg where
  | self | folk | cd | pd
  | fam (f : List Nm)
  | ch (n : Nm)
  | pa (n : Nm)
  deriving DecidableEq
structure KS (S0 S : Sto) (D : Tg → Prop) (A : Tg → Addr) (C : Tg → Cell) : Prop where
  at_ : ∀ t, D t → S (A t) = some (C t)
  own : ∀ t, D t → S0 (A t) = none
  inj : ∀ t u, D t → D u → A t = A u → t = u
  base : ∀ b c, S0 b = some c → S b = some c
def updT {α : Type} (f : Tg → α) (t : Tg) (x : α) : Tg → α := fun u => if u = t then x else f u
theorem updT_same {α : Type} {f : Tg → α} {t : Tg} {x : α} : updT f t x t = x := if_pos rfl
theorem updT_ne {α : Type} {f : Tg → α} {t u : Tg} {x : α} (h : u ≠ t) : updT f t x u = f u := if_neg h
section
variable {S0 S : Sto} {D D' : Tg → Prop} {A A' : Tg → Addr} {C C' : Tg → Cell}
theorem KS.congr (k : KS S0 S D A C) (hD : ∀ t, D' t → D t) (hA : ∀ t, D' t → A' t = A t) (hC : ∀ t, D' t → C' t = C t) : KS S0 S D' A' C' :=
  ⟨fun t h => by rw [hA t h, hC t h]; exact k.at_ t (hD t h), fun t h => by rw [hA t h]; exact k.own t (hD t h), fun t u h1 h2 e => k.inj t u (hD t h1) (hD u h2) (by rw [← hA t h1, ← hA u h2]; exact e), k.base⟩
theorem KS.put {t : Tg} {c : Cell} (k : KS S0 S D A C) (h : D t) : KS S0 (ups S (A t) c) D A (updT C t c) := ⟨fun u hu => by
  by_cases e : u = t
  · rw [e, ups_same, updT_same]
  · rw [updT_ne e, ups_ne fun z => e (k.inj u t hu h z)]
    exact k.at_ u hu, k.own, k.inj, fun b d hb => by
  have : b ≠ A t := fun z => by rw [z, k.own t h] at hb; cases hb
  rw [ups_ne this]
  exact k.base b d hb⟩
theorem KS.new {t : Tg} {c : Cell} {p : Addr} (k : KS S0 S D A C) (n : S p = none) (h : ¬ D t) : KS S0 (ups S p c) (fun u => D u ∨ u = t) (updT A t p) (updT C t c) := by
  have ne : ∀ u, D u → A u ≠ p := fun u hu z => by
    have := k.at_ u hu
    rw [z, n] at this
    cases this
  have nt : ∀ u, D u → u ≠ t := fun u hu z => h (z ▸ hu)
  refine ⟨fun u hu => ?_, fun u hu => ?_, fun u v hu hv e => ?_, fun b d hb => ?_⟩
  · rcases hu with hu | rfl
    · rw [updT_ne (nt u hu), updT_ne (nt u hu), ups_ne (ne u hu)]
      exact k.at_ u hu
    · rw [updT_same, updT_same, ups_same]
  · rcases hu with hu | rfl
    · rw [updT_ne (nt u hu)]
      exact k.own u hu
    · rw [updT_same]
      cases q : S0 p with
      | none => rfl
      | some d =>
        have := k.base p d q
        rw [n] at this
        cases this
  · rcases hu with hu | rfl
    · rcases hv with hv | rfl
      · rw [updT_ne (nt u hu), updT_ne (nt v hv)] at e
        exact k.inj u v hu hv e
      · rw [updT_ne (nt u hu), updT_same] at e
        exact absurd e (ne u hu)
    · rcases hv with hv | rfl
      · rw [updT_ne (nt v hv), updT_same] at e
        exact absurd e.symm (ne v hv)
      · rfl
  · have : b ≠ p := fun z => by
      have := k.base b d hb
      rw [z, n] at this
      cases this
    rw [ups_ne this]
    exact k.base b d hb
theorem KS.sub (k : KS S0 S D A C) : Sub S0 S := k.base
end
/-- how far it came -/
structure Kst where
  ns : List Str
  vs : List T
  fo : Bool
  us : List (List Nm)
  cn : List Nm
  cd : Bool
  pn : List Nm
  pd : Bool
  LF : List Nm → List T
  LC : Nm → List T
  LP : Nm → List T
def Kst.D (k : Kst) : Tg → Prop
  | .self => True
  | .folk => k.fo = true
  | .cd => k.cd = true
  | .pd => k.pd = true
  | .fam f => f ∈ k.us
  | .ch n => n ∈ k.cn
  | .pa n => n ∈ k.pn
def Kst.C (nm : List Nm) (A : Tg → Addr) (k : Kst) : Tg → Cell
  | .self => .ins "Kin" k.ns k.vs
  | .folk => .dct (dnk (k.us.map famT)) (k.us.map famT) (k.us.map fun f => .ref (A (.fam f)))
  | .cd => .dct false (nm.map T.str) (nm.map fun n => .ref (A (.ch n)))
  | .pd => .dct false (nm.map T.str) (nm.map fun n => .ref (A (.pa n)))
  | .fam f => .lst (k.LF f)
  | .ch n => .lst (k.LC n)
  | .pa n => .lst (k.LP n)
abbrev KJ (S0 : Sto) (nm : List Nm) (A : Tg → Addr) (k : Kst) (S : Sto) : Prop := KS S0 S k.D A (k.C nm A)
section
variable {S0 S : Sto} {nm : List Nm} {A : Tg → Addr} {k : Kst}
theorem KJ.self (h : KJ S0 nm A k S) (ns : List Str) (vs : List T) : KJ S0 nm A { k with ns := ns, vs := vs } (ups S (A .self) (.ins "Kin" ns vs)) :=
  (KS.put (t := .self) h trivial).congr (fun t h => by cases t <;> exact h) (fun _ _ => rfl) fun t _ => by
    cases t <;> first | exact updT_same.symm | exact (updT_ne (by simp)).symm
theorem KJ.fam (h : KJ S0 nm A k S) {f : List Nm} (hf : f ∈ k.us) (x : List T) : KJ S0 nm A { k with LF := fun g => if g = f then x else k.LF g } (ups S (A (.fam f)) (.lst x)) :=
  (KS.put (t := .fam f) h hf).congr (fun t h => by cases t <;> exact h) (fun _ _ => rfl) fun t _ => by
    cases t with
    | fam g =>
      by_cases e : g = f
      · subst e
        rw [updT_same]
        show Cell.lst (if g = g then x else _) = _
        rw [if_pos rfl]
      · rw [updT_ne (fun z => e (by injection z))]
        show Cell.lst (if g = f then x else _) = _
        rw [if_neg e]
        rfl
    | _ => exact (updT_ne (by simp)).symm
theorem KJ.ch (h : KJ S0 nm A k S) {n : Nm} (hn : n ∈ k.cn) (x : List T) : KJ S0 nm A { k with LC := fun m => if m = n then x else k.LC m } (ups S (A (.ch n)) (.lst x)) :=
  (KS.put (t := .ch n) h hn).congr (fun t h => by cases t <;> exact h) (fun _ _ => rfl) fun t _ => by
    cases t with
    | ch m =>
      by_cases e : m = n
      · subst e
        rw [updT_same]
        show Cell.lst (if m = m then x else _) = _
        rw [if_pos rfl]
      · rw [updT_ne (fun z => e (by injection z))]
        show Cell.lst (if m = n then x else _) = _
        rw [if_neg e]
        rfl
    | _ => exact (updT_ne (by simp)).symm
theorem KJ.pa (h : KJ S0 nm A k S) {n : Nm} (hn : n ∈ k.pn) (x : List T) : KJ S0 nm A { k with LP := fun m => if m = n then x else k.LP m } (ups S (A (.pa n)) (.lst x)) :=
  (KS.put (t := .pa n) h hn).congr (fun t h => by cases t <;> exact h) (fun _ _ => rfl) fun t _ => by
    cases t with
    | pa m =>
      by_cases e : m = n
      · subst e
        rw [updT_same]
        show Cell.lst (if m = m then x else _) = _
        rw [if_pos rfl]
      · rw [updT_ne (fun z => e (by injection z))]
        show Cell.lst (if m = n then x else _) = _
        rw [if_neg e]
        rfl
    | _ => exact (updT_ne (by simp)).symm
/-- a new dict: the folk by families -/
theorem KJ.newFolk (h : KJ S0 nm A k S) (hf : k.fo = false) (hu : k.us = []) {p : Addr} (n : S p = none) : KJ S0 nm (updT A .folk p) { k with fo := true } (ups S p (.dct false [] [])) :=
  (KS.new (t := .folk) (c := .dct false [] []) h n (by show ¬ k.fo = true; rw [hf]; decide)).congr (fun t h => by cases t <;> first | exact .inr rfl | exact .inl h) (fun _ _ => rfl) fun t ht => by
    cases t with
    | folk =>
      rw [updT_same]
      show Cell.dct (dnk (k.us.map famT)) (k.us.map famT) (k.us.map _) = _
      rw [hu]
      rfl
    | fam f =>
      have : f ∈ k.us := ht
      rw [hu] at this
      cases this
    | cd => rw [updT_ne (by simp)]; rfl
    | pd => rw [updT_ne (by simp)]; rfl
    | _ => exact (updT_ne (by simp)).symm
/-- a new list by a family, written into the dict -/
theorem KJ.newFam (h : KJ S0 nm A k S) (hf : k.fo = true) {f : List Nm} (hu : f ∉ k.us) {p : Addr} (n : S p = none) (x : List T) :
    KJ S0 nm (updT A (.fam f) p) { k with us := k.us ++ [f], LF := fun g => if g = f then x else k.LF g } (ups (ups S p (.lst x)) (A .folk) (.dct (dnk ((k.us ++ [f]).map famT)) ((k.us ++ [f]).map famT) ((k.us.map fun f => .ref (A (.fam f))) ++ [.ref p]))) := by
  have k1 := KS.new (t := .fam f) (c := .lst x) h n hu
  have e : updT A (.fam f) p .folk = A .folk := updT_ne (by simp)
  rw [← e]
  refine (KS.put (t := .folk) k1 (.inl hf)).congr (fun t ht => ?_) (fun _ _ => rfl) fun t ht => ?_
  · cases t with
    | fam g =>
      have ht : g ∈ k.us ++ [f] := ht
      rcases List.mem_append.mp ht with q | q
      · exact .inl q
      · exact .inr (by rw [List.mem_singleton.mp q])
    | _ => exact .inl ht
  · have na : ∀ g ∈ k.us, updT A (.fam f) p (.fam g) = A (.fam g) := fun g hg => updT_ne fun z => by
      injection z with z
      exact hu (z ▸ hg)
    cases t with
    | folk =>
      rw [updT_same]
      show Cell.dct _ _ ((k.us ++ [f]).map _) = _
      have e2 : (k.us ++ [f]).map (fun g => T.ref (updT A (.fam f) p (.fam g))) = (k.us.map fun g => T.ref (A (.fam g))) ++ [T.ref p] := by
        have e3 : k.us.map (fun g => T.ref (updT A (.fam f) p (.fam g))) = k.us.map fun g => T.ref (A (.fam g)) := List.map_congr_left fun g hg => by rw [na g hg]
        rw [List.map_append, e3, List.map_singleton, updT_same]
      rw [e2]
    | fam g =>
      rw [updT_ne (by simp)]
      by_cases e : g = f
      · subst e
        rw [updT_same]
        show Cell.lst (if g = g then x else _) = _
        rw [if_pos rfl]
      · rw [updT_ne (fun z => e (by injection z))]
        show Cell.lst (if g = f then x else _) = _
        rw [if_neg e]
        rfl
    | self => rw [updT_ne (by simp), updT_ne (by simp)]; rfl
    | cd =>
      rw [updT_ne (by simp), updT_ne (by simp)]
      show Cell.dct _ _ _ = Cell.dct _ _ _
      congr 1
    | pd =>
      rw [updT_ne (by simp), updT_ne (by simp)]
      show Cell.dct _ _ _ = Cell.dct _ _ _
      congr 1
    | ch m => rw [updT_ne (by simp), updT_ne (by simp)]; rfl
    | pa m => rw [updT_ne (by simp), updT_ne (by simp)]; rfl
/-- a new list by a name -/
theorem KJ.newCh (h : KJ S0 nm A k S) (hc : k.cd = false) {m : Nm} (hn : m ∉ k.cn) {p : Addr} (n : S p = none) (hx : k.LC m = []) : KJ S0 nm (updT A (.ch m) p) { k with cn := k.cn ++ [m] } (ups S p (.lst [])) := by
  refine (KS.new (t := .ch m) (c := .lst []) h n hn).congr (fun t ht => ?_) (fun _ _ => rfl) fun t ht => ?_
  · cases t with
    | ch g =>
      have ht : g ∈ k.cn ++ [m] := ht
      rcases List.mem_append.mp ht with q | q
      · exact .inl q
      · exact .inr (by rw [List.mem_singleton.mp q])
    | _ => exact .inl ht
  · cases t with
    | cd =>
      have : k.cd = true := ht
      rw [hc] at this
      cases this
    | ch g =>
      by_cases e : g = m
      · subst e
        rw [updT_same]
        show Cell.lst (k.LC g) = _
        rw [hx]
      · rw [updT_ne (fun z => e (by injection z))]
        rfl
    | folk =>
      rw [updT_ne (by simp)]
      show Cell.dct _ _ _ = Cell.dct _ _ _
      congr 1
    | pd =>
      rw [updT_ne (by simp)]
      show Cell.dct _ _ _ = Cell.dct _ _ _
      congr 1
    | _ => rw [updT_ne (by simp)]; rfl
theorem KJ.newPa (h : KJ S0 nm A k S) (hc : k.pd = false) {m : Nm} (hn : m ∉ k.pn) {p : Addr} (n : S p = none) (hx : k.LP m = []) : KJ S0 nm (updT A (.pa m) p) { k with pn := k.pn ++ [m] } (ups S p (.lst [])) := by
  refine (KS.new (t := .pa m) (c := .lst []) h n hn).congr (fun t ht => ?_) (fun _ _ => rfl) fun t ht => ?_
  · cases t with
    | pa g =>
      have ht : g ∈ k.pn ++ [m] := ht
      rcases List.mem_append.mp ht with q | q
      · exact .inl q
      · exact .inr (by rw [List.mem_singleton.mp q])
    | _ => exact .inl ht
  · cases t with
    | pd =>
      have : k.pd = true := ht
      rw [hc] at this
      cases this
    | pa g =>
      by_cases e : g = m
      · subst e
        rw [updT_same]
        show Cell.lst (k.LP g) = _
        rw [hx]
      · rw [updT_ne (fun z => e (by injection z))]
        rfl
    | folk =>
      rw [updT_ne (by simp)]
      show Cell.dct _ _ _ = Cell.dct _ _ _
      congr 1
    | cd =>
      rw [updT_ne (by simp)]
      show Cell.dct _ _ _ = Cell.dct _ _ _
      congr 1
    | _ => rw [updT_ne (by simp)]; rfl
theorem KJ.newCd (h : KJ S0 nm A k S) (hc : k.cd = false) {p : Addr} (n : S p = none) : KJ S0 nm (updT A .cd p) { k with cd := true } (ups S p (.dct false (nm.map T.str) (nm.map fun m => .ref (A (.ch m))))) := by
  refine (KS.new (t := .cd) (c := .dct false (nm.map T.str) (nm.map fun m => .ref (A (.ch m)))) h n (by show ¬ k.cd = true; rw [hc]; decide)).congr (fun t ht => ?_) (fun _ _ => rfl) fun t ht => ?_
  · cases t <;> first | exact .inr rfl | exact .inl ht
  · cases t with
    | cd =>
      rw [updT_same]
      show Cell.dct _ _ _ = Cell.dct _ _ _
      congr 1
    | folk =>
      rw [updT_ne (by simp)]
      show Cell.dct _ _ _ = Cell.dct _ _ _
      congr 1
    | pd =>
      rw [updT_ne (by simp)]
      show Cell.dct _ _ _ = Cell.dct _ _ _
      congr 1
    | _ => rw [updT_ne (by simp)]; rfl
theorem KJ.newPd (h : KJ S0 nm A k S) (hc : k.pd = false) {p : Addr} (n : S p = none) : KJ S0 nm (updT A .pd p) { k with pd := true } (ups S p (.dct false (nm.map T.str) (nm.map fun m => .ref (A (.pa m))))) := by
  refine (KS.new (t := .pd) (c := .dct false (nm.map T.str) (nm.map fun m => .ref (A (.pa m)))) h n (by show ¬ k.pd = true; rw [hc]; decide)).congr (fun t ht => ?_) (fun _ _ => rfl) fun t ht => ?_
  · cases t <;> first | exact .inr rfl | exact .inl ht
  · cases t with
    | pd =>
      rw [updT_same]
      show Cell.dct _ _ _ = Cell.dct _ _ _
      congr 1
    | folk =>
      rw [updT_ne (by simp)]
      show Cell.dct _ _ _ = Cell.dct _ _ _
      congr 1
    | cd =>
      rw [updT_ne (by simp)]
      show Cell.dct _ _ _ = Cell.dct _ _ _
      congr 1
    | _ => rw [updT_ne (by simp)]; rfl
end
end TL
namespace TL
open PySem PySem.Spec PyProof.Rows
open L2 hiding putF
def fkey (f : List Nm) : NestedKey := .tup (f.map fun n => .text (txt n))
theorem keysOf_strs : ∀ f : List Nm, keysOf (f.map T.str) = some (f.map fun n => .text (txt n))
  | [] => rfl
  | n :: f => by
    rw [List.map_cons, List.map_cons]
    unfold keysOf
    rw [keysOf_strs f]
    rfl
theorem keyOf_fam (f : List Nm) : keyOf (famT f) = some (fkey f) := by
  show (keysOf (f.map T.str)).map NestedKey.tup = _
  rw [keysOf_strs]
  rfl
theorem fkey_inj {f g : List Nm} (h : fkey f = fkey g) : f = g := by
  unfold fkey at h
  injection h with h
  exact (List.map_inj_right fun a b e => by
    injection e with e
    exact txt_inj e).mp h
theorem fkey_depth (f : List Nm) : (fkey f).depth ≤ 8 := by
  have : ∀ f : List Nm, NestedKey.depthAll (f.map fun n => .text (txt n)) = 0 := fun f => by
    induction f with
    | nil => rfl
    | cons n f ih => show max 0 (NestedKey.depthAll _) = 0; rw [ih]; rfl
  show NestedKey.depthAll (f.map fun n => .text (txt n)) + 1 ≤ 8
  rw [this]
  decide
theorem tky_fam (f : List Nm) : tky (famT f) = some (fkey f) := by
  have e := keyOf_fam f
  show (match keyOf (.tup (f.map T.str)) with
    | some k => if k.depth ≤ 8 then some k else none
    | none => none) = _
  rw [show keyOf (.tup (f.map T.str)) = some (fkey f) from e]
  exact if_pos (fkey_depth f)
theorem nHs_fam {f : List Nm} : ∀ {us : List (List Nm)}, nHs (us.map famT) (fkey f) = decide (f ∈ us)
  | [] => rfl
  | g :: us => by
    rw [List.map_cons]
    unfold nHs
    rw [keyOf_fam, nHs_fam]
    by_cases q : f = g
    · subst q; simp
    · rw [if_neg fun z => q (fkey_inj (Option.some.inj z)).symm]
      simp [q]
theorem nLk_fam {f : List Nm} {F : List Nm → T} : ∀ {us : List (List Nm)}, f ∈ us → nLk (us.map famT) (us.map F) (fkey f) = some (F f)
  | g :: us, h => by
    rw [List.map_cons, List.map_cons]
    unfold nLk
    rw [keyOf_fam]
    by_cases q : f = g
    · subst q; rw [if_pos rfl]
    · rw [if_neg fun z => q (fkey_inj (Option.some.inj z)).symm]
      exact nLk_fam ((List.mem_cons.mp h).resolve_left q)
theorem nView_dnk {ks vs : List T} (l : ks.length = vs.length) : nView emp (.dct (dnk ks) ks vs) = some (ks, vs) := by
  cases ks with
  | nil =>
    cases vs with
    | nil => rfl
    | cons _ _ => cases l
  | cons _ _ => rfl
theorem nView_ref {S : Sto} {a : Addr} {ks vs : List T} (l : ks.length = vs.length) (h : S a = some (.dct (dnk ks) ks vs)) : nView S (.ref a) = some (ks, vs) := by
  cases ks with
  | nil =>
    cases vs with
    | nil => simp only [nView, h]; rfl
    | cons _ _ => cases l
  | cons _ _ => simp only [nView, h]; rfl
theorem tgT_fam {f : List Nm} {us : List (List Nm)} {F : List Nm → T} (h : f ∈ us) : tgT emp (.dct (dnk (us.map famT)) (us.map famT) (us.map F)) (famT f) = some (F f) := by
  unfold tgT
  rw [nView_dnk (by rw [List.length_map, List.length_map]), tky_fam]
  exact nLk_fam h
theorem tgT_ref {S : Sto} {a : Addr} {f : List Nm} {us : List (List Nm)} {F : List Nm → T} (hs : S a = some (.dct (dnk (us.map famT)) (us.map famT) (us.map F))) (h : f ∈ us) : tgT S (.ref a) (famT f) = some (F f) := by
  unfold tgT
  rw [nView_ref (by rw [List.length_map, List.length_map]) hs, tky_fam]
  exact nLk_fam h
theorem dgT_ref {S : Sto} {a : Addr} {n : Nm} {nm : List Nm} {F : Nm → T} (hs : S a = some (.dct false (nm.map T.str) (nm.map F))) (h : n ∈ nm) : dgT S (.ref a) (.str n) = some (F n) := by
  unfold dgT dView
  simp only [hs]
  exact dLk_strs h
theorem putN_last {ns : List Str} {vs : List T} {f : Str} {y : T} : ns.length = vs.length → f ∉ ns → putN ns vs f y = (ns ++ [f], vs ++ [y]) := by
  induction ns generalizing vs with
  | nil =>
    intro l _
    have : vs = [] := List.length_eq_zero_iff.mp l.symm
    subst this
    rfl
  | cons n ns ih =>
    intro l h
    cases vs with
    | nil => cases l
    | cons v vs =>
      rw [putN, if_neg fun z => h (by rw [z]; exact .head _), ih (by simpa using l) fun z => h (.tail _ z)]
      rfl
def nsK : List Str := ["book", "rows", "folk", "child_in", "parent_in"]
def kidsB (bs : List (Nm × List Nm)) (f : List Nm) : List Nm := (bs.filter fun b => decide (b.2 = f)).map (·.1)
def inB (bs : List (Nm × List Nm)) (n : Nm) : List (List Nm) := (bs.filter fun b => decide (b.1 = n)).map (·.2)
def ofB (us : List (List Nm)) (n : Nm) : List (List Nm) := us.filter fun f => decide (n ∈ f)
def folkB (B : Bk) (f : List Nm) : List Nm := f ++ kidsB (B.births ++ B.adopts) f
def folkO (B : Bk) : T := .dct (dnk (B.unions.map famT)) (B.unions.map famT) (B.unions.map fun f => .lst ((folkB B f).map T.str))
def chO (B : Bk) : T := .dct false (B.names.map T.str) (B.names.map fun n => .lst ((inB (B.births ++ B.adopts) n).map famT))
def paO (B : Bk) : T := .dct false (B.names.map T.str) (B.names.map fun n => .lst ((ofB B.unions n).map famT))
def kinO (B : Bk) (rows : T) : T := .obj "Kin" nsK [bkT B, rows, folkO B, chO B, paO B]
open Classical in
/-- Kin(book), the rows told by rn -/
noncomputable def kinM (rn : T → PM Unit T) (b : T) : PM Unit T := if h : ∃ B, BkOk B ∧ b = bkT B then bd (rn b) fun rows => if ∃ vs, rows = .dct false (h.choose.names.map T.str) vs then pu (kinO h.choose rows) else stuck else stuck
theorem kinM_eq {rn : T → PM Unit T} {B : Bk} (h : BkOk B) {vs : List T} (hr : rn (bkT B) = pu (.dct false (B.names.map T.str) vs)) : kinM rn (bkT B) = pu (kinO B (.dct false (B.names.map T.str) vs)) := by
  have hx : ∃ C, BkOk C ∧ bkT B = bkT C := ⟨B, h, rfl⟩
  have e : hx.choose = B := (bkT_inj _ _ hx.choose_spec.2).symm
  unfold kinM
  rw [dif_pos hx, hr, pu_bd, e, if_pos ⟨vs, rfl⟩]
theorem kinM_sat {rn : T → PM Unit T} {b : T} {P : T → Unit → Prop} {X : T → Unit → Prop} (s : Sat (kinM rn b ()) P X) : ∃ B, BkOk B ∧ b = bkT B ∧ Sat (rn (bkT B) ()) (fun rows _ => ∃ vs, rows = .dct false (B.names.map T.str) vs ∧ P (kinO B rows) ()) X := by
  unfold kinM at s
  split at s
  · rename_i hx
    obtain ⟨h1, h2⟩ := hx.choose_spec
    generalize hx.choose = B at h1 h2 s
    subst h2
    refine ⟨B, h1, rfl, (Sat.bd.mp s).mono (fun rows _ z => ?_) fun _ _ q => q⟩
    split at z
    · rename_i hv
      obtain ⟨vs, e⟩ := hv
      exact ⟨vs, e, z⟩
    · exact z.elim
  · exact s.elim
def TV (p : Addr) (b : T) (τ : TEnv) : Prop := τ.length = 5 ∧ τ[0]? = some (some (.ref p)) ∧ τ[1]? = some (some b)
theorem TV.set {p : Addr} {b : T} {τ : TEnv} {i : Nat} {x : Option T} (h : TV p b τ) (hi : 2 ≤ i) : TV p b (τ.set i x) :=
  ⟨by rw [List.length_set]; exact h.1, by rw [List.getElem?_set_ne (by omega)]; exact h.2.1, by rw [List.getElem?_set_ne (by omega)]; exact h.2.2⟩
theorem TV.at_ {p : Addr} {b : T} {τ : TEnv} {i : Nat} {x : Option T} (h : TV p b τ) (hi : i < 5) : (τ.set i x)[i]? = some x := List.getElem?_set_self (by rw [h.1]; exact hi)
theorem kids_app (bs : List (Nm × List Nm)) (b : Nm × List Nm) (g : List Nm) : kidsB (bs ++ [b]) g = kidsB bs g ++ if g = b.2 then [b.1] else [] := by
  unfold kidsB
  rw [List.filter_append, List.map_append]
  congr 1
  by_cases e : g = b.2
  · rw [if_pos e]; simp [e]
  · rw [if_neg e, List.filter_cons_of_neg (by simp; exact fun z => e z.symm)]; rfl
theorem in_app (bs : List (Nm × List Nm)) (b : Nm × List Nm) (n : Nm) : inB (bs ++ [b]) n = inB bs n ++ if n = b.1 then [b.2] else [] := by
  unfold inB
  rw [List.filter_append, List.map_append]
  congr 1
  by_cases e : n = b.1
  · rw [if_pos e]; simp [e]
  · rw [if_neg e, List.filter_cons_of_neg (by simp; exact fun z => e z.symm)]; rfl
theorem of_app (us : List (List Nm)) (f : List Nm) (n : Nm) : ofB (us ++ [f]) n = ofB us n ++ if n ∈ f then [f] else [] := by
  unfold ofB
  rw [List.filter_append]
  congr 1
  by_cases e : n ∈ f
  · rw [if_pos e]; simp [e]
  · rw [if_neg e]; simp [e]
section
variable {S0 : Sto} {p : Addr} {B : Bk} {ok : Str → Bool} {D : TD} {E : T → TEnv → Sto → Prop} {A : Tg → Addr} {k : Kst} {S : Sto} {τ : TEnv} {nm : List Nm}
theorem kj_self (h : KJ S0 nm A k S) (ha : A .self = p) : S p = some (.ins "Kin" k.ns k.vs) := ha ▸ h.at_ .self trivial
theorem kj_fld (h : KJ S0 nm A k S) (ha : A .self = p) {f : Str} {t : T} (o : ok "Kin" = true) (hl : (k.ns.zip k.vs).lookup f = some t) : fldT f ok S (.ref p) = some t := by
  unfold fldT
  simp only [kj_self h ha, o, if_true]
  exact hl
/-- self.f = e, where the value stands already -/
theorem kin_put {f : Str} {y : T} (hτ : τ[0]? = some (some (.ref p))) (h : KJ S0 nm A k S) (ha : A .self = p) (o : ok "Kin" = true) (hl : k.ns.length = k.vs.length) (hn : f ∉ k.ns) (h9 : k.ns.length < 1000)
    (hd : ∀ S', KJ S0 nm A { k with ns := k.ns ++ [f], vs := k.vs ++ [y] } S' → D.nx τ S') : ∃ x, τ[0]? = some (some x) ∧ ∃ a c ns ts, x = .ref a ∧ S a = some (.ins c ns ts) ∧ ok c = true ∧ ns.length < 1000 ∧ D.nx τ (ups S a (.ins c (putN ns ts f y).1 (putN ns ts f y).2)) := by
  refine ⟨_, hτ, p, "Kin", k.ns, k.vs, rfl, kj_self h ha, o, h9, ?_⟩
  rw [putN_last hl hn]
  have := h.self (k.ns ++ [f]) (k.vs ++ [y])
  rw [ha] at this
  exact hd _ this
/-- the folk by families -/
theorem kin_folk (hB : BkOk B) (hτ : TV p (bkT B) τ) (h : KJ S0 nm A k S) (ha : A .self = p) (o : ok "Kin" = true) (hl : (k.ns.zip k.vs).lookup ("folk" : Str) = some (.ref (A .folk))) (hf : k.fo = true) (hu : k.us = []) (hLF : k.LF = fun f => f.map T.str)
    (hd : ∀ τ' S' A', TV p (bkT B) τ' → KJ S0 nm A' { k with us := B.unions } S' → A' .self = p → A' .folk = A .folk → D.nx τ' S') :
    cFor (iSeq (cOp ixT (cVar 1) (cC (.int 1)))) (gN 2) (cSeq (cTput (cUn (fldT "folk" ok) (cVar 0)) (cVar 2) (cListM (cVar 2))) cSkip) D τ S E := by
  have hs := sizeLine_eq
  have nd := ke_fam.rise_nodup (fun _ h => nomatch h) hB.ru
  refine ⟨_, hτ.2.2, .tup (B.unions.map famT), rfl, (B.unions.map famT, yes), rfl, ?_⟩
  refine forT_inv (fun xs τ S => ∃ done rest A', B.unions = done ++ rest ∧ xs = rest.map famT ∧ TV p (bkT B) τ ∧ KJ S0 nm A' { k with us := done } S ∧ A' .self = p ∧ A' .folk = A .folk) (fun _ _ _ _ => trivial) ?_ ?_ _ _ _ ⟨[], B.unions, A, rfl, rfl, hτ, by rw [show ({ k with us := [] } : Kst) = k by rw [← hu]]; exact h, ha, rfl⟩
  · rintro τ' S' ⟨done, rest, A', e, e2, ht, h', a1, a2⟩
    have : rest = [] := List.map_eq_nil_iff.mp e2.symm
    subst this
    rw [List.append_nil] at e
    subst e
    exact hd τ' S' A' ht h' a1 a2
  · rintro x xs τ S ⟨done, rest, A', e, e2, ht, h', a1, a2⟩ N hN
    cases rest with
    | nil => cases e2
    | cons f rest =>
      rw [List.map_cons] at e2
      obtain ⟨rfl, rfl⟩ := List.cons.inj e2
      have hnf : f ∉ done := fun m => by
        rw [e] at nd
        exact (List.nodup_append.mp nd).2.2 f m f (.head _) rfl
      have t2 := ht.set (i := 2) (x := some (famT f)) (by decide)
      show cTput _ _ _ _ (τ.set 2 (some (famT f))) S E
      refine ⟨_, ht.at_ (by decide), f.map T.str, .inr rfl, fun q nq => ?_⟩
      have fl : fldT "folk" ok (ups S q (.lst (f.map T.str))) (.ref p) = some (.ref (A .folk)) := by
        have np : p ≠ q := fun z => by
          have := kj_self h' a1
          rw [z, nq] at this
          cases this
        unfold fldT
        simp only [ups_ne np, kj_self h' a1, o, if_true]
        exact hl
      refine ⟨_, t2.2.1, _, fl, _, ht.at_ (by decide), A .folk, done.map famT, done.map fun f => .ref (A' (.fam f)), fkey f, rfl, ?_, tky_fam f, ?_, ?_⟩
      · have q1 := h'.at_ .folk hf
        rw [a2] at q1
        rw [ups_ne fun z => by rw [z, nq] at q1; cases q1]
        exact q1
      · have l : B.unions.length ≤ 16 := hB.lu
        rw [e, List.length_append] at l
        rw [List.length_map]
        omega
      · have n1 : nHs (done.map famT) (fkey f) = false := by rw [nHs_fam, decide_eq_false hnf]
        have e3 : nPk (done.map famT) (fkey f) (famT f) = (done ++ [f]).map famT := by
          unfold nPk
          rw [n1, if_neg (by decide), List.map_append]
          rfl
        have e4 : nPv (done.map famT) (done.map fun f => T.ref (A' (.fam f))) (fkey f) (.ref q) = (done.map fun f => T.ref (A' (.fam f))) ++ [.ref q] := by
          unfold nPv
          rw [n1, if_neg (by decide)]
        rw [e3, e4]
        have h2 := KJ.newFam h' (f := f) hf hnf nq (f.map T.str)
        have e5 : dnk ((done ++ [f]).map famT) = true := by
          rw [List.map_append]
          cases done <;> rfl
        have h2' : KJ S0 nm (updT A' (.fam f) q) { k with us := done ++ [f], LF := fun g => if g = f then f.map T.str else k.LF g } (ups (ups S q (.lst (f.map T.str))) (A .folk) (.dct true ((done ++ [f]).map famT) ((done.map fun f => T.ref (A' (.fam f))) ++ [.ref q]))) := by
          rw [← e5, ← a2]
          exact h2
        have e6 : (fun g => if g = f then f.map T.str else k.LF g) = k.LF := by
          funext g
          rw [hLF]
          split
          · rename_i z; rw [z]
          · rfl
        rw [e6] at h2'
        exact hN _ _ ⟨done ++ [f], rest, _, by rw [e, List.append_assoc]; rfl, rfl, t2, h2', (updT_ne (by simp)).trans a1, (updT_ne (by simp)).trans a2⟩
/-- a list for each name -/
theorem kin_lists {f : Str} {rows : List T} (P : Bool) (hnd : nm.Nodup) (hlen : nm.length ≤ 16) (hτ : TV p (bkT B) τ) (h : KJ S0 nm A k S) (ha : A .self = p) (o1 o2 : Str → Bool) (o : o1 "Kin" = true) (oo : o2 "Kin" = true) (hr : (k.ns.zip k.vs).lookup ("rows" : Str) = some (.dct false (nm.map T.str) rows))
    (hl : k.ns.length = k.vs.length) (hn : f ∉ k.ns) (h9 : k.ns.length < 1000) (hc : if P = true then k.cn = [] ∧ k.cd = false ∧ k.LC = fun _ => [] else k.pn = [] ∧ k.pd = false ∧ k.LP = fun _ => [])
    (hd : ∀ S' A' a, KJ S0 nm A' (if P = true then { k with cn := nm, cd := true, ns := k.ns ++ [f], vs := k.vs ++ [.ref a] } else { k with pn := nm, pd := true, ns := k.ns ++ [f], vs := k.vs ++ [.ref a] }) S' → A' .self = p → A' .folk = A .folk → A' .cd = (if P = true then a else A .cd) → A' .pd = (if P = true then A .pd else a) → D.nx τ S') :
    cFput f o2 (cVar 0) (cDictM (cComp (iWalk false (pFld "rows" o1 (pVar 0))) (gN 4) bYes (cTup (cCons (cVar 4) (cCons (cLstM cNil) cNil))) [4])) D τ S E := by
  have hs := sizeLine_eq
  refine ⟨false, nm.map T.str, rows, ⟨_, hτ.2.1, kj_fld h ha o hr⟩, (fun z => nomatch z), ?_⟩
  show compT (gN 4) bYes _ [4] yes τ _ (nm.map T.str) [] S
  let tag : Nm → Tg := fun n => if P = true then .ch n else .pa n
  let kk : List Nm → Kst := fun done => if P = true then { k with cn := done } else { k with pn := done }
  have kns : ∀ d, (kk d).ns = k.ns ∧ (kk d).vs = k.vs := fun d => by
    show (if P = true then _ else _ : Kst).ns = _ ∧ (if P = true then _ else _ : Kst).vs = _
    cases P <;> exact ⟨rfl, rfl⟩
  refine compT_inv (fun xs acc S => ∃ done rest A', nm = done ++ rest ∧ xs = rest.map T.str ∧ acc = done.map (fun n => T.tup [.str n, .ref (A' (tag n))]) ∧ KJ S0 nm A' (kk done) S ∧ A' .self = p ∧ A' .folk = A .folk ∧ A' .cd = A .cd ∧ A' .pd = A .pd) (fun _ _ _ _ => trivial) ?_ ?_ ?_ _ _ _ ⟨[], nm, A, rfl, rfl, rfl, ?_, ha, rfl, rfl, rfl⟩
  · rintro x xs acc S ⟨done, rest, A', e, e2, e3, _⟩
    rw [e3, List.length_map]
    rw [e, List.length_append] at hlen
    omega
  · rintro acc S' ⟨done, rest, A', e, e2, e3, h', a1, a2, a3, a4⟩
    have : rest = [] := List.map_eq_nil_iff.mp e2.symm
    subst this
    rw [List.append_nil] at e
    subst e
    have m := mrg_strs (F := fun n => T.ref (A' (tag n))) (xs := nm) (ds := []) (by simpa using hnd)
    rw [List.nil_append] at m
    refine ⟨acc, _, .inl rfl, by rw [e3]; exact m, fun q nq => ?_⟩
    cases P with
    | true =>
      have h1 := KJ.newCd (k := { k with cn := nm }) h' hc.2.1 nq
      exact kin_put (y := .ref q) hτ.2.1 h1 ((updT_ne (by simp)).trans a1) oo hl hn h9 fun S' h2 => hd S' _ q h2 ((updT_ne (by simp)).trans a1) ((updT_ne (by simp)).trans a2) updT_same ((updT_ne (by simp)).trans a4)
    | false =>
      have h1 := KJ.newPd (k := { k with pn := nm }) h' hc.2.1 nq
      exact kin_put (y := .ref q) hτ.2.1 h1 ((updT_ne (by simp)).trans a1) oo hl hn h9 fun S' h2 => hd S' _ q h2 ((updT_ne (by simp)).trans a1) ((updT_ne (by simp)).trans a2) ((updT_ne (by simp)).trans a3) updT_same
  · rintro x xs acc S' ⟨done, rest, A', e, e2, e3, h', a1, a2, a3, a4⟩ R N hR hN
    cases rest with
    | nil => cases e2
    | cons n rest =>
      rw [List.map_cons] at e2
      obtain ⟨rfl, rfl⟩ := List.cons.inj e2
      have hnn : n ∉ done := fun m => by
        rw [e] at hnd
        exact (List.nodup_append.mp hnd).2.2 n m n (.head _) rfl
      show @ite Prop (true = true) _ (cTup (cCons (cVar 4) (cCons (cLstM cNil) cNil)) ((wipeT τ [4]).set 4 (some (T.str n))) S' R (fun _ _ => False)) (N S')
      rw [if_pos rfl]
      have l4 : ((wipeT τ [4]).set 4 (some (T.str n)))[4]? = some (some (.str n)) := List.getElem?_set_self (by
        show 4 < ((τ).set 4 none).length
        rw [List.length_set, hτ.1]
        decide)
      refine ⟨_, l4, Nat.zero_le _, fun q nq => ⟨by show 2 ≤ _; omega, hR _ _ ?_⟩⟩
      have keep : ∀ m ∈ done, updT A' (tag n) q (tag m) = A' (tag m) := fun m hm => updT_ne fun z => by
        have : m = n := by
          revert z
          show (if P = true then Tg.ch m else Tg.pa m) = (if P = true then Tg.ch n else Tg.pa n) → _
          cases P <;> exact fun z => by injection z
        exact hnn (this ▸ hm)
      have acc2 : acc ++ [T.tup [.str n, .ref q]] = (done ++ [n]).map (fun m => T.tup [.str m, .ref (updT A' (tag n) q (tag m))]) := by
        rw [List.map_append, List.map_congr_left (l := done) (g := fun m => T.tup [.str m, .ref (A' (tag m))]) fun m hm => by rw [keep m hm], ← e3, List.map_singleton, updT_same]
      refine ⟨done ++ [n], rest, updT A' (tag n) q, by rw [e, List.append_assoc]; rfl, rfl, acc2, ?_, ?_, ?_, ?_, ?_⟩
      · show KJ S0 nm (updT A' (if P = true then Tg.ch n else Tg.pa n) q) (if P = true then { k with cn := done ++ [n] } else { k with pn := done ++ [n] }) _
        cases P with
        | true => exact KJ.newCh (k := { k with cn := done }) h' hc.2.1 hnn nq (by show k.LC n = []; rw [hc.2.2])
        | false => exact KJ.newPa (k := { k with pn := done }) h' hc.2.1 hnn nq (by show k.LP n = []; rw [hc.2.2])
      all_goals refine (updT_ne ?_).trans (by assumption)
      all_goals show _ ≠ (if P = true then Tg.ch n else Tg.pa n)
      all_goals cases P <;> simp
  · show KJ S0 nm A (if P = true then { k with cn := [] } else { k with pn := [] }) S
    cases P with
    | true => rw [show ({ k with cn := [] } : Kst) = k by rw [← hc.1]]; exact h
    | false => rw [show ({ k with pn := [] } : Kst) = k by rw [← hc.1]]; exact h
/-- children, by birth and adoption -/
theorem kin_kids (ok2 : Str → Bool) (hB : BkOk B) (hτ : TV p (bkT B) τ) (h : KJ S0 B.names A k S) (ha : A .self = p) (o : ok "Kin" = true) (oo : ok2 "Kin" = true) (hf : (k.ns.zip k.vs).lookup ("folk" : Str) = some (.ref (A .folk))) (hc : (k.ns.zip k.vs).lookup ("child_in" : Str) = some (.ref (A .cd)))
    (kf : k.fo = true) (kc : k.cd = true) (ku : k.us = B.unions) (kn : k.cn = B.names) (hLF : k.LF = fun f => f.map T.str) (hLC : k.LC = fun _ => [])
    (hd : ∀ τ' S', TV p (bkT B) τ' → KJ S0 B.names A { k with LF := fun f => (folkB B f).map T.str, LC := fun n => (inB (B.births ++ B.adopts) n).map famT } S' → D.nx τ' S') :
    cFor (iSeq (cOp addT (cOp ixT (cVar 1) (cC (.int 2))) (cOp ixT (cVar 1) (cC (.int 3))))) (gT (gC (gN 3) (gC (gN 2) gZ))) (cSeq (cDo (cApp (cOp tgT (cUn (fldT "folk" ok) (cVar 0)) (cVar 2)) (cVar 3))) (cSeq (cDo (cApp (cOp dgT (cUn (fldT "child_in" ok2) (cVar 0)) (cVar 3)) (cVar 2))) cSkip)) D τ S E := by
  have hs := sizeLine_eq
  have l1 := hB.lb
  have l2 := hB.la
  have add : addT S (.tup (B.births.map kinT)) (.tup (B.adopts.map kinT)) = some (.tup ((B.births ++ B.adopts).map kinT)) := by
    rw [List.map_append]
    exact if_pos (by rw [List.length_map, List.length_map]; omega)
  refine ⟨_, hτ.2.2, .tup (B.births.map kinT), rfl, _, hτ.2.2, .tup (B.adopts.map kinT), rfl, _, add, ((B.births ++ B.adopts).map kinT, yes), rfl, ?_⟩
  have k0 : ({ k with LF := fun f => (f ++ kidsB [] f).map T.str, LC := fun n => (inB [] n).map famT } : Kst) = k := by
    have e1 : (fun f : List Nm => (f ++ kidsB [] f).map T.str) = k.LF := by
      rw [hLF]; funext f; unfold kidsB; simp
    have e2 : (fun n : Nm => (inB [] n).map famT) = k.LC := by
      rw [hLC]; rfl
    rw [e1, e2]
  refine forT_inv (fun xs τ S => ∃ done rest, B.births ++ B.adopts = done ++ rest ∧ xs = rest.map kinT ∧ TV p (bkT B) τ ∧ KJ S0 B.names A { k with LF := fun f => (f ++ kidsB done f).map T.str, LC := fun n => (inB done n).map famT } S) (fun _ _ _ _ => trivial) ?_ ?_ _ _ _ ⟨[], _, rfl, rfl, hτ, by rw [k0]; exact h⟩
  · rintro τ' S' ⟨done, rest, e, e2, ht, h'⟩
    have : rest = [] := List.map_eq_nil_iff.mp e2.symm
    subst this
    rw [List.append_nil] at e
    subst e
    exact hd τ' S' ht h'
  · rintro x xs τ S ⟨done, rest, e, e2, ht, h'⟩ N hN
    cases rest with
    | nil => cases e2
    | cons b rest =>
      rw [List.map_cons] at e2
      obtain ⟨rfl, rfl⟩ := List.cons.inj e2
      have hb : KinOk B.names B.unions b := by
        have : b ∈ B.births ++ B.adopts := by rw [e]; simp
        exact (List.mem_append.mp this).elim (hB.bi b) (hB.ad b)
      have ln : done.length ≤ 36 := by
        have := congrArg List.length e
        rw [List.length_append, List.length_append] at this
        omega
      have lfam : b.2.length ≤ 2 := (hB.un _ hb.fam).hi
      have t3 := ht.set (i := 3) (x := some (.str b.1)) (by decide)
      have t2 := t3.set (i := 2) (x := some (famT b.2)) (by decide)
      have g2 : ((τ.set 3 (some (.str b.1))).set 2 (some (famT b.2)))[2]? = some (some (famT b.2)) := t3.at_ (by decide)
      have g3 : ((τ.set 3 (some (.str b.1))).set 2 (some (famT b.2)))[3]? = some (some (.str b.1)) := by
        rw [List.getElem?_set_ne (by decide)]
        exact ht.at_ (by decide)
      have af := h'.at_ (.fam b.2) (by show b.2 ∈ k.us; rw [ku]; exact hb.fam)
      have afo := h'.at_ .folk kf
      have n1 : ((b.2 ++ kidsB done b.2).map T.str).length < sizeLine := by
        have : (kidsB done b.2).length ≤ done.length := by unfold kidsB; rw [List.length_map]; exact List.length_filter_le _ _
        rw [List.length_map, List.length_append]; omega
      refine ⟨[.str b.1, famT b.2], rfl, .str b.1, [famT b.2], rfl, famT b.2, [], rfl, rfl, ?_⟩
      refine ⟨_, t2.2.1, _, kj_fld h' ha o hf, _, g2, .ref (A (.fam b.2)), tgT_ref afo (by show b.2 ∈ k.us; rw [ku]; exact hb.fam), A (.fam b.2), _, rfl, af, _, g3, _, af, n1, ?_⟩
      have h2 := KJ.fam (f := b.2) h' (by show b.2 ∈ k.us; rw [ku]; exact hb.fam) ((b.2 ++ kidsB done b.2).map T.str ++ [.str b.1])
      have ac := h2.at_ (.ch b.1) (by show b.1 ∈ k.cn; rw [kn]; exact hb.kid)
      have acd := h2.at_ .cd kc
      have n2 : ((inB done b.1).map famT).length < sizeLine := by
        have : (inB done b.1).length ≤ done.length := by unfold inB; rw [List.length_map]; exact List.length_filter_le _ _
        rw [List.length_map]; omega
      refine ⟨_, t2.2.1, _, kj_fld h2 ha oo hc, _, g3, .ref (A (.ch b.1)), dgT_ref acd hb.kid, A (.ch b.1), _, rfl, ac, _, g2, _, ac, n2, ?_⟩
      have h3 := KJ.ch (n := b.1) h2 (by show b.1 ∈ k.cn; rw [kn]; exact hb.kid) ((inB done b.1).map famT ++ [famT b.2])
      refine hN _ _ ⟨done ++ [b], rest, by rw [e, List.append_assoc]; rfl, rfl, t2, ?_⟩
      have e1 : (fun g => if g = b.2 then (b.2 ++ kidsB done b.2).map T.str ++ [T.str b.1] else (g ++ kidsB done g).map T.str) = fun g => (g ++ kidsB (done ++ [b]) g).map T.str := by
        funext g
        rw [kids_app]
        by_cases z : g = b.2
        · subst z; rw [if_pos rfl, if_pos rfl]; simp
        · rw [if_neg z, if_neg z, List.append_nil]
      have e2 : (fun m => if m = b.1 then (inB done b.1).map famT ++ [famT b.2] else (inB done m).map famT) = fun m => (inB (done ++ [b]) m).map famT := by
        funext m
        rw [in_app]
        by_cases z : m = b.1
        · subst z; rw [if_pos rfl, if_pos rfl, List.map_append]; rfl
        · rw [if_neg z, if_neg z, List.append_nil]
      rw [← e1, ← e2]
      exact h3
/-- partners -/
theorem kin_pars (hB : BkOk B) (hτ : TV p (bkT B) τ) (h : KJ S0 B.names A k S) (ha : A .self = p) (o : ok "Kin" = true) (hp : (k.ns.zip k.vs).lookup ("parent_in" : Str) = some (.ref (A .pd)))
    (kp : k.pd = true) (kn : k.pn = B.names) (hLP : k.LP = fun _ => [])
    (hd : ∀ τ' S', TV p (bkT B) τ' → KJ S0 B.names A { k with LP := fun n => (ofB B.unions n).map famT } S' → D.nx τ' S') :
    cFor (iSeq (cOp ixT (cVar 1) (cC (.int 1)))) (gN 2) (cSeq (cFor (iSeq (cVar 2)) (gN 4) (cSeq (cDo (cApp (cOp dgT (cUn (fldT "parent_in" ok) (cVar 0)) (cVar 4)) (cVar 2))) cSkip)) cSkip) D τ S E := by
  have hs := sizeLine_eq
  have l1 := hB.lu
  refine ⟨_, hτ.2.2, .tup (B.unions.map famT), rfl, (B.unions.map famT, yes), rfl, ?_⟩
  have k0 : ({ k with LP := fun n => (ofB [] n).map famT } : Kst) = k := by
    have e2 : (fun n : Nm => (ofB [] n).map famT) = k.LP := by rw [hLP]; rfl
    rw [e2]
  refine forT_inv (fun xs τ S => ∃ done rest, B.unions = done ++ rest ∧ xs = rest.map famT ∧ TV p (bkT B) τ ∧ KJ S0 B.names A { k with LP := fun n => (ofB done n).map famT } S) (fun _ _ _ _ => trivial) ?_ ?_ _ _ _ ⟨[], _, rfl, rfl, hτ, by rw [k0]; exact h⟩
  · rintro τ' S' ⟨done, rest, e, e2, ht, h'⟩
    have : rest = [] := List.map_eq_nil_iff.mp e2.symm
    subst this
    rw [List.append_nil] at e
    subst e
    exact hd τ' S' ht h'
  · rintro x xs τ S ⟨done, rest, e, e2, ht, h'⟩ N hN
    cases rest with
    | nil => cases e2
    | cons f rest =>
      rw [List.map_cons] at e2
      obtain ⟨rfl, rfl⟩ := List.cons.inj e2
      have hfm : f ∈ B.unions := by rw [e]; simp
      have hf := hB.un f hfm
      have ln : done.length ≤ 16 := by
        have := congrArg List.length e
        rw [List.length_append] at this
        omega
      have t2 := ht.set (i := 2) (x := some (famT f)) (by decide)
      refine ⟨_, ht.at_ (i := 2) (x := some (famT f)) (by decide), (f.map T.str, yes), rfl, ?_⟩
      have k1 : ({ k with LP := fun n => (ofB done n ++ if n ∈ ([] : List Nm) then [f] else []).map famT } : Kst) = { k with LP := fun n => (ofB done n).map famT } := by
        have e2 : (fun n : Nm => (ofB done n ++ if n ∈ ([] : List Nm) then [f] else []).map famT) = fun n => (ofB done n).map famT := by
          funext n; simp
        rw [e2]
      refine forT_inv (fun xs τ S => ∃ dn rs, f = dn ++ rs ∧ xs = rs.map T.str ∧ (TV p (bkT B) τ ∧ τ[2]? = some (some (famT f))) ∧ KJ S0 B.names A { k with LP := fun n => (ofB done n ++ if n ∈ dn then [f] else []).map famT } S) (fun _ _ _ _ => trivial) ?_ ?_ _ _ _ ⟨[], f, rfl, rfl, ⟨t2, ht.at_ (by decide)⟩, by rw [k1]; exact h'⟩
      · rintro τ' S' ⟨dn, rs, e3, e4, ht', h2⟩
        have : rs = [] := List.map_eq_nil_iff.mp e4.symm
        subst this
        rw [List.append_nil] at e3
        subst e3
        refine hN _ _ ⟨done ++ [f], rest, by rw [e, List.append_assoc]; rfl, rfl, ht'.1, ?_⟩
        have e5 : (fun n => (ofB (done ++ [f]) n).map famT) = fun n => (ofB done n ++ if n ∈ f then [f] else []).map famT := by
          funext n; rw [of_app]
        rw [e5]
        exact h2
      · rintro x xs τ' S' ⟨dn, rs, e3, e4, ht', h2⟩ N' hN'
        cases rs with
        | nil => cases e4
        | cons n rs =>
          rw [List.map_cons] at e4
          obtain ⟨rfl, rfl⟩ := List.cons.inj e4
          have hn : n ∈ B.names := hf.mem n (by rw [e3]; simp)
          have hnd : n ∉ dn := fun m => by
            have nd := hf.nd
            rw [e3] at nd
            exact (List.nodup_append.mp nd).2.2 n m n (.head _) rfl
          have t4 := ht'.1.set (i := 4) (x := some (.str n)) (by decide)
          have g4 : (τ'.set 4 (some (.str n)))[4]? = some (some (.str n)) := ht'.1.at_ (by decide)
          have g2 : (τ'.set 4 (some (.str n)))[2]? = some (some (famT f)) := by
            rw [List.getElem?_set_ne (by decide)]
            exact ht'.2
          have ap := h2.at_ (.pa n) (by show n ∈ k.pn; rw [kn]; exact hn)
          have apd := h2.at_ .pd kp
          have n2 : ((ofB done n ++ if n ∈ dn then [f] else []).map famT).length < sizeLine := by
            have : (ofB done n).length ≤ done.length := List.length_filter_le _ _
            rw [List.length_map, List.length_append, if_neg hnd]
            simp
            omega
          refine ⟨_, t4.2.1, _, kj_fld h2 ha o hp, _, g4, .ref (A (.pa n)), dgT_ref apd hn, A (.pa n), _, rfl, ap, _, g2, _, ap, n2, ?_⟩
          have h3 := KJ.pa (n := n) h2 (by show n ∈ k.pn; rw [kn]; exact hn) ((ofB done n ++ if n ∈ dn then [f] else []).map famT ++ [famT f])
          refine hN' _ _ ⟨dn ++ [n], rs, by rw [e3, List.append_assoc]; rfl, rfl, ⟨t4, g2⟩, ?_⟩
          have e5 : (fun m => if m = n then (ofB done n ++ if n ∈ dn then [f] else []).map famT ++ [famT f] else (ofB done m ++ if m ∈ dn then [f] else []).map famT) = fun m => (ofB done m ++ if m ∈ dn ++ [n] then [f] else []).map famT := by
            funext m
            by_cases z : m = n
            · subst z
              rw [if_pos rfl, if_neg hnd, if_pos (by simp), List.append_nil, List.map_append]
              rfl
            · rw [if_neg z]
              congr 2
              by_cases w : m ∈ dn
              · rw [if_pos w, if_pos (by simp [w])]
              · rw [if_neg w, if_neg (by simp [w, z])]
          rw [← e5]
          exact h3
end
theorem fzs_map {S S2 : Sto} {α : Type} {f g : α → T} : ∀ {xs : List α}, (∀ x ∈ xs, Fz S S2 (f x) (g x)) → Fzs S S2 (xs.map f) (xs.map g)
  | [], _ => .nil
  | x :: xs, h => .cons (h x (.head _)) (fzs_map fun y hy => h y (.tail _ hy))
def k0 : Kst := ⟨[], [], false, [], [], false, [], false, fun f => f.map T.str, fun _ => [], fun _ => []⟩
theorem k0_self {t : Tg} (h : k0.D t) : t = .self := by
  cases t with
  | self => rfl
  | folk => cases h
  | cd => cases h
  | pd => cases h
  | fam f => cases h
  | ch n => cases h
  | pa n => cases h
theorem kj_zero {S : Sto} {p : Addr} {nm : List Nm} (hp : S p = some (.ins "Kin" [] [])) : KJ (offs S p) nm (fun _ => p) k0 S := by
  refine ⟨fun t ht => ?_, fun _ _ => offs_same, fun t u ht hu _ => (k0_self ht).trans (k0_self hu).symm, fun b c hb => ?_⟩
  · rw [k0_self ht]
    exact hp
  · by_cases z : b = p
    · subst z; rw [offs_same] at hb; cases hb
    · rwa [offs_ne z] at hb
theorem vc_kin {rn : T → PM Unit T} {ok1 ok2 ok3 ok4 ok5 : Str → Bool} (o1 : ok1 "Kin" = true) (o2 : ok2 "Kin" = true) (o3 : ok3 "Kin" = true) (o4 : ok4 "Kin" = true) (o5 : ok5 "Kin" = true) :
    VC ["self", "book", "family", "child", "name"] (spFz "Kin" (u1 (kinM rn)))
      (cSeq (cFput "book" ok1 (cVar 0) (cVar 1))
      (cSeq (cFput "rows" ok2 (cVar 0) (cCall (spU (u1 rn)) (cCons (cVar 1) cNil)))
      (cSeq (cFput "folk" ok3 (cVar 0) cDnewM)
      (cSeq (cFor (iSeq (cOp ixT (cVar 1) (cC (.int 1)))) (gN 2) (cSeq (cTput (cUn (fldT "folk" ok3) (cVar 0)) (cVar 2) (cListM (cVar 2))) cSkip))
      (cSeq (cFput "child_in" ok4 (cVar 0) (cDictM (cComp (iWalk false (pFld "rows" ok2 (pVar 0))) (gN 4) bYes (cTup (cCons (cVar 4) (cCons (cLstM cNil) cNil))) [4])))
      (cSeq (cFput "parent_in" ok5 (cVar 0) (cDictM (cComp (iWalk false (pFld "rows" ok2 (pVar 0))) (gN 4) bYes (cTup (cCons (cVar 4) (cCons (cLstM cNil) cNil))) [4])))
      (cSeq (cFor (iSeq (cOp addT (cOp ixT (cVar 1) (cC (.int 2))) (cOp ixT (cVar 1) (cC (.int 3))))) (gT (gC (gN 3) (gC (gN 2) gZ))) (cSeq (cDo (cApp (cOp tgT (cUn (fldT "folk" ok3) (cVar 0)) (cVar 2)) (cVar 3))) (cSeq (cDo (cApp (cOp dgT (cUn (fldT "child_in" ok4) (cVar 0)) (cVar 3)) (cVar 2))) cSkip)))
      (cSeq (cFor (iSeq (cOp ixT (cVar 1) (cC (.int 1)))) (gN 2) (cSeq (cFor (iSeq (cVar 2)) (gN 4) (cSeq (cDo (cApp (cOp dgT (cUn (fldT "parent_in" ok5) (cVar 0)) (cVar 4)) (cVar 2))) cSkip)) cSkip))
      cSkip)))))))) := fun ts S Q E ⟨p, vs, e, hp, q⟩ => by
  subst e
  have hs := sizeLine_eq
  match vs, q with
  | [], q => exact q.elim
  | _ :: _ :: _, q => exact q.elim
  | [b], q =>
    obtain ⟨B, hB, eb, q2⟩ := kinM_sat (show Sat (kinM rn b ()) _ _ from q)
    subst eb
    clear q
    have nd : B.names.Nodup := hB.nd
    have ln : B.names.length ≤ 16 := by unfold Bk.names; rw [List.length_map]; exact hB.lf
    have h0 : KJ (offs S p) B.names (fun _ => p) k0 S := kj_zero hp
    have tv : TV p (bkT B) (startT ["self", "book", "family", "child", "name"] [.ref p, bkT B]) := ⟨rfl, rfl, rfl⟩
    generalize startT ["self", "book", "family", "child", "name"] [.ref p, bkT B] = τ at tv
    let F0 : List Nm → List T := fun f => f.map T.str
    let L0 : Nm → List T := fun _ => []
    -- the book
    refine ⟨_, tv.2.2, kin_put (y := bkT B) tv.2.1 h0 rfl o1 rfl (by decide) (by decide) fun S1 h1 => ?_⟩
    have h1 : KJ (offs S p) B.names (fun _ => p) ⟨["book"], [bkT B], false, [], [], false, [], false, F0, L0, L0⟩ S1 := h1
    clear h0
    -- the rows
    refine ⟨_, tv.2.2, ?_⟩
    show Sat (rn (bkT B) ()) _ _
    refine q2.mono (fun rows u ⟨rv, er, qr⟩ => ?_) fun x u qx => ⟨S1, fun _ _ z => z, qx S1 h1.sub⟩
    subst er
    refine kin_put (y := .dct false (B.names.map T.str) rv) tv.2.1 h1 rfl o2 rfl (show ("rows" : Str) ∉ (["book"] : List Str) by decide) (show 1 < 1000 by decide) fun S2 h2 => ?_
    generalize hR : T.dct false (B.names.map T.str) rv = R at h2 qr
    have h2 : KJ (offs S p) B.names (fun _ => p) ⟨["book", "rows"], [bkT B, R], false, [], [], false, [], false, F0, L0, L0⟩ S2 := h2
    clear h1 q2
    -- the folk
    refine fun f nf => ?_
    have h3 : KJ (offs S p) B.names (updT (fun _ => p) .folk f) ⟨["book", "rows"], [bkT B, R], true, [], [], false, [], false, F0, L0, L0⟩ (ups S2 f (.dct false [] [])) := KJ.newFolk h2 rfl rfl nf
    have a1 : updT (fun _ => p) Tg.folk f .self = p := updT_ne (by simp)
    have a2 : updT (fun _ => p) Tg.folk f .folk = f := updT_same
    generalize updT (fun _ => p) Tg.folk f = A3 at h3 a1 a2
    clear h2
    refine kin_put (y := .ref f) tv.2.1 h3 a1 o3 rfl (show ("folk" : Str) ∉ (["book", "rows"] : List Str) by decide) (show 2 < 1000 by decide) fun S3 h4 => ?_
    have h4 : KJ (offs S p) B.names A3 ⟨["book", "rows", "folk"], [bkT B, R, .ref f], true, [], [], false, [], false, F0, L0, L0⟩ S3 := h4
    clear h3
    refine kin_folk (E := fun x _ S' => FinX E x S') hB tv h4 a1 o3 (by rw [a2]; rfl) rfl rfl rfl fun τ4 S4 A4 t4 h5 b1 b2 => ?_
    rw [a2] at b2
    have h5 : KJ (offs S p) B.names A4 ⟨["book", "rows", "folk"], [bkT B, R, .ref f], true, B.unions, [], false, [], false, F0, L0, L0⟩ S4 := h5
    clear h4
    refine kin_lists (E := fun x _ S' => FinX E x S') true nd ln t4 h5 b1 ok2 ok4 o2 o4 (f := "child_in") (rows := rv) (by rw [hR]; rfl) rfl (show ("child_in" : Str) ∉ (["book", "rows", "folk"] : List Str) by decide) (show 3 < 1000 by decide) ⟨rfl, rfl, rfl⟩ fun S5 A5 c5 h6 c1 c2 c3 _ => ?_
    rw [if_pos rfl] at h6 c3
    rw [b2] at c2
    have h6 : KJ (offs S p) B.names A5 ⟨["book", "rows", "folk", "child_in"], [bkT B, R, .ref f, .ref c5], true, B.unions, B.names, true, [], false, F0, L0, L0⟩ S5 := h6
    clear h5
    refine kin_lists (E := fun x _ S' => FinX E x S') false nd ln t4 h6 c1 ok2 ok5 o2 o5 (f := "parent_in") (rows := rv) (by rw [hR]; rfl) rfl (show ("parent_in" : Str) ∉ (["book", "rows", "folk", "child_in"] : List Str) by decide) (show 4 < 1000 by decide) ⟨rfl, rfl, rfl⟩ fun S6 A6 d6 h7 d1 d2 d3 d4 => ?_
    rw [if_neg (by decide)] at h7 d3 d4
    rw [c2] at d2
    rw [c3] at d3
    have h7 : KJ (offs S p) B.names A6 ⟨nsK, [bkT B, R, .ref f, .ref c5, .ref d6], true, B.unions, B.names, true, B.names, true, F0, L0, L0⟩ S6 := h7
    clear h6
    refine kin_kids (E := fun x _ S' => FinX E x S') ok4 hB t4 h7 d1 o3 o4 (by rw [d2]; rfl) (by rw [d3]; rfl) rfl rfl rfl rfl rfl rfl fun τ7 S7 t7 h8 => ?_
    have h8 : KJ (offs S p) B.names A6 ⟨nsK, [bkT B, R, .ref f, .ref c5, .ref d6], true, B.unions, B.names, true, B.names, true, fun f => (folkB B f).map T.str, fun n => (inB (B.births ++ B.adopts) n).map famT, L0⟩ S7 := h8
    clear h7
    refine kin_pars (E := fun x _ S' => FinX E x S') hB t7 h8 d1 o5 (by rw [d4]; rfl) rfl rfl rfl fun τ8 S8 t8 h9 => ?_
    have h9 : KJ (offs S p) B.names A6 ⟨nsK, [bkT B, R, .ref f, .ref c5, .ref d6], true, B.unions, B.names, true, B.names, true, fun f => (folkB B f).map T.str, fun n => (inB (B.births ++ B.adopts) n).map famT, fun n => (ofB B.unions n).map famT⟩ S8 := h9
    clear h8
    refine Fin.of (qr S8 h9.sub ?_)
    have fin := Fz.insc (S2 := offs S p) (us := [bkT B, R, folkO B, chO B, paO B]) (h9.at_ .self trivial) (h9.own .self trivial) (.cons (.same _) (.cons (.same _) (.cons ?_ (.cons ?_ (.cons ?_ .nil)))))
    · rw [d1] at fin
      exact fin
    · rw [← d2]
      exact .dctc (h9.at_ .folk rfl) (h9.own .folk rfl) (fzs_map fun g hg => .lstc (h9.at_ (.fam g) hg) (h9.own (.fam g) hg) (fzs_self _))
    · rw [← d3]
      exact .dctc (h9.at_ .cd rfl) (h9.own .cd rfl) (fzs_map fun g hg => .lstc (h9.at_ (.ch g) hg) (h9.own (.ch g) hg) (fzs_self _))
    · rw [← d4]
      exact .dctc (h9.at_ .pd rfl) (h9.own .pd rfl) (fzs_map fun g hg => .lstc (h9.at_ (.pa g) hg) (h9.own (.pa g) hg) (fzs_self _))
end TL
namespace L2
open PySem PySem.Spec PyProof.Rows
section
variable {X : Cx} {o e : Expr} {es : List Expr} {to : TE} {t : TA} {name : Str} {apos cpos : Pos} {id : String} {r : V → List V → Hp → VK → Prop}
end
end L2
namespace TL
open PySem PySem.Spec PyProof.Rows
open L2 hiding putF
section
variable {X : Cx} {o e : Expr} {to te : TTE} {apos cpos : Pos}
end
section
variable {X : Cx} {e elt tg : Expr} {ifs : List Expr} {scope : Scope} {g : TTG} {tc : TTB} {te : TTE} {pos apos cpos : Pos} {ow : List (Str × Nat)} {p : TEnv → Sto → T → Prop} {rd : L2.St → Hp → V → Prop} {body : List Stmt} {t : TTS} {vs : List Nat}
theorem ts_forWK (P : Rpth X e p rd) (hp : PassesOwn (model X.prog X.w) X.A X.env X.xe) (hc : X.calm = true) (hg : TGt X vs tg g) (hb : TSs X body t) (hs : ∀ v, foldedSetIterable e X.env v = pure v := by intro _; rfl) :
    TS X (.For tg e body [] pos) (cFor (iWalk false p) g t) := ts_forW P (pi_walkK P) hp hc hg hb hs
theorem te_compWK (P : Rpth X e p rd) (hc : X.calm = true) (hND : X.N.Nodup) (ok : BlkOk X.N X.env.scope scope ow) (hg : Blk X scope fun Y => TGt Y (ow.map (·.2)) tg g) (ht : Blk X scope fun Y => TBs Y ifs tc) (he : Blk X scope fun Y => TE Y elt te)
    (hs : ∀ v, foldedSetIterable e X.env v = pure v := by intro _; rfl) : TE X (.ListComp elt [⟨tg, e, ifs, 0⟩] scope pos) (cComp (iWalk false p) g tc te (ow.map (·.2))) := te_compW P (pi_walkK P) hc hND ok hg ht he hs
end
section
variable {X : Cx}
end
end TL
namespace TL
open PySem PySem.Spec PyProof.Rows L2
section
variable {X : Cx} {e ls ks : Expr} {te tl tk : L2.TE} {p3 pos : Pos}
end
section
variable {κ : Type} {W : κ → Sto} {p : TEnv} {l : Cs} {a b c : TTE} {ma mb mc : PM κ T}
end
end TL
namespace TL
open PySem PySem.Spec PyProof.Rows L2
section
variable {X : Cx} {c : Str} {C : Addr} {fs : List Str} {e : Expr} {es : List Expr} {p pos : Pos} {j : Nat}
variable {ta : TTA}
end
section
variable {κ : Type} {W : κ → Sto} {p : TEnv} {l : Cs}
end
end TL
namespace TL
open PySem PySem.Spec PyProof.Rows L2
def neD0 (S : Sto) (x y : T) : Option T := match dView S x, dView S y with
  | some p, some q => if q.1 = [] then some (.bl (!p.1.isEmpty)) else none
  | _, _ => none
variable {X : Cx}
theorem op_neD0 (hu : X.A.units + 64 < cLine) : OpT X (compareOp .NotEq) neD0 := by
  intro pins s σ H x y v u Q I rx ry h
  obtain ⟨M, S, tx, ty, t, o, hx, hy, e, fin⟩ := h
  unfold neD0 at e
  split at e
  · rename_i p q e1 e2
    split at e
    · rename_i hq
      cases e
      obtain ⟨a1, kvs, rfl, r1, k1, w1⟩ := dView_rep o hx e1
      obtain ⟨a2, lvs, rfl, r2, k2, w2⟩ := dView_rep o hy e2
      cases (show v = Value.ref a1 from rx)
      cases (show u = Value.ref a2 from ry)
      obtain ⟨_, ya, va, ra, da⟩ := dk_rd I.hok r1
      obtain ⟨_, yb, vb, rb, db⟩ := dk_rd I.hok r2
      have la : kvs.length = va.length := Paired.length ra
      have lb : lvs.length = vb.length := Paired.length rb
      have lk1 := k1.length
      have lk2 := k2.length
      rw [List.length_map] at lk1 lk2
      have l0 : vb.length = 0 := by rw [← lb, ← lk2, hq]; rfl
      refine PySem.W.keq_ne (r := true) ya yb da db (by omega) (fun z => ?_) ?_
      · have v0 : va = [] := List.length_eq_zero_iff.mp (z.trans l0)
        subst v0
        exact .nil
      · refine ⟨.bl (!p.1.isEmpty), H, I, ?_, fin _ H o Ext.refl (.bl _)⟩
        show Value.bool (!(va.length == vb.length && true)) = Value.bool (!p.1.isEmpty)
        rw [l0, Bool.and_true]
        have e : p.1.length = va.length := by omega
        cases hp : p.1 with
        | nil => rw [hp] at e; rw [← e]; rfl
        | cons k ks => rw [hp] at e; rw [← e]; rfl
    · cases e
  · cases e
theorem opv_neD0 : OpV neD0 := fun S z1 v1 z2 v2 r h1 h2 e => by
  unfold neD0 at e ⊢
  split at e
  · rename_i p q e1 e2
    rw [dView_v h1 e1, dView_v h2 e2]
    exact e
  · cases e
end TL
namespace TL
open PySem PySem.Spec PyProof.Rows L2
/-- what digits tell -/
def digV (x : List Sg) : Nat := x.foldl (fun a c => a * 10 + (c.val - 48)) 0
def digB (x : List Sg) : Bool := !x.isEmpty && (decide (x.length ≤ 600) && x.all fun c => decide (48 ≤ c.val) && decide (c.val ≤ 57))
def itxF (_ : Sto) : List T → Option T
  | [.str x] => if digB x = true then some (.int (digV x : Nat)) else none
  | _ => none
theorem itx_reads {x : List Sg} (h : digB x = true) : PySem.intText? (txt x) = some ((digV x : Nat) : Int) ∧ (txt x).length ≤ 640 := by
  unfold digB at h
  rw [Bool.and_eq_true, Bool.and_eq_true, decide_eq_true_eq, List.all_eq_true] at h
  obtain ⟨h1, h2, h3⟩ := h
  have e : (txt x).cps.toList = x.map (·.val) := by unfold txt; simp
  have l : (txt x).length ≤ 600 := by rw [txt_len]; exact h2
  refine ⟨?_, by omega⟩
  rw [intText_digits (x := txt x) (by
    rw [e]
    intro c hc
    obtain ⟨d, hd, rfl⟩ := List.mem_map.mp hc
    have := h3 d hd
    rw [Bool.and_eq_true, decide_eq_true_eq, decide_eq_true_eq] at this
    exact this) (by
    rw [e]
    intro z
    have := List.map_eq_nil_iff.mp z
    rw [this] at h1
    cases h1) (by omega), e]
  congr 2
  show (x.map (·.val)).foldl (fun acc c => acc * 10 + (c - 48)) 0 = x.foldl (fun a c => a * 10 + (c.val - 48)) 0
  rw [List.foldl_map]
theorem fn_itx {X : Cx} : CallT X (.type "int") itxF := by
  intro pins s σ H xs us Q I r h
  obtain ⟨M, S, ts, t, o, rs, e, fin⟩ := h
  unfold itxF at e
  split at e
  · rename_i x
    split at e
    · rename_i hx
      obtain rfl := Option.some.inj e
      obtain ⟨v, rfl, ry⟩ := rs.one
      cases ry
      obtain ⟨h1, h2⟩ := itx_reads hx
      exact call_int_str pins s σ H _ us Q I r ⟨txt x, _, rfl, h1, h2, fin _ H o Ext.refl (.int _)⟩
    · cases e
  · cases e
theorem fnx_itxF : FnX' itxF := fun _ _ _ h => h
end TL
namespace K45
open PySem PySem.Spec PyProof.Rows TL
open L2 hiding putF
noncomputable section
abbrev fc_book : List Str := ["Kin"]
abbrev fc_child_in : List Str := ["Kin"]
abbrev fc_folk : List Str := ["Kin"]
abbrev fc_parent_in : List Str := ["Kin"]
abbrev fc_rows : List Str := ["Kin"]
def N_names_of : List Str := ["book", "name", "mark"]
def c_names_of : TTS :=
  (cSeq (cRet (cComp (iSeq (cOp ixT (cVar 0) (cC (.int 0)))) (gT (gC (gN 1) (gC (gN 2) gZ))) bYes (cVar 1) [1, 2]))
    cSkip)
def m_names_of (p_book : T) : PM Unit T :=
  bd (bd (bd (bd (pu p_book) fun v1 => bd (pu (.int 0)) fun v2 => ofO (ixT emp v1 v2)) itemsM) fun xs6 => bd (compG (fun x3 => bd (ofO (un2 x3)) fun b4 => bd (pu b4.1) fun v5 => pu (some v5)) xs6) fun ys7 => pu (.lst ys7)) fun v8 => pu v8
theorem x_names_of (S : Sto) (p_book : T) : XS (fun _ : Unit => S) [some p_book, none, none] [] c_names_of (m_names_of p_book) .rt :=
  (xs_ret (g := fun v => v) (fun _ => rfl) (XE.v (xe_comp (XIy.i (xiy_seq (xe_op opv_ixT (XE.v (xe_var rfl)) (XE.v xe_c)))) (fun x3 => xc_unY xg_2 fun b4 => (xe_var rfl)))))
def sp_names_of : SpT := spU (u1 m_names_of)
theorem len_names_of : ∀ ts S Q E, sp_names_of ts S Q E → ts.length = 1 := spU_len ar1
theorem vc_names_of : VC N_names_of sp_names_of c_names_of := vc_u1 x_names_of
def N_steps_from : List Str := ["book", "name", "found", "child", "family", "parent", "other"]
def c_steps_from : TTS :=
  (cSeq (cSet 2 (cLstM cNil))
    (cSeq (cFor (iSeq (cOp addT (cOp ixT (cVar 0) (cC (.int 2))) (cOp ixT (cVar 0) (cC (.int 3))))) (gT (gC (gN 3) (gC (gN 4) gZ))) ((cSeq (cIfS (bVal (cOp eqT (cVar 3) (cVar 1))) (cSeq (cDo (cExt (cVar 2) (cComp (iSeq (cVar 4)) (gN 5) bYes (cTup (cCons (cC (.str (q "child"))) (cCons (cVar 1) (cCons (cVar 5) cNil)))) [5])))
    cSkip) cSkip)
    cSkip)))
    (cSeq (cFor (iSeq (cOp ixT (cVar 0) (cC (.int 1)))) (gN 4) ((cSeq (cIfS (bVal (cOp inT (cVar 1) (cVar 4))) (cSeq (cDo (cExt (cVar 2) (cComp (iSeq (cVar 4)) (gN 6) (bVal (cOp neT (cVar 6) (cVar 1))) (cTup (cCons (cC (.str (q "union"))) (cCons (cVar 1) (cCons (cVar 6) cNil)))) [6])))
    cSkip) cSkip)
    cSkip)))
    (cSeq (cRet (cVar 2))
    cSkip))))
def m_steps_from (p_book p_name : T) : PM Unit T :=
  bd (pu ([] : List T)) fun ys1 => bd (bd (bd (bd (bd (pu p_book) fun v4 => bd (pu (.int 2)) fun v5 => ofO (ixT emp v4 v5)) fun v8 => bd (bd (pu p_book) fun v6 => bd (pu (.int 3)) fun v7 => ofO (ixT emp v6 v7)) fun v9 => ofO (addT emp v8 v9)) itemsM) fun xs24 => forM (fun x10 (s3 : List T) => bd (ofO (un2 x10)) fun b11 => bd (bd (bd (pu b11.1) fun v12 => bd (pu p_name) fun v13 => ofO (eqT emp v12 v13)) tb) fun v14 => if v14 = true then bd (bd (bd (pu b11.2) itemsM) fun xs22 => bd (compG (fun x17 => bd (bd (pu (.str (q "child"))) fun v18 => bd (pu p_name) fun v19 => bd (pu x17) fun v20 => pu (.tup [v18, v19, v20])) fun v21 => pu (some v21)) xs22) fun ys23 => pu (.lst ys23)) fun v16 => bd (extM s3 v16) fun ys15 => pu ys15 else pu s3) xs24 ys1) fun (s3 : List T) => bd (bd (bd (bd (pu p_book) fun v26 => bd (pu (.int 1)) fun v27 => ofO (ixT emp v26 v27)) itemsM) fun xs44 => forM (fun x28 (s25 : List T) => bd (bd (bd (pu p_name) fun v29 => bd (pu x28) fun v30 => ofO (inT emp v29 v30)) tb) fun v31 => if v31 = true then bd (bd (bd (pu x28) itemsM) fun xs42 => bd (compG (fun x34 => bd (bd (bd (pu x34) fun v39 => bd (pu p_name) fun v40 => ofO (neT emp v39 v40)) tb) fun v41 => if v41 = true then bd (bd (pu (.str (q "union"))) fun v35 => bd (pu p_name) fun v36 => bd (pu x34) fun v37 => pu (.tup [v35, v36, v37])) fun v38 => pu (some v38) else pu none) xs42) fun ys43 => pu (.lst ys43)) fun v33 => bd (extM s25 v33) fun ys32 => pu ys32 else pu s25) xs44 s3) fun (s25 : List T) => bd (pu (.lst s25)) fun v45 => pu v45
theorem x_steps_from (S : Sto) (p_book p_name : T) : XS (fun _ : Unit => S) [some p_book, some p_name, none, none, none, none, none] [] c_steps_from (m_steps_from p_book p_name) .rt :=
  (xs_new (xn_lst xa_nil) fun ys1 a2 => (xs_seq (xs_for (σ := List T) (P := fun s3 => [some p_book, some p_name, some (.ref a2), none, none, none, none]) (C := fun s3 => [(a2, .lst s3)]) (s0 := ys1) (xiy_seq (xe_op opv_addT (XE.v (xe_op opv_ixT (XE.v (xe_var rfl)) (XE.v xe_c))) (XE.v (xe_op opv_ixT (XE.v (xe_var rfl)) (XE.v xe_c))))) ⟨.inr rfl, .inr rfl, .inr rfl, .inl rfl, .inl rfl, .inl rfl, .inl rfl, trivial⟩ rfl (fun x10 s3 => xf_un xg_2 fun b11 => (xs_ifE (xb_val (xe_op opv_eqT (XE.v (xe_var rfl)) (XE.v (xe_var rfl)))) (xs_assoc (xs_ext (l1 := []) (l2 := []) rfl (XE.v (xe_comp (XIy.i (xiy_seq (xe_var rfl))) (fun x17 => xc_nameY (xe_tup (xa_cons xe_c (xa_cons (xe_var rfl) (xa_cons (xe_var rfl) xa_nil))))))) fun ys15 => (xs_skipseq (xs_skip rfl ⟨.inr rfl, .inr rfl, .inr rfl, .inl rfl, .inl rfl, .inl rfl, .inl rfl, trivial⟩)))) (xs_skipseq (xs_skip rfl ⟨.inr rfl, .inr rfl, .inr rfl, .inl rfl, .inl rfl, .inl rfl, .inl rfl, trivial⟩))))) fun s3 => (xs_seq (xs_for (σ := List T) (P := fun s25 => [some p_book, some p_name, some (.ref a2), none, none, none, none]) (C := fun s25 => [(a2, .lst s25)]) (s0 := s3) (xiy_seq (xe_op opv_ixT (XE.v (xe_var rfl)) (XE.v xe_c))) ⟨.inr rfl, .inr rfl, .inr rfl, .inl rfl, .inl rfl, .inl rfl, .inl rfl, trivial⟩ rfl (fun x28 s25 => xf_name (xs_ifE (xb_val (xe_opr opv_inT (xe_var rfl) (XE.v (xe_var rfl)))) (xs_assoc (xs_ext (l1 := []) (l2 := []) rfl (XE.v (xe_comp (XIy.i (xiy_seq (xe_var rfl))) (fun x34 => xc_name (xb_val (xe_op opv_neT (XE.v (xe_var rfl)) (XE.v (xe_var rfl)))) (xe_tup (xa_cons xe_c (xa_cons (xe_var rfl) (xa_cons (xe_var rfl) xa_nil))))))) fun ys32 => (xs_skipseq (xs_skip rfl ⟨.inr rfl, .inr rfl, .inr rfl, .inl rfl, .inl rfl, .inl rfl, .inl rfl, trivial⟩)))) (xs_skipseq (xs_skip rfl ⟨.inr rfl, .inr rfl, .inr rfl, .inl rfl, .inl rfl, .inl rfl, .inl rfl, trivial⟩))))) fun s25 => (xs_ret (g := fun v => v) (fun _ => rfl) (xv_cell rfl (.head _))))))
def sp_steps_from : SpT := spU (u2 m_steps_from)
theorem len_steps_from : ∀ ts S Q E, sp_steps_from ts S Q E → ts.length = 2 := spU_len ar2
theorem vc_steps_from : VC N_steps_from sp_steps_from c_steps_from := vc_u2 x_steps_from
def N_steps_between : List Str := ["book", "begin", "end", "came", "row", "at", "step"]
def c_steps_between : TTS :=
  (cSeq (cSet 3 (cDisp1M (cVar 1) (cLst cNil)))
    (cSeq (cSet 4 (cLstM (cCons (cVar 1) cNil)))
    (cSeq (cSet 5 (cC (.int 0)))
    (cSeq (cWhile (bVal (cOp ltT (cVar 5) (cFn lenF (cCons (cVar 4) cNil)))) ((cSeq (cFor (iSeq (cCall sp_steps_from (cCons (cVar 0) (cCons (cOp ixT (cVar 4) (cVar 5)) cNil)))) (gN 6) ((cSeq (cIfS (bVal (cOp dninT (cOp ixT (cVar 6) (cC (.int 2))) (cVar 3))) (cSeq (cDput (cVar 3) (cOp ixT (cVar 6) (cC (.int 2))) (cOp addT (cOp dgT (cVar 3) (cOp ixT (cVar 4) (cVar 5))) (cLst (cCons (cVar 6) cNil))))
    (cSeq (cDo (cApp (cVar 4) (cOp ixT (cVar 6) (cC (.int 2)))))
    cSkip)) cSkip)
    cSkip)))
    (cSeq (cSet 5 (cOp addT (cVar 5) (cC (.int 1))))
    cSkip))))
    (cDrop (cSeq (cRet (cGet2 (cVar 3) (cVar 2) (cC .non)))
    cSkip))))))
def m_steps_between (p_book p_begin p_end : T) : PM Unit T :=
  bd (bd (pu p_begin) fun v1 => bd ((pu (.lst []) : PM _ T)) fun v2 => bd (gd ((kyT v1).isSome = true)) fun _ => pu (([v1], [v2]) : List T × List T)) fun ys3 => bd (bd (pu p_begin) fun v5 => pu [v5]) fun ys6 => bd (pu (.int 0)) fun v8 => bd (whM (fun (s10 : (List T × List T) × List T × T) => (bd (bd (pu s10.2.2) fun v12 => bd (bd (pu (.lst s10.2.1)) fun v11 => ofO (lenF emp [v11])) fun v13 => ofO (ltT emp v12 v13)) tb)) (fun s10 => bd (bd (bd (bd (pu p_book) fun v17 => bd (bd (pu (.lst s10.2.1)) fun v15 => bd (pu s10.2.2) fun v16 => ofO (ixT emp v15 v16)) fun v18 => lft (m_steps_from v17 v18)) itemsM) fun xs41 => forM (fun x19 (s14 : (List T × List T) × List T) => bd (bd (bd (bd (pu x19) fun v20 => bd (pu (.int 2)) fun v21 => ofO (ixT emp v20 v21)) fun v22 => bd (pu (.dct false s14.1.1 s14.1.2)) fun v23 => ofO (dninT emp v22 v23)) tb) fun v24 => if v24 = true then bd (bd (bd (pu (.dct false s14.1.1 s14.1.2)) fun v27 => bd (bd (pu (.lst s14.2)) fun v25 => bd (pu s10.2.2) fun v26 => ofO (ixT emp v25 v26)) fun v28 => ofO (dgT emp v27 v28)) fun v30 => bd (bd (pu x19) fun v29 => pu (.lst [v29])) fun v31 => ofO (addT emp v30 v31)) fun v35 => bd (bd (pu x19) fun v32 => bd (pu (.int 2)) fun v33 => ofO (ixT emp v32 v33)) fun v36 => bd (dputM s14.1 v36 v35) fun ys34 => bd (bd (pu x19) fun v39 => bd (pu (.int 2)) fun v40 => ofO (ixT emp v39 v40)) fun v38 => bd (appM s14.2 v38) fun ys37 => pu (ys34, ys37) else pu (s14.1, s14.2)) xs41 (s10.1, s10.2.1)) fun (s14 : (List T × List T) × List T) => bd (bd (pu s10.2.2) fun v42 => bd (pu (.int 1)) fun v43 => ofO (addT emp v42 v43)) fun v44 => pu (s14.1, s14.2, v44)) fuel (ys3, ys6, v8)) fun (s10 : (List T × List T) × List T × T) => bd (bd (pu (.dct false s10.1.1 s10.1.2)) fun v46 => bd (gd ((dView emp v46).isSome = true)) fun _ => bd (pu p_end) fun v47 => bd (pu .non) fun v48 => ofO (dg2T emp v46 v47 v48)) fun v49 => pu v49
theorem x_steps_between (S : Sto) (p_book p_begin p_end : T) : XS (fun _ : Unit => S) [some p_book, some p_begin, some p_end, none, none, none, none] [] c_steps_between (m_steps_between p_book p_begin p_end) .rt :=
  (xs_new (xn_disp1 (fun _ => (xe_var rfl)) (fun _ => (xe_lst xa_nil))) fun ys3 a4 => (xs_new (xn_lst (xa_cons (xe_var rfl) xa_nil)) fun ys6 a7 => (xs_set xe_c fun v8 => (xs_seq (xs_wh (σ := (List T × List T) × List T × T) (P := fun s10 => [some p_book, some p_begin, some p_end, some (.ref a4), some (.ref a7), some s10.2.2, none]) (C := fun s10 => [(a7, .lst s10.2.1), (a4, .dct false s10.1.1 s10.1.2)]) (s0 := (ys3, ys6, v8)) ⟨.inr rfl, .inr rfl, .inr rfl, .inr rfl, .inr rfl, .inr rfl, .inl rfl, trivial⟩ rfl (fun s10 => (xb_val (xe_opx opx_ltT (xe_var rfl) (xe_fn fnv_lenF (xav_cons (xv_cell rfl (.head _)) xav_nil))))) (fun s10 => (xs_seq (xs_for (σ := (List T × List T) × List T) (P := fun s14 => [some p_book, some p_begin, some p_end, some (.ref a4), some (.ref a7), some s10.2.2, none]) (C := fun s14 => [(a7, .lst s14.2), (a4, .dct false s14.1.1 s14.1.2)]) (s0 := (s10.1, s10.2.1)) (xiy_seq (xe_call (xa_cons (xe_var rfl) (xa_cons (xe_op opv_ixT (xv_cell rfl (.head _)) (XE.v (xe_var rfl))) xa_nil)))) ⟨.inr rfl, .inr rfl, .inr rfl, .inr rfl, .inr rfl, .inr rfl, .inl rfl, trivial⟩ rfl (fun x19 s14 => xf_name (xs_ifE (xb_val (xe_opr opv_dninT (xe_op opv_ixT (XE.v (xe_var rfl)) (XE.v xe_c)) (xv_dcell rfl (.tail _ (.head _))))) (xs_assoc (xs_dput (r := s14.1) (l1 := [(a7, .lst s14.2)]) (l2 := []) rfl (xe_op opv_addT (XE.v (xe_op opv_dgT (xv_dcell rfl (.tail _ (.head _))) (XE.v (xe_op opv_ixT (xv_cell rfl (.head _)) (XE.v (xe_var rfl)))))) (XE.v (xe_lst (xa_cons (xe_var rfl) xa_nil)))) (xe_op opv_ixT (XE.v (xe_var rfl)) (XE.v xe_c)) fun ys34 => (xs_assoc (xs_app (l1 := []) (l2 := [(a4, .dct false ys34.1 ys34.2)]) rfl (xe_op opv_ixT (XE.v (xe_var rfl)) (XE.v xe_c)) fun ys37 => (xs_skipseq (xs_skip rfl ⟨.inr rfl, .inr rfl, .inr rfl, .inr rfl, .inr rfl, .inr rfl, .inl rfl, trivial⟩)))))) (xs_skipseq (xs_skip rfl ⟨.inr rfl, .inr rfl, .inr rfl, .inr rfl, .inr rfl, .inr rfl, .inl rfl, trivial⟩))))) fun s14 => (xs_set (xe_op opv_addT (XE.v (xe_var rfl)) (XE.v xe_c)) fun v44 => (xs_skip rfl ⟨.inr rfl, .inr rfl, .inr rfl, .inr rfl, .inr rfl, .inr rfl, .inl rfl, trivial⟩))))) fun s10 => (xs_dropD (i := 3) (l1 := [(a7, .lst s10.2.1)]) (l2 := []) rfl (xs_ret (g := fun v => v) (fun _ => rfl) (XE.v (xe_get2 (XE.v (xe_var rfl)) (xe_var rfl) xe_c))))))))
def sp_steps_between : SpT := spU (u3 m_steps_between)
theorem len_steps_between : ∀ ts S Q E, sp_steps_between ts S Q E → ts.length = 3 := spU_len ar3
theorem vc_steps_between : VC N_steps_between sp_steps_between c_steps_between := vc_u3 x_steps_between
def N_closed_steps : List Str := ["book", "child", "family", "parent", "rest"]
def c_closed_steps : TTS :=
  (cSeq (cFor (iSeq (cOp addT (cOp ixT (cVar 0) (cC (.int 2))) (cOp ixT (cVar 0) (cC (.int 3))))) (gT (gC (gN 1) (gC (gN 2) gZ))) ((cSeq (cFor (iSeq (cVar 2)) (gN 3) ((cSeq (cSet 4 (cCall sp_steps_between (cCons (cVar 0) (cCons (cVar 3) (cCons (cVar 1) cNil)))))
    (cSeq (cIfS (bVal (cOp isnT (cVar 4) (cC .non))) (cSeq (cRet (cFn tupleF (cCons (cOp addT (cLst (cCons (cTup (cCons (cC (.str (q "child"))) (cCons (cVar 1) (cCons (cVar 3) cNil)))) cNil)) (cVar 4)) cNil)))
    cSkip) cSkip)
    cSkip))))
    cSkip)))
    (cSeq (cRet (cC .non))
    cSkip))
def m_closed_steps (p_book : T) : PM Unit T :=
  bd (bd (bd (bd (bd (pu p_book) fun v2 => bd (pu (.int 2)) fun v3 => ofO (ixT emp v2 v3)) fun v6 => bd (bd (pu p_book) fun v4 => bd (pu (.int 3)) fun v5 => ofO (ixT emp v4 v5)) fun v7 => ofO (addT emp v6 v7)) itemsM) fun xs30 => forR (fun x8 (s1 : Unit) => bd (ofO (un2 x8)) fun b9 => bd (bd (bd (pu b9.2) itemsM) fun xs28 => forR (fun x11 (s10 : Unit) => bd (bd (pu p_book) fun v12 => bd (pu x11) fun v13 => bd (pu b9.1) fun v14 => lft (m_steps_between v12 v13 v14)) fun v15 => bd (bd (bd (pu v15) fun v17 => bd (pu .non) fun v18 => ofO (isnT emp v17 v18)) tb) fun v19 => if v19 = true then bd (bd (bd (bd (bd (pu (.str (q "child"))) fun v20 => bd (pu b9.1) fun v21 => bd (pu x11) fun v22 => pu (.tup [v20, v21, v22])) fun v23 => pu (.lst [v23])) fun v24 => bd (pu v15) fun v25 => ofO (addT emp v24 v25)) fun v26 => ofO (tupleF emp [v26])) fun v27 => pu (.rt v27) else pu (.nx ())) xs28 ()) fun r29 => Sum.elim (fun (s10 : Unit) => pu (.nx ())) (fun v => pu (.rt v)) r29) xs30 ()) fun r32 => Sum.elim (fun (s1 : Unit) => bd (pu .non) fun v31 => pu v31) (fun v => pu v) r32
theorem x_closed_steps (S : Sto) (p_book : T) : XS (fun _ : Unit => S) [some p_book, none, none, none, none] [] c_closed_steps (m_closed_steps p_book) .rt :=
  (xs_seqR (g := fun v => v) (fun _ => rfl) (xs_forR (σ := Unit) (P := fun s1 => [some p_book, none, none, none, none]) (C := fun s1 => []) (s0 := ()) (xiy_seq (xe_op opv_addT (XE.v (xe_op opv_ixT (XE.v (xe_var rfl)) (XE.v xe_c))) (XE.v (xe_op opv_ixT (XE.v (xe_var rfl)) (XE.v xe_c))))) ⟨.inr rfl, .inl rfl, .inl rfl, .inl rfl, .inl rfl, trivial⟩ rfl (fun x8 s1 => xf_un xg_2 fun b9 => (xs_seqR (g := Fl.rt) (fun _ => rfl) (xs_forR (σ := Unit) (P := fun s10 => [some p_book, some b9.1, some b9.2, none, none]) (C := fun s10 => []) (s0 := ()) (xiy_seq (xe_var rfl)) ⟨.inr rfl, .inr rfl, .inr rfl, .inl rfl, .inl rfl, trivial⟩ rfl (fun x11 s10 => xf_name (xs_set (xe_call (xa_cons (xe_var rfl) (xa_cons (xe_var rfl) (xa_cons (xe_var rfl) xa_nil)))) fun v15 => (xs_ifE (xb_val (xe_opx opx_isnT (xe_var rfl) xe_c)) (xs_assoc (xs_ret (g := Fl.rt) (fun _ => rfl) (XE.v (xe_fn fnv_tupleF (xav_cons (XE.v (xe_op opv_addT (XE.v (xe_lst (xa_cons (xe_tup (xa_cons xe_c (xa_cons (xe_var rfl) (xa_cons (xe_var rfl) xa_nil)))) xa_nil))) (XE.v (xe_var rfl)))) xav_nil))))) (xs_skipseq (xs_skip rfl ⟨.inr rfl, .inr rfl, .inr rfl, .inl rfl, .inl rfl, trivial⟩)))))) fun s10 => (xs_skip rfl ⟨.inr rfl, .inl rfl, .inl rfl, .inl rfl, .inl rfl, trivial⟩)))) fun s1 => (xs_ret (g := fun v => v) (fun _ => rfl) (XE.v xe_c)))
def sp_closed_steps : SpT := spU (u1 m_closed_steps)
theorem len_closed_steps : ∀ ts S Q E, sp_closed_steps ts S Q E → ts.length = 1 := spU_len ar1
theorem vc_closed_steps : VC N_closed_steps sp_closed_steps c_closed_steps := vc_u1 x_closed_steps
def N_lowered : List Str := ["book", "rows", "changed", "family", "lowest", "name", "child", "least"]
def c_lowered : TTS :=
  (cSeq (cSet 2 (cC (.bl false)))
    (cSeq (cFor (iSeq (cOp ixT (cVar 0) (cC (.int 1)))) (gN 3) ((cSeq (cSet 4 (cFn max1F (cCons (cComp (iSeq (cVar 3)) (gN 5) bYes (cOp dgT (cVar 1) (cVar 5)) [5]) cNil)))
    (cSeq (cFor (iSeq (cVar 3)) (gN 5) ((cSeq (cIfS (bVal (cOp ltT (cOp dgT (cVar 1) (cVar 5)) (cVar 4))) (cSeq (cDput (cVar 1) (cVar 5) (cVar 4))
    (cSeq (cSet 2 (cC (.bl true)))
    cSkip)) cSkip)
    cSkip)))
    cSkip))))
    (cSeq (cFor (iSeq (cOp addT (cOp ixT (cVar 0) (cC (.int 2))) (cOp ixT (cVar 0) (cC (.int 3))))) (gT (gC (gN 6) (gC (gN 3) gZ))) ((cSeq (cSet 7 (cOp addT (cC (.int 1)) (cFn max1F (cCons (cComp (iSeq (cVar 3)) (gN 5) bYes (cOp dgT (cVar 1) (cVar 5)) [5]) cNil))))
    (cSeq (cIfS (bVal (cOp ltT (cOp dgT (cVar 1) (cVar 6)) (cVar 7))) (cSeq (cDput (cVar 1) (cVar 6) (cVar 7))
    (cSeq (cSet 2 (cC (.bl true)))
    cSkip)) cSkip)
    cSkip))))
    (cSeq (cRet (cVar 2))
    cSkip))))
def m_lowered (p_book : T) : PM Cell T :=
  bd (pu (.bl false)) fun v1 => bd (bd (bd (bd (pu p_book) fun v4 => bd (pu (.int 1)) fun v5 => ofO (ixT emp v4 v5)) itemsM) fun xs24 => forM (fun x6 (s3 : T) => bd (bd (bd (bd (pu x6) itemsM) fun xs9 => bd (compG (fun x7 => bd (bd (pu x7) penDg) fun v8 => pu (some v8)) xs9) fun ys10 => pu (.lst ys10)) fun v11 => ofO (max1F emp [v11])) fun v12 => bd (bd (bd (pu x6) itemsM) fun xs23 => forM (fun x15 (s14 : T) => bd (bd (bd (bd (pu x15) penDg) fun v16 => bd (pu v12) fun v17 => ofO (ltT emp v16 v17)) tb) fun v18 => if v18 = true then bd (pu v12) fun v19 => bd (pu x15) fun v20 => bd (penDput v20 v19) fun _ => bd (pu (.bl true)) fun v21 => pu v21 else pu s14) xs23 s3) fun (s14 : T) => pu s14) xs24 v1) fun (s3 : T) => bd (bd (bd (bd (bd (pu p_book) fun v26 => bd (pu (.int 2)) fun v27 => ofO (ixT emp v26 v27)) fun v30 => bd (bd (pu p_book) fun v28 => bd (pu (.int 3)) fun v29 => ofO (ixT emp v28 v29)) fun v31 => ofO (addT emp v30 v31)) itemsM) fun xs50 => forM (fun x32 (s25 : T) => bd (ofO (un2 x32)) fun b33 => bd (bd (pu (.int 1)) fun v39 => bd (bd (bd (bd (pu b33.2) itemsM) fun xs36 => bd (compG (fun x34 => bd (bd (pu x34) penDg) fun v35 => pu (some v35)) xs36) fun ys37 => pu (.lst ys37)) fun v38 => ofO (max1F emp [v38])) fun v40 => ofO (addT emp v39 v40)) fun v41 => bd (bd (bd (bd (pu b33.1) penDg) fun v43 => bd (pu v41) fun v44 => ofO (ltT emp v43 v44)) tb) fun v45 => if v45 = true then bd (pu v41) fun v46 => bd (pu b33.1) fun v47 => bd (penDput v47 v46) fun _ => bd (pu (.bl true)) fun v48 => pu v48 else pu s25) xs50 s3) fun (s25 : T) => bd (pu s25) fun v51 => pu v51
theorem x_lowered (S : Sto) (pa : Addr) (p_book : T) : XS (penW S pa) [some p_book, some (.ref pa), none, none, none, none, none, none] [] c_lowered (m_lowered p_book) .rt :=
  (xs_set xe_c fun v1 => (xs_seq (xs_for (σ := T) (P := fun s3 => [some p_book, some (.ref pa), some s3, none, none, none, none, none]) (C := fun s3 => []) (s0 := v1) (xiy_seq (xe_op opv_ixT (XE.v (xe_var rfl)) (XE.v xe_c))) ⟨.inr rfl, .inr rfl, .inr rfl, .inl rfl, .inl rfl, .inl rfl, .inl rfl, .inl rfl, trivial⟩ rfl (fun x6 s3 => xf_name (xs_set (xe_fn fnv_max1F (xav_cons (XE.v (xe_comp (XIy.i (xiy_seq (xe_var rfl))) (fun x7 => xc_nameY (xe_penDg rfl (xe_var rfl))))) xav_nil)) fun v12 => (xs_seq (xs_for (σ := T) (P := fun s14 => [some p_book, some (.ref pa), some s14, some x6, some v12, none, none, none]) (C := fun s14 => []) (s0 := s3) (xiy_seq (xe_var rfl)) ⟨.inr rfl, .inr rfl, .inr rfl, .inr rfl, .inr rfl, .inl rfl, .inl rfl, .inl rfl, trivial⟩ rfl (fun x15 s14 => xf_name (xs_ifE (xb_val (xe_opx opx_ltT (xe_penDg rfl (xe_var rfl)) (xe_var rfl))) (xs_assoc (xs_penDput rfl (xe_var rfl) (xe_var rfl) (xs_assoc (xs_set xe_c fun v21 => (xs_skipseq (xs_skip rfl ⟨.inr rfl, .inr rfl, .inr rfl, .inr rfl, .inr rfl, .inl rfl, .inl rfl, .inl rfl, trivial⟩)))))) (xs_skipseq (xs_skip rfl ⟨.inr rfl, .inr rfl, .inr rfl, .inr rfl, .inr rfl, .inl rfl, .inl rfl, .inl rfl, trivial⟩))))) fun s14 => (xs_skip rfl ⟨.inr rfl, .inr rfl, .inr rfl, .inl rfl, .inl rfl, .inl rfl, .inl rfl, .inl rfl, trivial⟩))))) fun s3 => (xs_seq (xs_for (σ := T) (P := fun s25 => [some p_book, some (.ref pa), some s25, none, none, none, none, none]) (C := fun s25 => []) (s0 := s3) (xiy_seq (xe_op opv_addT (XE.v (xe_op opv_ixT (XE.v (xe_var rfl)) (XE.v xe_c))) (XE.v (xe_op opv_ixT (XE.v (xe_var rfl)) (XE.v xe_c))))) ⟨.inr rfl, .inr rfl, .inr rfl, .inl rfl, .inl rfl, .inl rfl, .inl rfl, .inl rfl, trivial⟩ rfl (fun x32 s25 => xf_un xg_2 fun b33 => (xs_set (xe_op opv_addT (XE.v xe_c) (XE.v (xe_fn fnv_max1F (xav_cons (XE.v (xe_comp (XIy.i (xiy_seq (xe_var rfl))) (fun x34 => xc_nameY (xe_penDg rfl (xe_var rfl))))) xav_nil)))) fun v41 => (xs_ifE (xb_val (xe_opx opx_ltT (xe_penDg rfl (xe_var rfl)) (xe_var rfl))) (xs_assoc (xs_penDput rfl (xe_var rfl) (xe_var rfl) (xs_assoc (xs_set xe_c fun v48 => (xs_skipseq (xs_skip rfl ⟨.inr rfl, .inr rfl, .inr rfl, .inl rfl, .inl rfl, .inl rfl, .inl rfl, .inl rfl, trivial⟩)))))) (xs_skipseq (xs_skip rfl ⟨.inr rfl, .inr rfl, .inr rfl, .inl rfl, .inl rfl, .inl rfl, .inl rfl, .inl rfl, trivial⟩)))))) fun s25 => (xs_ret (g := fun v => v) (fun _ => rfl) (XE.v (xe_var rfl))))))
def sp_lowered : SpT := spQ m_lowered
theorem len_lowered : ∀ ts S Q E, sp_lowered ts S Q E → ts.length = 2 := spQ_len
theorem vc_lowered : VC N_lowered sp_lowered c_lowered := vc_q x_lowered
def N_rows_of : List Str := ["book", "steps", "rows", "name"]
def c_rows_of : TTS :=
  (cSeq (cSet 1 (cCall sp_closed_steps (cCons (cVar 0) cNil)))
    (cSeq (cIfS (bVal (cOp isnT (cVar 1) (cC .non))) (cSeq (cRaise "NoRows" ["ring"] (cCons (cVar 1) cNil))
    cSkip) cSkip)
    (cSeq (cSet 2 (cDictM (cComp (iSeq (cCall sp_names_of (cCons (cVar 0) cNil))) (gN 3) bYes (cTup (cCons (cVar 3) (cCons (cC (.int 0)) cNil))) [3])))
    (cSeq (cWhile (bVal (cCall sp_lowered (cCons (cVar 0) (cCons (cVar 2) cNil)))) ((cSeq cSkip
    cSkip)))
    (cDrop (cSeq (cRet (cFn tupleF (cCons (cComp (iSeq (cCall sp_names_of (cCons (cVar 0) cNil))) (gN 3) bYes (cOp dgT (cVar 2) (cVar 3)) [3]) cNil)))
    cSkip))))))
def m_rows_of (p_book : T) : PM Unit T :=
  bd (bd (pu p_book) fun v1 => lft (m_closed_steps v1)) fun v2 => bd (bd (bd (pu v2) fun v4 => bd (pu .non) fun v5 => ofO (isnT emp v4 v5)) tb) fun v6 => if v6 = true then bd (pu v2) fun v7 => thr (.exc "NoRows" ["ring"] [v7]) else bd (bd (bd (bd (bd (pu p_book) fun v8 => lft (m_names_of v8)) itemsM) fun xs13 => bd (compG (fun x9 => bd (bd (pu x9) fun v10 => bd (pu (.int 0)) fun v11 => pu (.tup [v10, v11])) fun v12 => pu (some v12)) xs13) fun ys14 => pu (.lst ys14)) mrgM) fun ys15 => bd (whP (m_lowered p_book) fuel ys15) fun r17 => bd (bd (bd (bd (bd (pu p_book) fun v18 => lft (m_names_of v18)) itemsM) fun xs23 => bd (compG (fun x19 => bd (bd (pu (.dct false r17.1 r17.2)) fun v20 => bd (pu x19) fun v21 => ofO (dgT emp v20 v21)) fun v22 => pu (some v22)) xs23) fun ys24 => pu (.lst ys24)) fun v25 => ofO (tupleF emp [v25])) fun v26 => pu v26
theorem x_rows_of (S : Sto) (p_book : T) : XS (fun _ : Unit => S) [some p_book, none, none, none] [] c_rows_of (m_rows_of p_book) .rt :=
  (xs_set (xe_call (xa_cons (xe_var rfl) xa_nil)) fun v2 => (xs_ifE (xb_val (xe_opx opx_isnT (xe_var rfl) xe_c)) (xs_assoc (xs_raise (xa_cons (xe_var rfl) xa_nil))) (xs_skipseq (xs_new (xn_dictM (XE.v (xe_comp (XIy.i (xiy_seq (xe_call (xa_cons (xe_var rfl) xa_nil)))) (fun x9 => xc_nameY (xe_tup (xa_cons (xe_var rfl) (xa_cons xe_c xa_nil))))))) fun ys15 a16 => (xs_seq (xs_whQ (l1 := []) (l2 := []) (r0 := ys15) rfl rfl) fun r17 => (xs_dropD (i := 2) (l1 := []) (l2 := []) rfl (xs_ret (g := fun v => v) (fun _ => rfl) (XE.v (xe_fn fnv_tupleF (xav_cons (XE.v (xe_comp (XIy.i (xiy_seq (xe_call (xa_cons (xe_var rfl) xa_nil)))) (fun x19 => xc_nameY (xe_op opv_dgT (XE.v (xe_var rfl)) (XE.v (xe_var rfl)))))) xav_nil))))))))))
def sp_rows_of : SpT := spU (u1 m_rows_of)
theorem len_rows_of : ∀ ts S Q E, sp_rows_of ts S Q E → ts.length = 1 := spU_len ar1
theorem vc_rows_of : VC N_rows_of sp_rows_of c_rows_of := vc_u1 x_rows_of
def N_row_by_name : List Str := ["book", "person", "row"]
def c_row_by_name : TTS :=
  (cSeq (cRet (cFn dictF (cCons (cComp (iZip (cOp ixT (cVar 0) (cC (.int 0))) (cCall sp_rows_of (cCons (cVar 0) cNil))) (gT (gC (gN 1) (gC (gN 2) gZ))) bYes (cTup (cCons (cOp ixT (cVar 1) (cC (.int 0))) (cCons (cVar 2) cNil))) [1, 2]) cNil)))
    cSkip)
def m_row_by_name (p_book : T) : PM Unit T :=
  bd (bd (bd (bd (bd (pu p_book) fun v1 => bd (pu (.int 0)) fun v2 => ofO (ixT emp v1 v2)) fun v4 => bd (bd (pu p_book) fun v3 => lft (m_rows_of v3)) fun v5 => zipM v4 v5) fun xs13 => bd (compG (fun x6 => bd (ofO (un2 x6)) fun b7 => bd (bd (bd (pu b7.1) fun v8 => bd (pu (.int 0)) fun v9 => ofO (ixT emp v8 v9)) fun v10 => bd (pu b7.2) fun v11 => pu (.tup [v10, v11])) fun v12 => pu (some v12)) xs13) fun ys14 => pu (.lst ys14)) fun v15 => ofO (dictF emp [v15])) fun v16 => pu v16
theorem x_row_by_name (S : Sto) (p_book : T) : XS (fun _ : Unit => S) [some p_book, none, none] [] c_row_by_name (m_row_by_name p_book) .rt :=
  (xs_ret (g := fun v => v) (fun _ => rfl) (XE.v (xe_fn fnv_dictF (xav_cons (XE.v (xe_comp (XIy.i (xiy_zip (xe_op opv_ixT (XE.v (xe_var rfl)) (XE.v xe_c)) (xe_call (xa_cons (xe_var rfl) xa_nil)))) (fun x6 => xc_unY xg_2 fun b7 => (xe_tup (xa_cons (xe_op opv_ixT (XE.v (xe_var rfl)) (XE.v xe_c)) (xa_cons (xe_var rfl) xa_nil)))))) xav_nil))))
def sp_row_by_name : SpT := spU (u1 m_row_by_name)
theorem len_row_by_name : ∀ ts S Q E, sp_row_by_name ts S Q E → ts.length = 1 := spU_len ar1
theorem vc_row_by_name : VC N_row_by_name sp_row_by_name c_row_by_name := vc_u1 x_row_by_name
def N_unions_by_rows : List Str := ["book", "rows", "found", "family", "row"]
def c_unions_by_rows : TTS :=
  (cSeq (cSet 1 (cCall sp_row_by_name (cCons (cVar 0) cNil)))
    (cSeq (cSet 2 (cLst cNil))
    (cSeq (cIfS (bVal (cOp neD0 (cVar 1) cDnew)) (cSeq (cSet 2 (cComp (iRange1 (cOp addT (cUn maxDT (cVar 1)) (cC (.int 1)))) (gN 4) bYes (cLstM cNil) [4]))
    cSkip) cSkip)
    (cSeq (cFor (iSeq (cOp ixT (cVar 0) (cC (.int 1)))) (gN 3) ((cSeq (cDo (cApp (cOp ixT (cVar 2) (cOp dgT (cVar 1) (cOp ixT (cVar 3) (cC (.int 0))))) (cVar 3)))
    cSkip)))
    (cDrop (cSeq (cRet (cVar 2))
    cSkip))))))
def lolAp {κ : Type} (xss : List (List T)) (i f : T) : PM κ (List (List T)) := match i with
  | .int k => match ixN xss.length k with
    | some j => bd (gd ((xss.getD j []).length < sizeLine)) fun _ => pu (xss.set j (xss.getD j [] ++ [f]))
    | none => stuck
  | _ => stuck
abbrev uF : TTS := cFor (iSeq (cOp ixT (cVar 0) (cC (.int 1)))) (gN 3) ((cSeq (cDo (cApp (cOp ixT (cVar 2) (cOp dgT (cVar 1) (cOp ixT (cVar 3) (cC (.int 0))))) (cVar 3))) cSkip))
abbrev uEnd : TTS := cDrop (cSeq (cRet (cVar 2)) cSkip)
def mF (rows f : T) (xss : List (List T)) : PM Unit (List (List T)) := bd (ofO (ixT emp f (.int 0))) fun a => bd (ofO (dgT emp rows a)) fun i => lolAp xss i f
/-- the inner lists' cells -/
def lolC (bs : List Addr) (xss : List (List T)) : Cs := bs.zip (xss.map Cell.lst)
theorem lolC_at {bs : List Addr} : ∀ {xss : List (List T)} {j : Nat} {a : Addr} {xs : List T}, bs[j]? = some a → xss[j]? = some xs → (a, Cell.lst xs) ∈ lolC bs xss := fun {xss j a xs} h1 h2 => by
  refine List.mem_of_getElem? (i := j) ?_
  unfold lolC
  rw [List.getElem?_zip_eq_some]
  exact ⟨h1, by rw [List.getElem?_map, h2]; rfl⟩
theorem fzs_same {S S2 : Sto} : ∀ ts : List T, Fzs S S2 ts ts
  | [] => .nil
  | t :: ts => .cons (.same t) (fzs_same ts)
theorem fzs_lol {S S2 : Sto} : ∀ (bs : List Addr) (xss : List (List T)), bs.length = xss.length → (∀ p ∈ lolC bs xss, S p.1 = some p.2) → (∀ a ∈ bs, S2 a = none) → Fzs S S2 (bs.map T.ref) (xss.map T.lst)
  | [], [], _, _, _ => .nil
  | a :: bs, xs :: xss, l, h, n => .cons (.lstc (h (a, .lst xs) (.head _)) (n a (.head _)) (fzs_same xs)) (fzs_lol bs xss (by simpa using l) (fun p hp => h p (.tail _ hp)) fun c hc => n c (.tail _ hc))
  | [], _ :: _, l, _, _ => by cases l
  | _ :: _, [], l, _, _ => by cases l
theorem u_end {S0 S : Sto} {b rows : T} {t3 t4 : Option T} {bs : List Addr} {xss : List (List T)} (l : bs.length = xss.length) (L : SI (fun _ : Unit => S0) (lolC bs xss) () S) {D : TD} {E : T → TEnv → Sto → Prop} (h : DOk (fun _ : Unit => S0) D () (.rt (.lst (xss.map T.lst)))) :
    uEnd D [some b, some rows, some (.lst (bs.map T.ref)), t3, t4] S E := by
  have own : ∀ a ∈ bs, S0 a = none := fun a ha => by
    obtain ⟨j, hj⟩ := List.mem_iff_getElem?.mp ha
    have lt : j < xss.length := by
      rw [← l]
      exact (List.getElem?_eq_some_iff.mp hj).1
    exact L.own _ (lolC_at hj (List.getElem?_eq_getElem lt))
  refine ⟨[some b, some rows, some (.lst (xss.map T.lst)), t3, t4], fun a => if a ∈ bs then none else S a, ?_, ⟨rfl, fun i u e => ?_⟩, ?_⟩
  · intro a c e
    dsimp only at e
    split at e
    · cases e
    · exact e
  · match i, e with
    | 0, e => cases e; exact ⟨_, rfl, .same _⟩
    | 1, e => cases e; exact ⟨_, rfl, .same _⟩
    | 2, e => cases e; exact ⟨_, rfl, .lst (fzs_lol bs xss l L.at_ fun a ha => if_pos ha)⟩
    | 3, e => exact ⟨_, e, .same _⟩
    | 4, e => exact ⟨_, e, .same _⟩
  · refine ⟨_, rfl, h [] _ _ ⟨nofun, nofun, List.nodup_nil, fun a c e => ?_⟩ (.inl rfl)⟩
    have na : a ∉ bs := fun m => by
      have e : S0 a = some c := e
      rw [own a m] at e
      cases e
    show (if a ∈ bs then none else S a) = some c
    rw [if_neg na]
    exact L.base a c e
theorem lolC_fst {bs : List Addr} {xss : List (List T)} (l : bs.length = xss.length) : (lolC bs xss).map (·.1) = bs := by
  unfold lolC
  rw [List.map_fst_zip (by rw [List.length_map]; omega)]
theorem lol_put {S0 S : Sto} {bs : List Addr} {xss : List (List T)} (l : bs.length = xss.length) (L : SI (fun _ : Unit => S0) (lolC bs xss) () S) {j : Nat} {a : Addr} {xs ys : List T} (hb : bs[j]? = some a) (hx : xss[j]? = some xs) : SI (fun _ : Unit => S0) (lolC bs (xss.set j ys)) () (ups S a (.lst ys)) := by
  have nd : bs.Nodup := by have := L.nd; rwa [lolC_fst l] at this
  have ma := lolC_at hb hx
  have na := L.own _ ma
  refine ⟨fun e he => ?_, fun e he => ?_, by rw [lolC_fst (by rw [List.length_set]; exact l)]; exact nd, fun c d hc => ?_⟩
  · obtain ⟨i, hi⟩ := List.mem_iff_getElem?.mp he
    unfold lolC at hi
    rw [List.getElem?_zip_eq_some] at hi
    obtain ⟨h1, h2⟩ := hi
    rw [List.getElem?_map] at h2
    obtain ⟨zs, h3, h4⟩ := Option.map_eq_some_iff.mp h2
    rw [← h4]
    by_cases z : i = j
    · subst z
      rw [hb] at h1
      have h1 : a = e.1 := Option.some.inj h1
      have lt : i < xss.length := (List.getElem?_eq_some_iff.mp hx).1
      rw [List.getElem?_set_self lt] at h3
      cases h3
      rw [← h1]
      exact ups_same
    · rw [List.getElem?_set_ne (fun q => z q.symm)] at h3
      have ne : e.1 ≠ a := fun q => by
        rw [q] at h1
        obtain ⟨p1, p2⟩ := List.getElem?_eq_some_iff.mp h1
        obtain ⟨q1, q2⟩ := List.getElem?_eq_some_iff.mp hb
        have w := nd.idxOf_getElem i p1
        rw [p2, ← q2, nd.idxOf_getElem j q1] at w
        exact z w.symm
      rw [ups_ne ne]
      exact L.at_ _ (lolC_at h1 h3)
  · obtain ⟨i, hi⟩ := List.mem_iff_getElem?.mp he
    unfold lolC at hi
    rw [List.getElem?_zip_eq_some] at hi
    have lt : i < xss.length := by rw [← l]; exact (List.getElem?_eq_some_iff.mp hi.1).1
    exact (show S0 e.1 = none from L.own (e.1, Cell.lst xss[i]) (lolC_at hi.1 (List.getElem?_eq_getElem lt)))
  · have ne : c ≠ a := fun q => by
      have hc : S0 c = some d := hc
      rw [q] at hc
      have na : S0 a = none := na
      rw [na] at hc
      cases hc
    rw [ups_ne ne]
    exact L.base c d hc
theorem u_for {S0 : Sto} {b rows : T} {bs : List Addr} {gd : Sto → Prop} {D : TD} {E : T → TEnv → Sto → Prop} {t4 : Option T} {P : List (List T) → Unit → Prop} {X : T → Unit → Prop} (hg : ∀ S, SI (fun _ : Unit => S0) [] () S → gd S) (hP : ∀ xss', P xss' () → ∀ S' t3', bs.length = xss'.length → SI (fun _ : Unit => S0) (lolC bs xss') () S' → D.nx [some b, some rows, some (.lst (bs.map T.ref)), t3', t4] S') : ∀ (fs : List T) (xss : List (List T)) (S : Sto) (t3 : Option T), bs.length = xss.length → SI (fun _ : Unit => S0) (lolC bs xss) () S →
    Sat (TL.forM (mF rows) fs xss ()) P X →
    forT (gN 3) ((cSeq (cDo (cApp (cOp ixT (cVar 2) (cOp dgT (cVar 1) (cOp ixT (cVar 3) (cC (.int 0))))) (cVar 3))) cSkip)) gd D E fs [some b, some rows, some (.lst (bs.map T.ref)), t3, t4] S
  | [], xss, S, t3, l, L, s => ⟨hg S ⟨nofun, nofun, List.nodup_nil, L.base⟩, hP xss s S t3 l L⟩
  | f :: fs, xss, S, t3, l, L, s => by
    refine ⟨hg S ⟨nofun, nofun, List.nodup_nil, L.base⟩, ?_⟩
    have s : Sat (bd (mF rows f xss) (fun xss => TL.forM (mF rows) fs xss) ()) P X := s
    have s := Sat.bd.mp s
    unfold mF at s
    cases e1 : ixT emp f (.int 0) with
    | none => rw [e1] at s; exact s.elim
    | some a1 =>
      rw [e1, ofO_some, pu_bd] at s
      cases e2 : dgT emp rows a1 with
      | none => rw [e2] at s; exact s.elim
      | some a2 =>
        rw [e2, ofO_some, pu_bd] at s
        unfold lolAp at s
        cases a2 with
        | int k =>
          dsimp only at s
          cases e3 : ixN xss.length k with
          | none => rw [e3] at s; exact s.elim
          | some j =>
            rw [e3] at s
            have lt : j < xss.length := (ixN_seq e3).2.1
            by_cases hz : (xss.getD j []).length < sizeLine
            · have s : Sat (TL.forM (mF rows) fs (xss.set j (xss.getD j [] ++ [f])) ()) P X := by
                have s : Sat ((bd (TL.gd ((xss.getD j []).length < sizeLine)) fun _ => pu (xss.set j (xss.getD j [] ++ [f]))) ()) (fun a k' => Sat (TL.forM (mF rows) fs a k') P X) X := s
                rw [gd_true hz, pu_bd] at s
                exact s
              have hx : xss[j]? = some (xss.getD j []) := by
                rw [List.getElem?_eq_getElem lt, List.getD_eq_getElem?_getD, List.getElem?_eq_getElem lt]
                rfl
              obtain ⟨adr, hb⟩ : ∃ adr, bs[j]? = some adr := ⟨_, List.getElem?_eq_getElem (by rw [l]; exact lt)⟩
              have hS : S adr = some (.lst (xss.getD j [])) := L.at_ _ (lolC_at hb hx)
              have h1 : ixT S f (.int 0) = some a1 := opv_ixT S f f _ _ a1 (.inl rfl) (.inl rfl) e1
              have h2 : dgT S rows a1 = some (.int k) := opv_dgT S _ _ _ _ _ (.inl rfl) (.inl rfl) e2
              have h3 : ixT S (.lst (bs.map T.ref)) (.int k) = some (.ref adr) := by
                show L2.atI (bs.map T.ref) k = _
                unfold L2.atI
                rw [List.length_map, l, e3]
                show (bs.map T.ref)[j]? = _
                rw [List.getElem?_map, hb]
                rfl
              refine ⟨_, rfl, _, rfl, _, rfl, a1, h1, .int k, h2, .ref adr, h3, adr, _, rfl, hS, _, rfl, _, hS, hz, ?_⟩
              exact u_for hg hP fs (xss.set j (xss.getD j [] ++ [f])) _ (some f) (by rw [List.length_set]; exact l) (lol_put l L hb hx) s
            · have g : (TL.gd ((xss.getD j []).length < sizeLine) : PM Unit Unit) = stuck := by unfold TL.gd; exact if_neg hz
              have s : Sat ((bd (TL.gd ((xss.getD j []).length < sizeLine)) fun _ => pu (xss.set j (xss.getD j [] ++ [f]))) ()) (fun a k' => Sat (TL.forM (mF rows) fs a k') P X) X := s
              rw [g] at s
              exact s.elim
        | _ => exact s.elim
theorem u_comp {S0 : Sto} {n : Nat} {gd : Sto → Prop} (hg : ∀ S, SI (fun _ : Unit => S0) [] () S → gd S) {τ : TEnv} {K : List T → Sto → Prop} (hτ : τ.length = 5) : ∀ (xs : List T) (bs : List Addr) (S : Sto), bs.length + xs.length ≤ 1000000 → SI (fun _ : Unit => S0) (lolC bs (bs.map fun _ => [])) () S →
    (∀ bs' S', bs'.length = bs.length + xs.length → SI (fun _ : Unit => S0) (lolC bs' (bs'.map fun _ => [])) () S' → K (bs'.map T.ref) S') → compT (gN 4) bYes (cLstM cNil) [4] gd τ K xs (bs.map T.ref) S
  | [], bs, S, l, L, h => ⟨hg S ⟨nofun, nofun, List.nodup_nil, L.base⟩, h bs S rfl L⟩
  | x :: xs, bs, S, l, L, h => by
    have hs := sizeLine_eq
    rw [List.length_cons] at l
    refine ⟨hg S ⟨nofun, nofun, List.nodup_nil, L.base⟩, ?_⟩
    show cLstM cNil ((wipeT τ [4]).set 4 (some x)) S (fun y S3 => (bs.map T.ref).length < sizeLine ∧ compT (gN 4) bYes (cLstM cNil) [4] gd τ K xs (bs.map T.ref ++ [y]) S3) (fun _ _ => False)
    refine ⟨Nat.zero_le _, fun p hp => ⟨by rw [List.length_map]; omega, ?_⟩⟩
    have ll : bs.length = (bs.map fun _ => ([] : List T)).length := by rw [List.length_map]
    have pn : p ∉ bs := fun m => by
      obtain ⟨j, hj⟩ := List.mem_iff_getElem?.mp m
      have := L.at_ _ (lolC_at (xss := bs.map fun _ => []) hj (by rw [List.getElem?_map, hj]; rfl))
      rw [hp] at this
      cases this
    have e : lolC (bs ++ [p]) ((bs ++ [p]).map fun _ => []) = lolC bs (bs.map fun _ => []) ++ [(p, .lst [])] := by
      unfold lolC
      rw [List.map_append, List.map_append, List.zip_append (by rw [List.length_map, List.length_map])]
      rfl
    have nb : (bs ++ [p]).Nodup := by
      rw [List.nodup_append]
      have := L.nd
      rw [lolC_fst ll] at this
      exact ⟨this, by simp, fun a ha c hc z => pn (by rw [List.mem_singleton.mp hc] at z; exact z ▸ ha)⟩
    have L2 : SI (fun _ : Unit => S0) (lolC (bs ++ [p]) ((bs ++ [p]).map fun _ => [])) () (ups S p (.lst [])) := by
      refine ⟨fun q hq => ?_, fun q hq => ?_, by rw [lolC_fst (by rw [List.length_map])]; exact nb, fun c d hc => ?_⟩
      · rw [e] at hq
        rcases List.mem_append.mp hq with hq | hq
        · have ne : q.1 ≠ p := fun z => by
            have := L.at_ q hq
            rw [z, hp] at this
            cases this
          rw [ups_ne ne]
          exact L.at_ q hq
        · rw [List.mem_singleton.mp hq]
          exact ups_same
      · rw [e] at hq
        rcases List.mem_append.mp hq with hq | hq
        · exact L.own q hq
        · rw [List.mem_singleton.mp hq]
          show S0 p = none
          cases z : S0 p with
          | none => rfl
          | some c =>
            have := L.base p c z
            rw [hp] at this
            cases this
      · have ne : c ≠ p := fun z => by
          have := L.base c d hc
          rw [z, hp] at this
          cases this
        rw [ups_ne ne]
        exact L.base c d hc
    have ih := u_comp (n := n) hg hτ (K := K) xs (bs ++ [p]) (ups S p (.lst [])) (by rw [List.length_append, List.length_singleton]; omega) L2 (fun bs' S' hl => h bs' S' (by rw [hl, List.length_append, List.length_singleton, List.length_cons]; omega))
    rw [List.map_append] at ih
    exact ih
def m_unions_by_rows (b : T) : PM Unit T :=
  bd (bd (pu b) fun x => lft (m_row_by_name x)) fun rows => bd (bd (bd (pu rows) fun x => bd (pu (.dct false [] [])) fun y => ofO (neD0 emp x y)) tb) fun c =>
  bd (if c = true then bd (bd (bd (bd (pu rows) fun x => ofO (maxDT emp x)) fun x => bd (pu (.int 1)) fun y => ofO (addT emp x y)) rng1) fun xs => bd (gd (xs.length ≤ 1000000)) fun _ => pu (xs.map fun _ => []) else pu []) fun (xss : List (List T)) =>
  bd (bd (bd (pu b) fun x => bd (pu (.int 1)) fun y => ofO (ixT emp x y)) itemsM) fun fs =>
  bd (TL.forM (mF rows) fs xss) fun xss => pu (.lst (xss.map T.lst))
theorem en_rest {x y : T} {τ : TEnv} (h : En [some x, some y, none, none, none] τ) : ∃ t2 t3 t4, τ = [some x, some y, t2, t3, t4] := by
  match τ, h with
  | [t0, t1, t2, t3, t4], ⟨h0, h1, _⟩ =>
    rcases h0 with h0 | h0
    · cases h0
    rcases h1 with h1 | h1
    · cases h1
    exact ⟨t2, t3, t4, by rw [← h0, ← h1]⟩
  | [], h => exact h.elim
  | [_], h => exact h.2.elim
  | [_, _], h => exact h.2.2.elim
  | [_, _, _], h => exact h.2.2.2.elim
  | [_, _, _, _], h => exact h.2.2.2.2.elim
  | _ :: _ :: _ :: _ :: _ :: _ :: _, h => exact h.2.2.2.2.2.elim
theorem u_fin {S0 S : Sto} {b rows : T} {bs : List Addr} {xss : List (List T)} {t3 t4 : Option T} {D : TD} {E : T → TEnv → Sto → Prop} (l : bs.length = xss.length) (L : SI (fun _ : Unit => S0) (lolC bs xss) () S)
    (s : Sat ((bd (bd (bd (pu b) fun x => bd (pu (.int 1)) fun y => ofO (ixT emp x y)) itemsM) fun fs => bd (TL.forM (mF rows) fs xss) fun xss => pu (.lst (xss.map T.lst))) ()) (fun v k' => DOk (fun _ : Unit => S0) D k' (.rt v)) (fun x k' => ∀ τ' S', SI (fun _ : Unit => S0) [] k' S' → E x τ' S')) :
    cSeq uF uEnd D [some b, some rows, some (.lst (bs.map T.ref)), t3, t4] S E := by
  have R : XIy (fun _ : Unit => S0) [some b, none, none, none, none] (lolC bs xss) (iSeq (cOp ixT (cVar 0) (cC (.int 1)))) (bd (bd (pu b) fun x => bd (pu (.int 1)) fun y => ofO (ixT emp x y)) itemsM) := xiy_seq (xe_op opv_ixT (XE.v (xe_var rfl)) (XE.v xe_c))
  have hE2 : En [some b, none, none, none, none] [some b, some rows, some (.lst (bs.map T.ref)), t3, t4] := ⟨.inr rfl, .inl rfl, .inl rfl, .inl rfl, .inl rfl, trivial⟩
  show iSeq (cOp ixT (cVar 0) (cC (.int 1))) _ S (fun fs gd S1 => forT (gN 3) ((cSeq (cDo (cApp (cOp ixT (cVar 2) (cOp dgT (cVar 1) (cOp ixT (cVar 3) (cC (.int 0))))) (cVar 3))) cSkip)) gd { D with nx := fun τ' S' => uEnd D τ' S' E } E fs [some b, some rows, some (.lst (bs.map T.ref)), t3, t4] S1) (fun x S' => E x [some b, some rows, some (.lst (bs.map T.ref)), t3, t4] S')
  refine R _ _ () [some b, some rows, some (.lst (bs.map T.ref)), t3, t4] S hE2 L ((Sat.bd.mp s).mono (fun fs k1 s1 S1 i1 => ?_) fun x k1 q S1 i1 => q _ S1 i1)
  have s1 := Sat.bd.mp s1
  exact u_for (fun _ _ => trivial) (fun xss' h S' t3' l' L' => u_end l' L' h) fs xss S1 t3 l i1 s1
theorem x_ubr_rest {S0 : Sto} {b rows : T} : XS (fun _ : Unit => S0) [some b, some rows, none, none, none] [] (cSeq (cSet 2 (cLst cNil))
    (cSeq (cIfS (bVal (cOp neD0 (cVar 1) cDnew)) (cSeq (cSet 2 (cComp (iRange1 (cOp addT (cUn maxDT (cVar 1)) (cC (.int 1)))) (gN 4) bYes (cLstM cNil) [4])) cSkip) cSkip)
    (cSeq uF uEnd)))
   (bd (bd (bd (pu rows) fun x => bd (pu (.dct false [] [])) fun y => ofO (neD0 emp x y)) tb) fun c =>
  bd (if c = true then bd (bd (bd (bd (pu rows) fun x => ofO (maxDT emp x)) fun x => bd (pu (.int 1)) fun y => ofO (addT emp x y)) rng1) fun xs => bd (gd (xs.length ≤ 1000000)) fun _ => pu (xs.map fun _ => []) else pu []) fun (xss : List (List T)) =>
  bd (bd (bd (pu b) fun x => bd (pu (.int 1)) fun y => ofO (ixT emp x y)) itemsM) fun fs =>
  bd (TL.forM (mF rows) fs xss) fun xss => pu (.lst (xss.map T.lst))) .rt := fun D E k τ S hE i s => by
  obtain ⟨t2, t3, t4, rfl⟩ := en_rest hE
  refine ⟨Nat.zero_le _, ?_⟩
  show cSeq (cIfS (bVal (cOp neD0 (cVar 1) cDnew)) (cSeq (cSet 2 (cComp (iRange1 (cOp addT (cUn maxDT (cVar 1)) (cC (.int 1)))) (gN 4) bYes (cLstM cNil) [4])) cSkip) cSkip) (cSeq uF uEnd) D [some b, some rows, some (.lst []), t3, t4] S E
  have hE2 : En [some b, some rows, none, none, none] [some b, some rows, some (.lst []), t3, t4] := ⟨.inr rfl, .inr rfl, .inl rfl, .inl rfl, .inl rfl, trivial⟩
  refine xb_val (xe_op opv_neD0 (XE.v (xe_var rfl)) (XE.v xe_dnew)) _ _ k _ S hE2 i ((Sat.bd.mp s).mono (fun c k1 s1 S1 i1 => ?_) fun x k1 q S1 i1 => q _ S1 i1)
  cases c with
  | false =>
    show cSeq uF uEnd D [some b, some rows, some (.lst []), t3, t4] S1 E
    exact u_fin (bs := []) (xss := []) rfl ⟨nofun, nofun, List.nodup_nil, i1.base⟩ s1
  | true =>
    have s1 := Sat.bd.mp s1
    rw [if_pos rfl] at s1
    have R : XIy (fun _ : Unit => S0) [some b, some rows, none, none, none] [] (iRange1 (cOp addT (cUn maxDT (cVar 1)) (cC (.int 1)))) (bd (bd (bd (pu rows) fun x => ofO (maxDT emp x)) fun x => bd (pu (.int 1)) fun y => ofO (addT emp x y)) rng1) := xiy_range1 (xe_op opv_addT (XE.v (xe_un unv_maxDT (XE.v (xe_var rfl)))) (XE.v xe_c))
    show iRange1 (cOp addT (cUn maxDT (cVar 1)) (cC (.int 1))) _ S1 (fun xs gd S2 => compT (gN 4) bYes (cLstM cNil) [4] gd [some b, some rows, some (.lst []), t3, t4] (fun zs S3 => cSeq uF uEnd D [some b, some rows, some (.lst zs), t3, t4] S3 E) xs [] S2) (fun x S' => E x [some b, some rows, some (.lst []), t3, t4] S')
    refine R _ _ k1 [some b, some rows, some (.lst []), t3, t4] S1 hE2 i1 ((Sat.bd.mp s1).mono (fun xs k2 s2 S2 i2 => ?_) fun x k2 q S2 i2 => q _ S2 i2)
    obtain ⟨hl, s3⟩ := sat_gd (Sat.bd.mp s2)
    refine u_comp (S0 := S0) (n := 0) (fun _ _ => trivial) rfl xs [] S2 (by rw [List.length_nil, Nat.zero_add]; exact hl) ⟨nofun, nofun, List.nodup_nil, i2.base⟩ fun bs' S3 hb L3 => ?_
    have e : (xs.map fun _ => ([] : List T)) = bs'.map fun _ => [] := by
      rw [List.map_const', List.map_const', hb, List.length_nil, Nat.zero_add]
    have s3 : Sat ((bd (bd (bd (pu b) fun x => bd (pu (T.int 1)) fun y => ofO (ixT emp x y)) itemsM) (fun fs => bd (TL.forM (mF rows) fs (xs.map fun _ => ([] : List T))) fun xss => pu (T.lst (xss.map T.lst))) : PM Unit T) k2) (fun v k' => DOk (fun _ : Unit => S0) D k' (.rt v)) (fun x k' => ∀ τ' S', SI (fun _ : Unit => S0) [] k' S' → E x τ' S') := s3
    rw [e] at s3
    exact u_fin (by rw [List.length_map]) L3 s3
theorem x_unions_by_rows : ∀ S0 b, XS (fun _ : Unit => S0) (TL.startT N_unions_by_rows [b]) [] c_unions_by_rows (m_unions_by_rows b) .rt := fun S0 b => xs_set (xe_call (xa_cons (xe_var rfl) xa_nil)) fun _ => x_ubr_rest
def sp_unions_by_rows : SpT := spU (u1 m_unions_by_rows)
theorem len_unions_by_rows : ∀ ts S Q E, sp_unions_by_rows ts S Q E → ts.length = 1 := spU_len ar1
theorem vc_unions_by_rows : VC N_unions_by_rows sp_unions_by_rows c_unions_by_rows := vc_u1 x_unions_by_rows
def N_are_just : List Str := ["things", "thing", "one"]
def c_are_just : TTS :=
  (cSeq (cIfS (bOr (bNot (bVal (cUn (isiT [.tup]) (cVar 1)))) (bVal (cOp neT (cFn lenF (cCons (cVar 1) cNil)) (cFn lenF (cCons (cVar 0) cNil))))) (cSeq (cRet (cC (.bl false)))
    cSkip) cSkip)
    (cSeq (cRet (cFn allF (cCons (cComp (iSeq (cVar 0)) (gN 2) bYes (cOp inT (cVar 2) (cVar 1)) [2]) cNil)))
    cSkip))
def m_are_just (p_things p_thing : T) : PM Unit T :=
  bd (bd (bd (bd (bd (pu p_thing) fun v5 => ofO (isiT [.tup] emp v5)) tb) fun v6 => pu !v6) fun v7 => if v7 = true then pu true else (bd (bd (bd (pu p_thing) fun v1 => ofO (lenF emp [v1])) fun v3 => bd (bd (pu p_things) fun v2 => ofO (lenF emp [v2])) fun v4 => ofO (neT emp v3 v4)) tb)) fun v8 => if v8 = true then bd (pu (.bl false)) fun v9 => pu v9 else bd (bd (bd (bd (pu p_things) itemsM) fun xs14 => bd (compG (fun x10 => bd (bd (pu x10) fun v11 => bd (pu p_thing) fun v12 => ofO (inT emp v11 v12)) fun v13 => pu (some v13)) xs14) fun ys15 => pu (.lst ys15)) fun v16 => ofO (allF emp [v16])) fun v17 => pu v17
theorem x_are_just (S : Sto) (p_things p_thing : T) : XS (fun _ : Unit => S) [some p_things, some p_thing, none] [] c_are_just (m_are_just p_things p_thing) .rt :=
  (xs_ifE (xb_or (xb_not (xb_val (xe_un unv_isiT (XE.v (xe_var rfl))))) (xb_val (xe_op opv_neT (XE.v (xe_fn fnv_lenF (xav_cons (XE.v (xe_var rfl)) xav_nil))) (XE.v (xe_fn fnv_lenF (xav_cons (XE.v (xe_var rfl)) xav_nil)))))) (xs_assoc (xs_ret (g := fun v => v) (fun _ => rfl) (XE.v xe_c))) (xs_skipseq (xs_ret (g := fun v => v) (fun _ => rfl) (XE.v (xe_fn fnv_allF (xav_cons (XE.v (xe_comp (XIy.i (xiy_seq (xe_var rfl))) (fun x10 => xc_nameY (xe_opr opv_inT (xe_var rfl) (XE.v (xe_var rfl)))))) xav_nil))))))
def sp_are_just : SpT := spU (u2 m_are_just)
theorem len_are_just : ∀ ts S Q E, sp_are_just ts S Q E → ts.length = 2 := spU_len ar2
theorem vc_are_just : VC N_are_just sp_are_just c_are_just := vc_u2 x_are_just
def N_looked_drawing : List Str := ["book", "thing", "rows", "name", "mark", "unions", "tracks"]
def c_looked_drawing : TTS :=
  (cSeq (cSet 2 (cCall sp_unions_by_rows (cCons (cVar 0) cNil)))
    (cSeq (cIfS (bOr (bNot (bVal (cUn (isiT [.tup]) (cVar 1)))) (bOr (bVal (cOp neT (cFn lenF (cCons (cVar 1) cNil)) (cC (.int 2)))) (bNot (bVal (cUn (isiT [.tup]) (cOp ixT (cVar 1) (cC (.int 1)))))))) (cSeq (cRaise "NoDrawing" [] cNil)
    cSkip) cSkip)
    (cSeq (cIfS (bOr (bNot (bVal (cCall sp_are_just (cCons (cComp (iSeq (cOp ixT (cVar 0) (cC (.int 0)))) (gT (gC (gN 3) (gC (gN 4) gZ))) bYes (cVar 3) [3, 4]) (cCons (cOp ixT (cVar 1) (cC (.int 0))) cNil))))) (bVal (cOp neT (cFn lenF (cCons (cOp ixT (cVar 1) (cC (.int 1))) cNil)) (cFn lenF (cCons (cVar 2) cNil))))) (cSeq (cRaise "NoDrawing" [] cNil)
    cSkip) cSkip)
    (cSeq (cIfS (bNot (bVal (cFn allF (cCons (cComp (iZip (cVar 2) (cOp ixT (cVar 1) (cC (.int 1)))) (gT (gC (gN 5) (gC (gN 6) gZ))) bYes (cCall sp_are_just (cCons (cVar 5) (cCons (cVar 6) cNil))) [5, 6]) cNil)))) (cSeq (cRaise "NoDrawing" [] cNil)
    cSkip) cSkip)
    (cSeq (cRet (cC (.bl true)))
    cSkip)))))
def m_looked_drawing (p_book p_thing : T) : PM Unit T :=
  bd (bd (pu p_book) fun v1 => lft (m_unions_by_rows v1)) fun v2 => bd (bd (bd (bd (bd (pu p_thing) fun v12 => ofO (isiT [.tup] emp v12)) tb) fun v13 => pu !v13) fun v14 => if v14 = true then pu true else (bd (bd (bd (bd (pu p_thing) fun v8 => ofO (lenF emp [v8])) fun v9 => bd (pu (.int 2)) fun v10 => ofO (neT emp v9 v10)) tb) fun v11 => if v11 = true then pu true else (bd (bd (bd (bd (pu p_thing) fun v4 => bd (pu (.int 1)) fun v5 => ofO (ixT emp v4 v5)) fun v6 => ofO (isiT [.tup] emp v6)) tb) fun v7 => pu !v7))) fun v15 => if v15 = true then thr (.exc "NoDrawing" [] []) else bd (bd (bd (bd (bd (bd (bd (bd (pu p_book) fun v22 => bd (pu (.int 0)) fun v23 => ofO (ixT emp v22 v23)) itemsM) fun xs27 => bd (compG (fun x24 => bd (ofO (un2 x24)) fun b25 => bd (pu b25.1) fun v26 => pu (some v26)) xs27) fun ys28 => pu (.lst ys28)) fun v31 => bd (bd (pu p_thing) fun v29 => bd (pu (.int 0)) fun v30 => ofO (ixT emp v29 v30)) fun v32 => lft (m_are_just v31 v32)) tb) fun v33 => pu !v33) fun v34 => if v34 = true then pu true else (bd (bd (bd (bd (pu p_thing) fun v16 => bd (pu (.int 1)) fun v17 => ofO (ixT emp v16 v17)) fun v18 => ofO (lenF emp [v18])) fun v20 => bd (bd (pu v2) fun v19 => ofO (lenF emp [v19])) fun v21 => ofO (neT emp v20 v21)) tb)) fun v35 => if v35 = true then thr (.exc "NoDrawing" [] []) else bd (bd (bd (bd (bd (bd (pu v2) fun v38 => bd (bd (pu p_thing) fun v36 => bd (pu (.int 1)) fun v37 => ofO (ixT emp v36 v37)) fun v39 => zipM v38 v39) fun xs45 => bd (compG (fun x40 => bd (ofO (un2 x40)) fun b41 => bd (bd (pu b41.1) fun v42 => bd (pu b41.2) fun v43 => lft (m_are_just v42 v43)) fun v44 => pu (some v44)) xs45) fun ys46 => pu (.lst ys46)) fun v47 => ofO (allF emp [v47])) tb) fun v48 => pu !v48) fun v49 => if v49 = true then thr (.exc "NoDrawing" [] []) else bd (pu (.bl true)) fun v50 => pu v50
theorem x_looked_drawing (S : Sto) (p_book p_thing : T) : XS (fun _ : Unit => S) [some p_book, some p_thing, none, none, none, none, none] [] c_looked_drawing (m_looked_drawing p_book p_thing) .rt :=
  (xs_set (xe_call (xa_cons (xe_var rfl) xa_nil)) fun v2 => (xs_ifE (xb_or (xb_not (xb_val (xe_un unv_isiT (XE.v (xe_var rfl))))) (xb_or (xb_val (xe_op opv_neT (XE.v (xe_fn fnv_lenF (xav_cons (XE.v (xe_var rfl)) xav_nil))) (XE.v xe_c))) (xb_not (xb_val (xe_un unv_isiT (XE.v (xe_op opv_ixT (XE.v (xe_var rfl)) (XE.v xe_c)))))))) (xs_assoc (xs_raise xa_nil)) (xs_skipseq (xs_ifE (xb_or (xb_not (xb_val (xe_call (xa_cons (xe_comp (XIy.i (xiy_seq (xe_op opv_ixT (XE.v (xe_var rfl)) (XE.v xe_c)))) (fun x24 => xc_unY xg_2 fun b25 => (xe_var rfl))) (xa_cons (xe_op opv_ixT (XE.v (xe_var rfl)) (XE.v xe_c)) xa_nil))))) (xb_val (xe_op opv_neT (XE.v (xe_fn fnv_lenF (xav_cons (XE.v (xe_op opv_ixT (XE.v (xe_var rfl)) (XE.v xe_c))) xav_nil))) (XE.v (xe_fn fnv_lenF (xav_cons (XE.v (xe_var rfl)) xav_nil)))))) (xs_assoc (xs_raise xa_nil)) (xs_skipseq (xs_ifE (xb_not (xb_val (xe_fn fnv_allF (xav_cons (XE.v (xe_comp (XIy.i (xiy_zip (xe_var rfl) (xe_op opv_ixT (XE.v (xe_var rfl)) (XE.v xe_c)))) (fun x40 => xc_unY xg_2 fun b41 => (xe_call (xa_cons (xe_var rfl) (xa_cons (xe_var rfl) xa_nil)))))) xav_nil)))) (xs_assoc (xs_raise xa_nil)) (xs_skipseq (xs_ret (g := fun v => v) (fun _ => rfl) (XE.v xe_c)))))))))
def sp_looked_drawing : SpT := spU (u2 m_looked_drawing)
theorem len_looked_drawing : ∀ ts S Q E, sp_looked_drawing ts S Q E → ts.length = 2 := spU_len ar2
theorem vc_looked_drawing : VC N_looked_drawing sp_looked_drawing c_looked_drawing := vc_u2 x_looked_drawing
def N_heights_of : List Str := ["tracks", "found", "row", "unions", "k", "family"]
def c_heights_of : TTS :=
  (cSeq (cSet 1 cDnewM)
    (cSeq (cFor (iEnum (cVar 0)) (gT (gC (gN 2) (gC (gN 3) gZ))) ((cSeq (cFor (iEnum (cVar 3)) (gT (gC (gN 4) (gC (gN 5) gZ))) ((cSeq (cTput (cVar 1) (cVar 5) (cTup (cCons (cVar 2) (cCons (cOp addT (cVar 4) (cC (.int 1))) cNil))))
    cSkip)))
    cSkip)))
    (cSeq (cRet (cVar 1))
    cSkip)))
def m_heights_of (p_tracks : T) : PM Unit T :=
  bd (pu (([], []) : List T × List T)) fun ys1 => bd (bd (bd (pu p_tracks) enumM) fun xs17 => forM (fun x4 (s3 : (List T × List T)) => bd (ofO (un2 x4)) fun b5 => bd (bd (bd (pu b5.2) enumM) fun xs16 => forM (fun x7 (s6 : (List T × List T)) => bd (ofO (un2 x7)) fun b8 => bd (bd (pu b5.1) fun v11 => bd (bd (pu b8.1) fun v9 => bd (pu (.int 1)) fun v10 => ofO (addT emp v9 v10)) fun v12 => pu (.tup [v11, v12])) fun v14 => bd (pu b8.2) fun v15 => bd (tputM s6 v15 v14) fun ys13 => pu ys13) xs16 s3) fun (s6 : (List T × List T)) => pu s6) xs17 ys1) fun (s3 : (List T × List T)) => bd (pu (.dct (dnk s3.1) s3.1 s3.2)) fun v18 => pu v18
theorem x_heights_of (S : Sto) (p_tracks : T) : XS (fun _ : Unit => S) [some p_tracks, none, none, none, none, none] [] c_heights_of (m_heights_of p_tracks) .rt :=
  (xs_new xn_dnewN fun ys1 a2 => (xs_seq (xs_for (σ := (List T × List T)) (P := fun s3 => [some p_tracks, some (.ref a2), none, none, none, none]) (C := fun s3 => [(a2, cN s3)]) (s0 := ys1) (xiy_enum (xe_var rfl)) ⟨.inr rfl, .inr rfl, .inl rfl, .inl rfl, .inl rfl, .inl rfl, trivial⟩ rfl (fun x4 s3 => xf_un xg_2 fun b5 => (xs_seq (xs_for (σ := (List T × List T)) (P := fun s6 => [some p_tracks, some (.ref a2), some b5.1, some b5.2, none, none]) (C := fun s6 => [(a2, cN s6)]) (s0 := s3) (xiy_enum (xe_var rfl)) ⟨.inr rfl, .inr rfl, .inr rfl, .inr rfl, .inl rfl, .inl rfl, trivial⟩ rfl (fun x7 s6 => xf_un xg_2 fun b8 => (xs_tput (r := s6) (l1 := []) (l2 := []) rfl (xe_tup (xa_cons (xe_var rfl) (xa_cons (xe_op opv_addT (XE.v (xe_var rfl)) (XE.v xe_c)) xa_nil))) (xe_var rfl) fun ys13 => (xs_skip rfl ⟨.inr rfl, .inr rfl, .inr rfl, .inr rfl, .inl rfl, .inl rfl, trivial⟩)))) fun s6 => (xs_skip rfl ⟨.inr rfl, .inr rfl, .inl rfl, .inl rfl, .inl rfl, .inl rfl, trivial⟩)))) fun s3 => (xs_ret (g := fun v => v) (fun _ => rfl) (xv_ncell (r := s3) rfl (.head _)))))
def sp_heights_of : SpT := spU (u1 m_heights_of)
theorem len_heights_of : ∀ ts S Q E, sp_heights_of ts S Q E → ts.length = 1 := spU_len ar1
theorem vc_heights_of : VC N_heights_of sp_heights_of c_heights_of := vc_u1 x_heights_of
def N_Kin_bar : List Str := ["self", "family", "places", "some", "name"]
def c_Kin_bar : TTS :=
  (cSeq (cSet 3 (cComp (iSeq (cOp tgT (cUn (fldT "folk" (okL fc_folk)) (cVar 0)) (cVar 1))) (gN 4) bYes (cOp dgT (cVar 2) (cVar 4)) [4]))
    (cSeq (cRet (cTup (cCons (cFn min1F (cCons (cVar 3) cNil)) (cCons (cFn max1F (cCons (cVar 3) cNil)) cNil))))
    cSkip))
def m_Kin_bar (p_self p_family p_places : T) : PM Unit T :=
  bd (bd (bd (bd (bd (pu p_self) fun v1 => ofO (fldT "folk" (okL fc_folk) emp v1)) fun v2 => bd (pu p_family) fun v3 => ofO (tgT emp v2 v3)) itemsM) fun xs8 => bd (compG (fun x4 => bd (bd (pu p_places) fun v5 => bd (pu x4) fun v6 => ofO (dgT emp v5 v6)) fun v7 => pu (some v7)) xs8) fun ys9 => pu (.lst ys9)) fun v10 => bd (bd (bd (pu v10) fun v12 => ofO (min1F emp [v12])) fun v14 => bd (bd (pu v10) fun v13 => ofO (max1F emp [v13])) fun v15 => pu (.tup [v14, v15])) fun v16 => pu v16
theorem x_Kin_bar (S : Sto) (p_self p_family p_places : T) : XS (fun _ : Unit => S) [some p_self, some p_family, some p_places, none, none] [] c_Kin_bar (m_Kin_bar p_self p_family p_places) .rt :=
  (xs_set (xe_comp (XIy.i (xiy_seq (xe_op opv_tgT (XE.v (xe_un unv_fldT (XE.v (xe_var rfl)))) (XE.v (xe_var rfl))))) (fun x4 => xc_nameY (xe_op opv_dgT (XE.v (xe_var rfl)) (XE.v (xe_var rfl))))) fun v10 => (xs_ret (g := fun v => v) (fun _ => rfl) (XE.v (xe_tup (xa_cons (xe_fn fnv_min1F (xav_cons (XE.v (xe_var rfl)) xav_nil)) (xa_cons (xe_fn fnv_max1F (xav_cons (XE.v (xe_var rfl)) xav_nil)) xa_nil))))))
def sp_Kin_bar : SpT := spU (u3 m_Kin_bar)
theorem len_Kin_bar : ∀ ts S Q E, sp_Kin_bar ts S Q E → ts.length = 3 := spU_len ar3
theorem vc_Kin_bar : VC N_Kin_bar sp_Kin_bar c_Kin_bar := vc_u3 x_Kin_bar
def N_Kin_span : List Str := ["self", "name", "heights", "own", "top", "family"]
def c_Kin_span : TTS :=
  (cSeq (cSet 3 (cTup (cCons (cOp dgT (cUn (fldT "rows" (okL fc_rows)) (cVar 0)) (cVar 1)) (cCons (cC (.int 0)) cNil))))
    (cSeq (cSet 4 (cFn min1H (cCons (cOp addT (cLst (cCons (cVar 3) cNil)) (cComp (iSeq (cOp dgT (cUn (fldT "child_in" (okL fc_child_in)) (cVar 0)) (cVar 1))) (gN 5) bYes (cOp tgT (cVar 2) (cVar 5)) [5])) cNil)))
    (cSeq (cRet (cTup (cCons (cVar 4) (cCons (cFn max1H (cCons (cOp addT (cLst (cCons (cVar 3) cNil)) (cComp (iSeq (cOp dgT (cUn (fldT "parent_in" (okL fc_parent_in)) (cVar 0)) (cVar 1))) (gN 5) bYes (cOp tgT (cVar 2) (cVar 5)) [5])) cNil)) cNil))))
    cSkip)))
def m_Kin_span (p_self p_name p_heights : T) : PM Unit T :=
  bd (bd (bd (bd (pu p_self) fun v1 => ofO (fldT "rows" (okL fc_rows) emp v1)) fun v2 => bd (pu p_name) fun v3 => ofO (dgT emp v2 v3)) fun v4 => bd (pu (.int 0)) fun v5 => pu (.tup [v4, v5])) fun v6 => bd (bd (bd (bd (pu v6) fun v8 => pu (.lst [v8])) fun v18 => bd (bd (bd (bd (bd (pu p_self) fun v9 => ofO (fldT "child_in" (okL fc_child_in) emp v9)) fun v10 => bd (pu p_name) fun v11 => ofO (dgT emp v10 v11)) itemsM) fun xs16 => bd (compG (fun x12 => bd (bd (pu p_heights) fun v13 => bd (pu x12) fun v14 => ofO (tgT emp v13 v14)) fun v15 => pu (some v15)) xs16) fun ys17 => pu (.lst ys17)) fun v19 => ofO (addT emp v18 v19)) fun v20 => ofO (min1H emp [v20])) fun v21 => bd (bd (pu v21) fun v36 => bd (bd (bd (bd (pu v6) fun v23 => pu (.lst [v23])) fun v33 => bd (bd (bd (bd (bd (pu p_self) fun v24 => ofO (fldT "parent_in" (okL fc_parent_in) emp v24)) fun v25 => bd (pu p_name) fun v26 => ofO (dgT emp v25 v26)) itemsM) fun xs31 => bd (compG (fun x27 => bd (bd (pu p_heights) fun v28 => bd (pu x27) fun v29 => ofO (tgT emp v28 v29)) fun v30 => pu (some v30)) xs31) fun ys32 => pu (.lst ys32)) fun v34 => ofO (addT emp v33 v34)) fun v35 => ofO (max1H emp [v35])) fun v37 => pu (.tup [v36, v37])) fun v38 => pu v38
theorem x_Kin_span (S : Sto) (p_self p_name p_heights : T) : XS (fun _ : Unit => S) [some p_self, some p_name, some p_heights, none, none, none] [] c_Kin_span (m_Kin_span p_self p_name p_heights) .rt :=
  (xs_set (xe_tup (xa_cons (xe_op opv_dgT (XE.v (xe_un unv_fldT (XE.v (xe_var rfl)))) (XE.v (xe_var rfl))) (xa_cons xe_c xa_nil))) fun v6 => (xs_set (xe_fn fnv_min1H (xav_cons (XE.v (xe_op opv_addT (XE.v (xe_lst (xa_cons (xe_var rfl) xa_nil))) (XE.v (xe_comp (XIy.i (xiy_seq (xe_op opv_dgT (XE.v (xe_un unv_fldT (XE.v (xe_var rfl)))) (XE.v (xe_var rfl))))) (fun x12 => xc_nameY (xe_op opv_tgT (XE.v (xe_var rfl)) (XE.v (xe_var rfl)))))))) xav_nil)) fun v21 => (xs_ret (g := fun v => v) (fun _ => rfl) (XE.v (xe_tup (xa_cons (xe_var rfl) (xa_cons (xe_fn fnv_max1H (xav_cons (XE.v (xe_op opv_addT (XE.v (xe_lst (xa_cons (xe_var rfl) xa_nil))) (XE.v (xe_comp (XIy.i (xiy_seq (xe_op opv_dgT (XE.v (xe_un unv_fldT (XE.v (xe_var rfl)))) (XE.v (xe_var rfl))))) (fun x27 => xc_nameY (xe_op opv_tgT (XE.v (xe_var rfl)) (XE.v (xe_var rfl)))))))) xav_nil)) xa_nil)))))))
def sp_Kin_span : SpT := spU (u3 m_Kin_span)
theorem len_Kin_span : ∀ ts S Q E, sp_Kin_span ts S Q E → ts.length = 3 := spU_len ar3
theorem vc_Kin_span : VC N_Kin_span sp_Kin_span c_Kin_span := vc_u3 x_Kin_span
def N_Kin_crossed : List Str := ["self", "columns", "tracks", "places", "heights", "lines", "many", "family", "left", "right", "height", "name", "column", "ends"]
def c_Kin_crossed : TTS :=
  (cSeq (cSet 3 (cFn dictF (cCons (cComp (iEnum (cVar 1)) (gT (gC (gN 12) (gC (gN 11) gZ))) bYes (cTup (cCons (cVar 11) (cCons (cVar 12) cNil))) [12, 11]) cNil)))
    (cSeq (cSet 4 (cCall sp_heights_of (cCons (cVar 2) cNil)))
    (cSeq (cSet 5 (cComp (iSeq (cVar 1)) (gN 11) bYes (cTup (cCons (cVar 11) (cCons (cOp dgT (cVar 3) (cVar 11)) (cCons (cMeth "Kin" "span" sp_Kin_span (cVar 0) (cCons (cVar 11) (cCons (cVar 4) cNil))) cNil)))) [11]))
    (cSeq (cSet 6 (cC (.int 0)))
    (cSeq (cFor (iWalk false (pFld "folk" (okL fc_folk) (pVar 0))) (gN 7) ((cSeq (cAsg (cMeth "Kin" "bar" sp_Kin_bar (cVar 0) (cCons (cVar 7) (cCons (cVar 3) cNil))) (gT (gC (gN 8) (gC (gN 9) gZ))))
    (cSeq (cSet 10 (cOp tgT (cVar 4) (cVar 7)))
    (cSeq (cFor (iSeq (cVar 5)) (gT (gC (gN 11) (gC (gN 12) (gC (gN 13) gZ)))) ((cSeq (cIfS (bAnd (bVal (cChain ltT ltT (cVar 8) (cVar 12) (cVar 9))) (bAnd (bVal (cChain leT leT (cOp ixT (cVar 13) (cC (.int 0))) (cVar 10) (cOp ixT (cVar 13) (cC (.int 1))))) (bVal (cOp ninT (cVar 11) (cOp tgT (cUn (fldT "folk" (okL fc_folk)) (cVar 0)) (cVar 7)))))) (cSeq (cSet 6 (cOp addT (cVar 6) (cC (.int 1))))
    cSkip) cSkip)
    cSkip)))
    cSkip)))))
    (cSeq (cRet (cVar 6))
    cSkip))))))
def m_Kin_crossed (p_self p_columns p_tracks : T) : PM Unit T :=
  bd (bd (bd (bd (pu p_columns) enumM) fun xs6 => bd (compG (fun x1 => bd (ofO (un2 x1)) fun b2 => bd (bd (pu b2.2) fun v3 => bd (pu b2.1) fun v4 => pu (.tup [v3, v4])) fun v5 => pu (some v5)) xs6) fun ys7 => pu (.lst ys7)) fun v8 => ofO (dictF emp [v8])) fun v9 => bd (bd (pu p_tracks) fun v11 => lft (m_heights_of v11)) fun v12 => bd (bd (bd (pu p_columns) itemsM) fun xs24 => bd (compG (fun x14 => bd (bd (pu x14) fun v20 => bd (bd (pu v9) fun v15 => bd (pu x14) fun v16 => ofO (dgT emp v15 v16)) fun v21 => bd (bd (pu p_self) fun v17 => bd (gd (isOb "Kin" "span" v17 = true)) fun _ => (bd (pu x14) fun v18 => bd (pu v12) fun v19 => lft (m_Kin_span v17 v18 v19))) fun v22 => pu (.tup [v20, v21, v22])) fun v23 => pu (some v23)) xs24) fun ys25 => pu (.lst ys25)) fun v26 => bd (pu (.int 0)) fun v28 => bd (bd (bd (ofO ((some p_self).bind (fldT "folk" (okL fc_folk) emp))) (walkM false)) fun xs71 => forM (fun x31 (s30 : T) => bd (bd (pu p_self) fun v32 => bd (gd (isOb "Kin" "bar" v32 = true)) fun _ => (bd (pu x31) fun v33 => bd (pu v9) fun v34 => lft (m_Kin_bar v32 v33 v34))) fun v35 => bd (ofO (un2 v35)) fun b36 => bd (bd (pu v12) fun v37 => bd (pu x31) fun v38 => ofO (tgT emp v37 v38)) fun v39 => bd (bd (bd (pu v26) itemsM) fun xs70 => forM (fun x42 (s41 : T) => bd (ofO (un3 x42)) fun b43 => bd (bd (bd (bd (pu b36.1) fun v59 => bd (pu b43.2.1) fun v60 => bd (ofO (ltT emp v59 v60)) fun v61 => bd (tb v61) fun v62 => if v62 = true then bd (pu b36.2) fun v63 => ofO (ltT emp v60 v63) else pu (.bl false)) tb) fun v64 => if v64 = true then (bd (bd (bd (bd (pu b43.2.2) fun v49 => bd (pu (.int 0)) fun v50 => ofO (ixT emp v49 v50)) fun v53 => bd (pu v39) fun v54 => bd (ofO (leT emp v53 v54)) fun v55 => bd (tb v55) fun v56 => if v56 = true then bd (bd (pu b43.2.2) fun v51 => bd (pu (.int 1)) fun v52 => ofO (ixT emp v51 v52)) fun v57 => ofO (leT emp v54 v57) else pu (.bl false)) tb) fun v58 => if v58 = true then (bd (bd (pu b43.1) fun v47 => bd (bd (bd (pu p_self) fun v44 => ofO (fldT "folk" (okL fc_folk) emp v44)) fun v45 => bd (pu x31) fun v46 => ofO (tgT emp v45 v46)) fun v48 => ofO (ninT emp v47 v48)) tb) else pu false) else pu false) fun v65 => if v65 = true then bd (bd (pu s41) fun v66 => bd (pu (.int 1)) fun v67 => ofO (addT emp v66 v67)) fun v68 => pu v68 else pu s41) xs70 s30) fun (s41 : T) => pu s41) xs71 v28) fun (s30 : T) => bd (pu s30) fun v72 => pu v72
theorem x_Kin_crossed (S : Sto) (p_self p_columns p_tracks : T) : XS (fun _ : Unit => S) [some p_self, some p_columns, some p_tracks, none, none, none, none, none, none, none, none, none, none, none] [] c_Kin_crossed (m_Kin_crossed p_self p_columns p_tracks) .rt :=
  (xs_set (xe_fn fnv_dictF (xav_cons (XE.v (xe_comp (XIy.i (xiy_enum (xe_var rfl))) (fun x1 => xc_unY xg_2 fun b2 => (xe_tup (xa_cons (xe_var rfl) (xa_cons (xe_var rfl) xa_nil)))))) xav_nil)) fun v9 => (xs_set (xe_call (xa_cons (xe_var rfl) xa_nil)) fun v12 => (xs_set (xe_comp (XIy.i (xiy_seq (xe_var rfl))) (fun x14 => xc_nameY (xe_tup (xa_cons (xe_var rfl) (xa_cons (xe_op opv_dgT (XE.v (xe_var rfl)) (XE.v (xe_var rfl))) (xa_cons (xe_methO (xe_var rfl) (xa_cons (xe_var rfl) (xa_cons (xe_var rfl) xa_nil))) xa_nil)))))) fun v26 => (xs_set xe_c fun v28 => (xs_seq (xs_for (σ := T) (P := fun s30 => [some p_self, some p_columns, some p_tracks, some v9, some v12, some v26, some s30, none, none, none, none, none, none, none]) (C := fun s30 => []) (s0 := v28) (xiy_walk (xpt_fld (xpt_var rfl))) ⟨.inr rfl, .inr rfl, .inr rfl, .inr rfl, .inr rfl, .inr rfl, .inr rfl, .inl rfl, .inl rfl, .inl rfl, .inl rfl, .inl rfl, .inl rfl, .inl rfl, trivial⟩ rfl (fun x31 s30 => xf_name (xs_asg (xe_methO (xe_var rfl) (xa_cons (xe_var rfl) (xa_cons (xe_var rfl) xa_nil))) xg_2 fun b36 => (xs_set (xe_op opv_tgT (XE.v (xe_var rfl)) (XE.v (xe_var rfl))) fun v39 => (xs_seq (xs_for (σ := T) (P := fun s41 => [some p_self, some p_columns, some p_tracks, some v9, some v12, some v26, some s41, some x31, some b36.1, some b36.2, some v39, none, none, none]) (C := fun s41 => []) (s0 := s30) (xiy_seq (xe_var rfl)) ⟨.inr rfl, .inr rfl, .inr rfl, .inr rfl, .inr rfl, .inr rfl, .inr rfl, .inr rfl, .inr rfl, .inr rfl, .inr rfl, .inl rfl, .inl rfl, .inl rfl, trivial⟩ rfl (fun x42 s41 => xf_un xg_3 fun b43 => (xs_ifE (xb_and (xb_val (xe_chain opx_ltT opx_ltT (xe_var rfl) (xe_var rfl) (xe_var rfl))) (xb_and (xb_val (xe_chain opx_leT opx_leT (xe_op opv_ixT (XE.v (xe_var rfl)) (XE.v xe_c)) (xe_var rfl) (xe_op opv_ixT (XE.v (xe_var rfl)) (XE.v xe_c)))) (xb_val (xe_opr opv_ninT (xe_var rfl) (XE.v (xe_op opv_tgT (XE.v (xe_un unv_fldT (XE.v (xe_var rfl)))) (XE.v (xe_var rfl)))))))) (xs_assoc (xs_set (xe_op opv_addT (XE.v (xe_var rfl)) (XE.v xe_c)) fun v68 => (xs_skipseq (xs_skip rfl ⟨.inr rfl, .inr rfl, .inr rfl, .inr rfl, .inr rfl, .inr rfl, .inr rfl, .inr rfl, .inr rfl, .inr rfl, .inr rfl, .inl rfl, .inl rfl, .inl rfl, trivial⟩)))) (xs_skipseq (xs_skip rfl ⟨.inr rfl, .inr rfl, .inr rfl, .inr rfl, .inr rfl, .inr rfl, .inr rfl, .inr rfl, .inr rfl, .inr rfl, .inr rfl, .inl rfl, .inl rfl, .inl rfl, trivial⟩))))) fun s41 => (xs_skip rfl ⟨.inr rfl, .inr rfl, .inr rfl, .inr rfl, .inr rfl, .inr rfl, .inr rfl, .inl rfl, .inl rfl, .inl rfl, .inl rfl, .inl rfl, .inl rfl, .inl rfl, trivial⟩)))))) fun s30 => (xs_ret (g := fun v => v) (fun _ => rfl) (XE.v (xe_var rfl))))))))
def sp_Kin_crossed : SpT := spU (u3 m_Kin_crossed)
theorem len_Kin_crossed : ∀ ts S Q E, sp_Kin_crossed ts S Q E → ts.length = 3 := spU_len ar3
theorem vc_Kin_crossed : VC N_Kin_crossed sp_Kin_crossed c_Kin_crossed := vc_u3 x_Kin_crossed
def N_Kin___init__ : List Str := ["self", "book", "family", "child", "name"]
def c_Kin___init__ : TTS :=
  (cSeq (cFput "book" (okL fc_book) (cVar 0) (cVar 1))
    (cSeq (cFput "rows" (okL fc_rows) (cVar 0) (cCall sp_row_by_name (cCons (cVar 1) cNil)))
    (cSeq (cFput "folk" (okL fc_folk) (cVar 0) cDnewM)
    (cSeq (cFor (iSeq (cOp ixT (cVar 1) (cC (.int 1)))) (gN 2) ((cSeq (cTput (cUn (fldT "folk" (okL fc_folk)) (cVar 0)) (cVar 2) (cListM (cVar 2)))
    cSkip)))
    (cSeq (cFput "child_in" (okL fc_child_in) (cVar 0) (cDictM (cComp (iWalk false (pFld "rows" (okL fc_rows) (pVar 0))) (gN 4) bYes (cTup (cCons (cVar 4) (cCons (cLstM cNil) cNil))) [4])))
    (cSeq (cFput "parent_in" (okL fc_parent_in) (cVar 0) (cDictM (cComp (iWalk false (pFld "rows" (okL fc_rows) (pVar 0))) (gN 4) bYes (cTup (cCons (cVar 4) (cCons (cLstM cNil) cNil))) [4])))
    (cSeq (cFor (iSeq (cOp addT (cOp ixT (cVar 1) (cC (.int 2))) (cOp ixT (cVar 1) (cC (.int 3))))) (gT (gC (gN 3) (gC (gN 2) gZ))) ((cSeq (cDo (cApp (cOp tgT (cUn (fldT "folk" (okL fc_folk)) (cVar 0)) (cVar 2)) (cVar 3)))
    (cSeq (cDo (cApp (cOp dgT (cUn (fldT "child_in" (okL fc_child_in)) (cVar 0)) (cVar 3)) (cVar 2)))
    cSkip))))
    (cSeq (cFor (iSeq (cOp ixT (cVar 1) (cC (.int 1)))) (gN 2) ((cSeq (cFor (iSeq (cVar 2)) (gN 4) ((cSeq (cDo (cApp (cOp dgT (cUn (fldT "parent_in" (okL fc_parent_in)) (cVar 0)) (cVar 4)) (cVar 2)))
    cSkip)))
    cSkip)))
    cSkip))))))))
def m_Kin___init__ (p_book : T) : PM Unit T := kinM m_row_by_name p_book
def sp_Kin___init__ : SpT := spFz "Kin" (u1 m_Kin___init__)
theorem len_Kin___init__ : ∀ ts S Q E, sp_Kin___init__ ts S Q E → ts.length = 2 := spFz_len ar1
theorem vc_Kin___init__ : VC N_Kin___init__ sp_Kin___init__ c_Kin___init__ := vc_kin rfl rfl rfl rfl rfl
def N_crossings : List Str := ["book", "drawing"]
def c_crossings : TTS :=
  (cSeq (cRet (cMeth "Kin" "crossed" sp_Kin_crossed (cMake "Kin" sp_Kin___init__ (cCons (cVar 0) cNil)) (cCons (cOp ixT (cVar 1) (cC (.int 0))) (cCons (cOp ixT (cVar 1) (cC (.int 1))) cNil))))
    cSkip)
def m_crossings (p_book p_drawing : T) : PM Unit T :=
  bd (bd (bd (pu p_book) fun v1 => lft (m_Kin___init__ v1)) fun v2 => bd (gd (isOb "Kin" "crossed" v2 = true)) fun _ => (bd (bd (pu p_drawing) fun v3 => bd (pu (.int 0)) fun v4 => ofO (ixT emp v3 v4)) fun v7 => bd (bd (pu p_drawing) fun v5 => bd (pu (.int 1)) fun v6 => ofO (ixT emp v5 v6)) fun v8 => lft (m_Kin_crossed v2 v7 v8))) fun v9 => pu v9
theorem x_crossings (S : Sto) (p_book p_drawing : T) : XS (fun _ : Unit => S) [some p_book, some p_drawing] [] c_crossings (m_crossings p_book p_drawing) .rt :=
  (xs_ret (g := fun v => v) (fun _ => rfl) (XE.v (xe_methO (xe_makeF (xa_cons (xe_var rfl) xa_nil)) (xa_cons (xe_op opv_ixT (XE.v (xe_var rfl)) (XE.v xe_c)) (xa_cons (xe_op opv_ixT (XE.v (xe_var rfl)) (XE.v xe_c)) xa_nil)))))
def sp_crossings : SpT := spU (u2 m_crossings)
theorem len_crossings : ∀ ts S Q E, sp_crossings ts S Q E → ts.length = 2 := spU_len ar2
theorem vc_crossings : VC N_crossings sp_crossings c_crossings := vc_u2 x_crossings
def N_law_pen_of : List Str := ["_law_script", "_law_cell"]
def c_law_pen_of : TTS :=
  (cSeq (cRet (cLstM (cCons (cComp (iSeq (cSl (cVar 0) oNo (oSome (cC (.int 63))))) (gN 1) bYes (cVar 1) [1]) (cCons (cC (.int 0)) (cCons (cC (.int 0)) cNil)))))
    cSkip)
abbrev sp_law_pen_of : SpT := sp_pen_of
theorem len_law_pen_of : ∀ ts S Q E, sp_law_pen_of ts S Q E → ts.length = 1 := fun ts S Q E h => by obtain ⟨_, rfl, _⟩ := h; rfl
theorem vc_law_pen_of : VC N_law_pen_of sp_law_pen_of c_law_pen_of := by
  rintro ts S Q E ⟨a, rfl, ns, rfl, hq⟩
  simp only [c_law_pen_of, N_law_pen_of, cSeq, cSkip, cRet, cRetN, cSet, cAsg, cDo, cIfS, cPar2, cPar3, cBrk, cCont, cVar, cC, cOp, cUn, cIf, cNil, cCons, cTup, cLst, cLstM, bVal, bAnd, bOr, bNot, bYes, cAnd, cOr, cNot, cCall, cFn, cM, cSl, oNo, oSome, cChain, gN, gT, gL, gZ, gC, gIx, cApp, cExt, cPop, cClr, TL.startT, List.map_cons, List.map_nil, List.cons_append, List.nil_append, List.length_cons, List.length_nil, List.replicate_succ, List.replicate_zero, List.set_cons_zero, List.set_cons_succ, List.getElem?_cons_zero, List.getElem?_cons_succ, Option.some.injEq, Option.map_some, exists_eq_left', exists_eq_left, T.bl.injEq, T.int.injEq, T.str.injEq, T.tup.injEq, T.lst.injEq, T.ref.injEq, List.cons.injEq, and_true, true_and, res, wipeT, sp1_at, sp2_at, sp3_at, sp4_at, sp5_at, Nat.reduceAdd, Nat.reduceSub, if_true, if_false, Bool.false_eq_true, Bool.true_eq_false, cComp, iSeq, slT_scr, items]
  have hl : (cutT ns none (some 63)).length ≤ 63 := by
    have h1 := cut_le ns none 63 (by omega)
    omega
  have hs := sizeLine_eq
  refine compT_map id trivial (by rw [List.length_map]; omega) ?_ ?_
  · rw [List.map_id]
    refine ⟨by omega, fun p hp => Fin.of (hq p _ hp ⟨_, 0, 0, rfl, by omega, by omega, by omega, hl⟩)⟩
  · intro x hx R N h
    simpa only [cSeq, cSkip, cRet, cRetN, cSet, cAsg, cDo, cIfS, cPar2, cPar3, cBrk, cCont, cVar, cC, cOp, cUn, cIf, cNil, cCons, cTup, cLst, cLstM, bVal, bAnd, bOr, bNot, bYes, cAnd, cOr, cNot, cCall, cFn, cM, cSl, oNo, oSome, cChain, gN, gT, gL, gZ, gC, gIx, cApp, cExt, cPop, cClr, TL.startT, List.map_cons, List.map_nil, List.cons_append, List.nil_append, List.length_cons, List.length_nil, List.replicate_succ, List.replicate_zero, List.set_cons_zero, List.set_cons_succ, List.getElem?_cons_zero, List.getElem?_cons_succ, Option.some.injEq, Option.map_some, exists_eq_left', exists_eq_left, T.bl.injEq, T.int.injEq, T.str.injEq, T.tup.injEq, T.lst.injEq, T.ref.injEq, List.cons.injEq, and_true, true_and, res, wipeT, sp1_at, sp2_at, sp3_at, sp4_at, sp5_at, Nat.reduceAdd, Nat.reduceSub, if_true, if_false, Bool.false_eq_true, Bool.true_eq_false, wipeT, id] using h
def N_law_draw : List Str := ["_law_pen", "_law_many", "_law_digit", "_law_at", "_law_cell", "_law_number"]
def c_law_draw : TTS :=
  (cSeq (cIfS (bVal (cOp gtT (cOp ixT (cVar 0) (cC (.int 2))) (cC (.int 0)))) (cSeq (cSet 2 (cOp modT (cOp ixT (cVar 0) (cC (.int 2))) (cVar 1)))
    (cSeq (cAsg (cOp fdivT (cOp ixT (cVar 0) (cC (.int 2))) (cVar 1)) (gIx (cVar 0) (cC (.int 2))))
    (cSeq (cRet (cVar 2))
    cSkip))) cSkip)
    (cSeq (cSet 3 (cOp ixT (cVar 0) (cC (.int 1))))
    (cSeq (cAsg (cOp addT (cVar 3) (cC (.int 1))) (gIx (cVar 0) (cC (.int 1))))
    (cSeq (cSet 4 (cC (.int 11)))
    (cSeq (cIfS (bVal (cOp gtT (cFn lenF (cCons (cOp ixT (cVar 0) (cC (.int 0))) cNil)) (cC (.int 0)))) (cSeq (cSet 4 (cOp ixT (cOp ixT (cVar 0) (cC (.int 0))) (cOp modT (cVar 3) (cFn lenF (cCons (cOp ixT (cVar 0) (cC (.int 0))) cNil)))))
    cSkip) cSkip)
    (cSeq (cIfS (bAnd (bVal (cOp ltT (cVar 3) (cFn lenF (cCons (cOp ixT (cVar 0) (cC (.int 0))) cNil)))) (bVal (cOp geT (cFn absF (cCons (cVar 4) cNil)) (cOp powT (cC (.int 10)) (cC (.int 18)))))) (cSeq (cAsg (cOp fdivT (cFn absF (cCons (cVar 4) cNil)) (cVar 1)) (gIx (cVar 0) (cC (.int 2))))
    (cSeq (cRet (cOp modT (cFn absF (cCons (cVar 4) cNil)) (cVar 1)))
    cSkip)) cSkip)
    (cSeq (cSet 5 (cOp modT (cOp mulT2 (cOp addT (cOp addT (cOp modT (cVar 4) (cC (.int 2147483647))) (cOp mulT2 (cC (.int 69621)) (cVar 3))) (cC (.int 13))) (cC (.int 48271))) (cC (.int 2147483629))))
    (cSeq (cSet 5 (cOp modT (cOp mulT2 (cOp modT (cOp mulT2 (cVar 5) (cVar 5)) (cC (.int 2147483587))) (cOp addT (cOp addT (cOp modT (cVar 5) (cC (.int 65521))) (cOp mulT2 (cC (.int 7)) (cVar 3))) (cC (.int 1)))) (cC (.int 2147483563))))
    (cSeq (cRet (cOp modT (cOp fdivT (cVar 5) (cC (.int 32))) (cVar 1)))
    cSkip)))))))))
abbrev m_law_draw (t : T) : PM Cell T := m_draw t
def sp_law_draw : SpT := spP (u1 m_draw)
theorem len_law_draw : ∀ ts S Q E, sp_law_draw ts S Q E → ts.length = 2 := spP_len ar1
theorem vc_law_draw : VC N_law_draw sp_law_draw c_law_draw := by
  rintro ts S Q E ⟨p, rs, c, rfl, h4, h⟩
  have hr : ∃ t, rs = [t] := by
    have := ar1 (f := m_draw) rs c (sat_nb h)
    match rs, this with
    | [t], _ => exact ⟨t, rfl⟩
  obtain ⟨t, rfl⟩ := hr
  obtain ⟨ns, at_, rest, many, rfl, rfl, ⟨h1, h2, a1, a2, a3, a4⟩, hq⟩ := sat_draw h
  clear h
  unfold penCell at h4
  simp only [c_law_draw, N_law_draw, cSeq, cSkip, cRet, cRetN, cSet, cAsg, cDo, cIfS, cPar2, cPar3, cBrk, cCont, cVar, cC, cOp, cUn, cIf, cNil, cCons, cTup, cLst, cLstM, bVal, bAnd, bOr, bNot, bYes, cAnd, cOr, cNot, cCall, cFn, cM, cSl, oNo, oSome, cChain, gN, gT, gL, gZ, gC, gIx, cApp, cExt, cPop, cClr, TL.startT, List.map_cons, List.map_nil, List.cons_append, List.nil_append, List.length_cons, List.length_nil, List.replicate_succ, List.replicate_zero, List.set_cons_zero, List.set_cons_succ, List.getElem?_cons_zero, List.getElem?_cons_succ, Option.some.injEq, Option.map_some, exists_eq_left', exists_eq_left, T.bl.injEq, T.int.injEq, T.str.injEq, T.tup.injEq, T.lst.injEq, T.ref.injEq, List.cons.injEq, and_true, true_and, res, wipeT, sp1_at, sp2_at, sp3_at, sp4_at, sp5_at, Nat.reduceAdd, Nat.reduceSub, if_true, if_false, Bool.false_eq_true, Bool.true_eq_false, ex_ite, addT_int, addT_str, addT_lst, addT_tup, subT_int, mulT2_int, mulT2_str, fdivT_int, modT_int, powT_int, negT_int, eqT_int, neT_int, eqT_str, neT_str, eqT_bl, neT_bl, ltT_int, gtT_int, leT_int, geT_int, ixT_lst, ixT_tup, ixT_str, atI_0, atI_1, atI_2, atI_3, ixT_ups, lenF_ups, ixN_30, ixN_31, ixN_32, lenF_lst, lenF_tup, lenF_str, absF_int, intF_int, intF_bl, max2F_int, min2F_int, strF_int, isi_str, isi_int, isi_tup, isi_lst, slT_lst, slT_tup, slT_str, slT_scr, ssetT_lst, ssetT_tup, slenT_lst, slenT_tup, sortedF_lst, sortedF_tup, tupleF_lst, tupleF_tup, listF_lst, listF_tup, inT_strs, ninT_strs, ups_ups, ups_same, decide_eq_true_eq, Cell.lst.injEq, Option.map_eq_some_iff, exists_and_left, exists_const, Bool.not_eq_true', ixT_ref h4, h4]
  have a2 : at_ ≤ 1000000000000000000000000000000 := a2
  unfold drawStep at hq
  by_cases r : 0 < rest
  · rw [if_pos r] at hq ⊢
    exact ⟨modI_b h1, divI_b h1 (by omega), Fin.of hq⟩
  rw [if_neg r] at hq ⊢
  have m1 : mulI 69621 at_ = true := mulI_b (by omega) (by omega)
  have m2 : mulI 7 at_ = true := mulI_b (by omega) (by omega)
  have m3 : ∀ z : Int, mulI (z.fmod 2147483647 + 69621 * at_ + 13) 48271 = true := fun z => by
    have := fmod_lo (i := z) (j := 2147483647) (by omega)
    have := fmod_hi (i := z) (j := 2147483647) (by omega)
    exact mulI_b (by omega) (by omega)
  have m4 : ∀ z : Int, mulI (z.fmod 2147483629) (z.fmod 2147483629) = true := fun z => by
    have := fmod_lo (i := z) (j := 2147483629) (by omega)
    have := fmod_hi (i := z) (j := 2147483629) (by omega)
    exact mulI_b (by omega) (by omega)
  have m5 : ∀ z y : Int, mulI (z.fmod 2147483587) (y.fmod 65521 + 7 * at_ + 1) = true := fun z y => by
    have := fmod_lo (i := z) (j := 2147483587) (by omega)
    have := fmod_hi (i := z) (j := 2147483587) (by omega)
    have := fmod_lo (i := y) (j := 65521) (by omega)
    have := fmod_hi (i := y) (j := 65521) (by omega)
    exact mulI_b (by omega) (by omega)
  have hp : powI 10 18 = true := by decide
  have e1 : ∀ z : Int, modI z 2147483647 = true := fun z => modI_b (by omega)
  have e2 : ∀ z : Int, modI z 2147483629 = true := fun z => modI_b (by omega)
  have e3 : ∀ z : Int, modI z 2147483587 = true := fun z => modI_b (by omega)
  have e4 : ∀ z : Int, modI z 65521 = true := fun z => modI_b (by omega)
  have e5 : ∀ z : Int, modI z 2147483563 = true := fun z => modI_b (by omega)
  have e6 : ∀ z : Int, modI z many = true := fun z => modI_b h1
  have e7 : ∀ z : Int, divI z many = true := fun z => divI_b h1 (by omega)
  have e8 : ∀ z : Int, divI z 32 = true := fun z => divI_b (by omega) (by omega)
  have ft : (false = true) = False := by simp
  have t18 : (10 : Int) ^ Int.toNat 18 = 10 ^ 18 := rfl
  by_cases l : 0 < ((ns.map T.int).length : Int)
  · rw [if_pos l]
    refine ⟨modI_b l, ?_⟩
    have ll : 0 < ns.length := by rw [List.length_map] at l; omega
    have ez : L2.atI (ns.map T.int) (at_.fmod ((ns.map T.int).length : Int)) = some (.int (cellAt ns at_)) := by
      have lo := fmod_lo (i := at_) l
      have hi := fmod_hi (i := at_) l
      rw [List.length_map] at lo hi ⊢
      unfold cellAt
      rw [if_pos ll, atI_map]
      obtain ⟨k, hk⟩ := Int.eq_ofNat_of_zero_le lo
      rw [hk, atI_natE, Int.toNat_natCast, List.getD_eq_getElem?_getD]
      have : k < ns.length := by omega
      rw [List.getElem?_eq_getElem this]
      rfl
    refine ⟨_, ez, ?_⟩
    simp only [cSeq, cSkip, cRet, cRetN, cSet, cAsg, cDo, cIfS, cPar2, cPar3, cBrk, cCont, cVar, cC, cOp, cUn, cIf, cNil, cCons, cTup, cLst, cLstM, bVal, bAnd, bOr, bNot, bYes, cAnd, cOr, cNot, cCall, cFn, cM, cSl, oNo, oSome, cChain, gN, gT, gL, gZ, gC, gIx, cApp, cExt, cPop, cClr, TL.startT, List.map_cons, List.map_nil, List.cons_append, List.nil_append, List.length_cons, List.length_nil, List.replicate_succ, List.replicate_zero, List.set_cons_zero, List.set_cons_succ, List.getElem?_cons_zero, List.getElem?_cons_succ, Option.some.injEq, Option.map_some, exists_eq_left', exists_eq_left, T.bl.injEq, T.int.injEq, T.str.injEq, T.tup.injEq, T.lst.injEq, T.ref.injEq, List.cons.injEq, and_true, true_and, res, wipeT, sp1_at, sp2_at, sp3_at, sp4_at, sp5_at, Nat.reduceAdd, Nat.reduceSub, if_true, if_false, Bool.false_eq_true, Bool.true_eq_false, ex_ite, addT_int, addT_str, addT_lst, addT_tup, subT_int, mulT2_int, mulT2_str, fdivT_int, modT_int, powT_int, negT_int, eqT_int, neT_int, eqT_str, neT_str, eqT_bl, neT_bl, ltT_int, gtT_int, leT_int, geT_int, ixT_lst, ixT_tup, ixT_str, atI_0, atI_1, atI_2, atI_3, ixT_ups, lenF_ups, ixN_30, ixN_31, ixN_32, lenF_lst, lenF_tup, lenF_str, absF_int, intF_int, intF_bl, max2F_int, min2F_int, strF_int, isi_str, isi_int, isi_tup, isi_lst, slT_lst, slT_tup, slT_str, slT_scr, ssetT_lst, ssetT_tup, slenT_lst, slenT_tup, sortedF_lst, sortedF_tup, tupleF_lst, tupleF_tup, listF_lst, listF_tup, inT_strs, ninT_strs, ups_ups, ups_same, decide_eq_true_eq, Cell.lst.injEq, Option.map_eq_some_iff, exists_and_left, exists_const, Bool.not_eq_true', m1, m2, m3, m4, m5, hp, e1, e2, e3, e4, e5, e6, e7, e8, ft, if_false, t18, List.length_map]
    by_cases b1 : at_ < (ns.length : Int)
    · rw [if_pos b1] at hq ⊢
      by_cases b2 : 10 ^ 18 ≤ absI (cellAt ns at_)
      · rw [if_pos b2] at hq
        have b3 : 10 ^ 18 ≤ (if cellAt ns at_ < 0 then -(cellAt ns at_) else cellAt ns at_) := b2
        rw [if_pos b3]
        exact Fin.of hq
      · rw [if_neg b2] at hq
        have b3 : ¬ 10 ^ 18 ≤ (if cellAt ns at_ < 0 then -(cellAt ns at_) else cellAt ns at_) := b2
        rw [if_neg b3]
        exact Fin.of hq
    · rw [if_neg b1] at hq ⊢
      exact Fin.of hq
  · rw [if_neg l]
    have ll : ¬ 0 < ns.length := by rw [List.length_map] at l; omega
    have b1 : ¬ at_ < (ns.length : Int) := by omega
    have ez : cellAt ns at_ = 11 := by unfold cellAt; rw [if_neg ll]
    rw [if_neg b1, ez] at hq
    simp only [cSeq, cSkip, cRet, cRetN, cSet, cAsg, cDo, cIfS, cPar2, cPar3, cBrk, cCont, cVar, cC, cOp, cUn, cIf, cNil, cCons, cTup, cLst, cLstM, bVal, bAnd, bOr, bNot, bYes, cAnd, cOr, cNot, cCall, cFn, cM, cSl, oNo, oSome, cChain, gN, gT, gL, gZ, gC, gIx, cApp, cExt, cPop, cClr, TL.startT, List.map_cons, List.map_nil, List.cons_append, List.nil_append, List.length_cons, List.length_nil, List.replicate_succ, List.replicate_zero, List.set_cons_zero, List.set_cons_succ, List.getElem?_cons_zero, List.getElem?_cons_succ, Option.some.injEq, Option.map_some, exists_eq_left', exists_eq_left, T.bl.injEq, T.int.injEq, T.str.injEq, T.tup.injEq, T.lst.injEq, T.ref.injEq, List.cons.injEq, and_true, true_and, res, wipeT, sp1_at, sp2_at, sp3_at, sp4_at, sp5_at, Nat.reduceAdd, Nat.reduceSub, if_true, if_false, Bool.false_eq_true, Bool.true_eq_false, ex_ite, addT_int, addT_str, addT_lst, addT_tup, subT_int, mulT2_int, mulT2_str, fdivT_int, modT_int, powT_int, negT_int, eqT_int, neT_int, eqT_str, neT_str, eqT_bl, neT_bl, ltT_int, gtT_int, leT_int, geT_int, ixT_lst, ixT_tup, ixT_str, atI_0, atI_1, atI_2, atI_3, ixT_ups, lenF_ups, ixN_30, ixN_31, ixN_32, lenF_lst, lenF_tup, lenF_str, absF_int, intF_int, intF_bl, max2F_int, min2F_int, strF_int, isi_str, isi_int, isi_tup, isi_lst, slT_lst, slT_tup, slT_str, slT_scr, ssetT_lst, ssetT_tup, slenT_lst, slenT_tup, sortedF_lst, sortedF_tup, tupleF_lst, tupleF_tup, listF_lst, listF_tup, inT_strs, ninT_strs, ups_ups, ups_same, decide_eq_true_eq, Cell.lst.injEq, Option.map_eq_some_iff, exists_and_left, exists_const, Bool.not_eq_true', m1, m2, m3, m4, m5, hp, e1, e2, e3, e4, e5, e6, e7, e8, ft, if_false, t18, List.length_map]
    rw [if_neg b1]
    exact Fin.of hq
def N_law_drawn_names : List Str := ["_law_pen", "_law_many", "_law_letters", "_law_begin", "_law_size", "_law_at", "_law_word", "_law_step", "_law_found", "_law_k", "_law_letter", "_law_name"]
def c_law_drawn_names : TTS :=
  (cSeq (cSet 2 (cC (.str (q "abcdefghijklmnopqrstuvwxyz"))))
    (cSeq (cSet 3 (cCall sp_law_draw (cCons (cVar 0) (cCons (cC (.int 26)) cNil))))
    (cSeq (cSet 4 (cOp addT (cC (.int 1)) (cCall sp_law_draw (cCons (cVar 0) (cCons (cC (.int 8)) cNil)))))
    (cSeq (cSet 5 (cCall sp_law_draw (cCons (cVar 0) (cCons (cVar 4) cNil))))
    (cSeq (cSet 6 (cM isStr joinF (cC (.str (q ""))) (cCons (cComp (iRange1 (cVar 4)) (gN 9) bYes (cOp ixT (cVar 2) (cCall sp_law_draw (cCons (cVar 0) (cCons (cC (.int 26)) cNil)))) [9]) cNil)))
    (cSeq (cSet 7 (cOp ixT (cLst (cCons (cC (.int 7)) (cCons (cC (.int 5)) (cCons (cC (.int 11)) (cCons (cC (.int 17)) cNil))))) (cCall sp_law_draw (cCons (cVar 0) (cCons (cC (.int 4)) cNil)))))
    (cSeq (cSet 8 (cLstM cNil))
    (cSeq (cFor (iRange1 (cVar 1)) (gN 9) ((cSeq (cSet 10 (cOp ixT (cVar 2) (cOp modT (cOp addT (cVar 3) (cOp mulT2 (cVar 7) (cVar 9))) (cC (.int 26)))))
    (cSeq (cDo (cApp (cVar 8) (cOp addT (cOp addT (cSl (cVar 6) oNo (oSome (cVar 5))) (cVar 10)) (cSl (cVar 6) (oSome (cOp addT (cVar 5) (cC (.int 1)))) oNo))))
    cSkip))))
    (cDrop (cSeq (cIfS (bAnd (bVal (cOp gtT (cVar 4) (cC (.int 1)))) (bVal (cOp eqT (cCall sp_law_draw (cCons (cVar 0) (cCons (cC (.int 3)) cNil))) (cC (.int 0))))) (cSeq (cSet 8 (cComp (iEnum (cVar 8)) (gT (gC (gN 9) (gC (gN 11) gZ))) bYes (cSl (cVar 11) oNo (oSome (cFn max2F (cCons (cOp addT (cVar 5) (cC (.int 1))) (cCons (cOp subT (cVar 4) (cOp modT (cVar 9) (cC (.int 3)))) cNil))))) [9, 11]))
    cSkip) cSkip)
    (cSeq (cRet (cVar 8))
    cSkip)))))))))))
def m_law_drawn_names (p_many : T) : PM Cell T :=
  bd (pu (.str (q "abcdefghijklmnopqrstuvwxyz"))) fun v1 => bd (bd (pu (.int 26)) fun v3 => m_law_draw v3) fun v4 => bd (bd (pu (.int 1)) fun v7 => bd (bd (pu (.int 8)) fun v6 => m_law_draw v6) fun v8 => ofO (addT emp v7 v8)) fun v9 => bd (bd (pu v9) fun v11 => m_law_draw v11) fun v12 => bd (bd (pu (.str (q ""))) fun v14 => bd (gd (isStr v14 = true)) fun _ => (bd (bd (bd (pu v9) rng1) fun xs20 => bd (compG (fun x15 => bd (bd (pu v1) fun v17 => bd (bd (pu (.int 26)) fun v16 => m_law_draw v16) fun v18 => ofO (ixT emp v17 v18)) fun v19 => pu (some v19)) xs20) fun ys21 => pu (.lst ys21)) fun v22 => ofO (joinF emp v14 [v22]))) fun v23 => bd (bd (bd (pu (.int 7)) fun v25 => bd (pu (.int 5)) fun v26 => bd (pu (.int 11)) fun v27 => bd (pu (.int 17)) fun v28 => pu (.lst [v25, v26, v27, v28])) fun v30 => bd (bd (pu (.int 4)) fun v29 => m_law_draw v29) fun v31 => ofO (ixT emp v30 v31)) fun v32 => bd (pu ([] : List T)) fun ys34 => bd (bd (bd (pu p_many) rng1) fun xs66 => forM (fun x37 (s36 : List T) => bd (bd (pu v1) fun v44 => bd (bd (bd (pu v4) fun v40 => bd (bd (pu v32) fun v38 => bd (pu x37) fun v39 => ofO (mulT2 emp v38 v39)) fun v41 => ofO (addT emp v40 v41)) fun v42 => bd (pu (.int 26)) fun v43 => ofO (modT emp v42 v43)) fun v45 => ofO (ixT emp v44 v45)) fun v46 => bd (bd (bd (bd (pu v23) fun v52 => bd (pu none) fun v53 => bd (bd (pu v12) fun v50 => bd (intO v50) fun v51 => pu (some v51)) fun v54 => ofO (slT emp v52 v53 v54)) fun v55 => bd (pu v46) fun v56 => ofO (addT emp v55 v56)) fun v64 => bd (bd (pu v23) fun v61 => bd (bd (bd (pu v12) fun v57 => bd (pu (.int 1)) fun v58 => ofO (addT emp v57 v58)) fun v59 => bd (intO v59) fun v60 => pu (some v60)) fun v62 => bd (pu none) fun v63 => ofO (slT emp v61 v62 v63)) fun v65 => ofO (addT emp v64 v65)) fun v49 => bd (appM s36 v49) fun ys48 => pu ys48) xs66 ys34) fun (s36 : List T) => bd (bd (bd (bd (bd (pu v9) fun v70 => bd (pu (.int 1)) fun v71 => ofO (gtT emp v70 v71)) tb) fun v72 => if v72 = true then (bd (bd (bd (pu (.int 3)) fun v67 => m_law_draw v67) fun v68 => bd (pu (.int 0)) fun v69 => ofO (eqT emp v68 v69)) tb) else pu false) fun v73 => if v73 = true then (bd (bd (bd (pu (.lst s36)) enumM) fun xs91 => bd (compG (fun x75 => bd (ofO (un2 x75)) fun b76 => bd (bd (pu b76.2) fun v87 => bd (pu none) fun v88 => bd (bd (bd (bd (pu v12) fun v77 => bd (pu (.int 1)) fun v78 => ofO (addT emp v77 v78)) fun v83 => bd (bd (pu v9) fun v81 => bd (bd (pu b76.1) fun v79 => bd (pu (.int 3)) fun v80 => ofO (modT emp v79 v80)) fun v82 => ofO (subT emp v81 v82)) fun v84 => ofO (max2F emp [v83, v84])) fun v85 => bd (intO v85) fun v86 => pu (some v86)) fun v89 => ofO (slT emp v87 v88 v89)) fun v90 => pu (some v90)) xs91) fun ys92 => pu (.lst ys92)) fun v93 => pu v93 : PM _ (T)) else pu (.lst s36)) fun s74 => bd (pu s74) fun v95 => pu v95
theorem x_law_drawn_names (S : Sto) (pa : Addr) (p_many : T) : XS (penW S pa) [some (.ref pa), some p_many, none, none, none, none, none, none, none, none, none, none] [] c_law_drawn_names (m_law_drawn_names p_many) .rt :=
  (xs_set xe_c fun v1 => (xs_set (xe_callP rfl (xa_cons xe_c xa_nil)) fun v4 => (xs_set (xe_op opv_addT (XE.v xe_c) (XE.v (xe_callP rfl (xa_cons xe_c xa_nil)))) fun v9 => (xs_set (xe_callP rfl (xa_cons (xe_var rfl) xa_nil)) fun v12 => (xs_set (xe_m mtv_joinF xe_c fun v14 => (xav_cons (XE.v (xe_comp (XIy.i (xiy_range1 (xe_var rfl))) (fun x15 => xc_nameY (xe_op opv_ixT (XE.v (xe_var rfl)) (XE.v (xe_callP rfl (xa_cons xe_c xa_nil))))))) xav_nil)) fun v23 => (xs_set (xe_op opv_ixT (XE.v (xe_lst (xa_cons xe_c (xa_cons xe_c (xa_cons xe_c (xa_cons xe_c xa_nil)))))) (XE.v (xe_callP rfl (xa_cons xe_c xa_nil)))) fun v32 => (xs_new (xn_lst xa_nil) fun ys34 a35 => (xs_seq (xs_for (σ := List T) (P := fun s36 => [some (.ref pa), some p_many, some v1, some v4, some v9, some v12, some v23, some v32, some (.ref a35), none, none, none]) (C := fun s36 => [(a35, .lst s36)]) (s0 := ys34) (xiy_range1 (xe_var rfl)) ⟨.inr rfl, .inr rfl, .inr rfl, .inr rfl, .inr rfl, .inr rfl, .inr rfl, .inr rfl, .inr rfl, .inl rfl, .inl rfl, .inl rfl, trivial⟩ rfl (fun x37 s36 => xf_name (xs_set (xe_op opv_ixT (XE.v (xe_var rfl)) (XE.v (xe_op opv_modT (XE.v (xe_op opv_addT (XE.v (xe_var rfl)) (XE.v (xe_op opv_mulT2 (XE.v (xe_var rfl)) (XE.v (xe_var rfl)))))) (XE.v xe_c)))) fun v46 => (xs_app (l1 := []) (l2 := []) rfl (xe_op opv_addT (XE.v (xe_op opv_addT (XE.v (xe_sl (XE.v (xe_var rfl)) xo_no (xo_some (xe_var rfl)))) (XE.v (xe_var rfl)))) (XE.v (xe_sl (XE.v (xe_var rfl)) (xo_some (xe_op opv_addT (XE.v (xe_var rfl)) (XE.v xe_c))) xo_no))) fun ys48 => (xs_skip rfl ⟨.inr rfl, .inr rfl, .inr rfl, .inr rfl, .inr rfl, .inr rfl, .inr rfl, .inr rfl, .inr rfl, .inl rfl, .inl rfl, .inl rfl, trivial⟩))))) fun s36 => (xs_drop (i := 8) (l1 := []) (l2 := []) rfl (xs_seq (σ := T) (P := fun s74 => [some (.ref pa), some p_many, some v1, some v4, some v9, some v12, some v23, some v32, some s74, none, none, none]) (C := fun s74 => []) (xs_if (xb_and (xb_val (xe_opx opx_gtT (xe_var rfl) xe_c)) (xb_val (xe_op opv_eqT (XE.v (xe_callP rfl (xa_cons xe_c xa_nil))) (XE.v xe_c)))) (xs_set (xe_comp (XIy.i (xiy_enum (xe_var rfl))) (fun x75 => xc_unY xg_2 fun b76 => (xe_sl (XE.v (xe_var rfl)) xo_no (xo_some (xe_fnx fnx_max2F (xa_cons (xe_op opv_addT (XE.v (xe_var rfl)) (XE.v xe_c)) (xa_cons (xe_op opv_subT (XE.v (xe_var rfl)) (XE.v (xe_op opv_modT (XE.v (xe_var rfl)) (XE.v xe_c)))) xa_nil))))))) fun v93 => (xs_skip rfl ⟨.inr rfl, .inr rfl, .inr rfl, .inr rfl, .inr rfl, .inr rfl, .inr rfl, .inr rfl, .inr rfl, .inl rfl, .inl rfl, .inl rfl, trivial⟩)) (xs_skip rfl ⟨.inr rfl, .inr rfl, .inr rfl, .inr rfl, .inr rfl, .inr rfl, .inr rfl, .inr rfl, .inr rfl, .inl rfl, .inl rfl, .inl rfl, trivial⟩)) fun s74 => (xs_ret (g := fun v => v) (fun _ => rfl) (XE.v (xe_var rfl)))))))))))))
def sp_law_drawn_names : SpT := spP (u1 m_law_drawn_names)
theorem len_law_drawn_names : ∀ ts S Q E, sp_law_drawn_names ts S Q E → ts.length = 2 := spP_len ar1
theorem vc_law_drawn_names : VC N_law_drawn_names sp_law_drawn_names c_law_drawn_names := vc_p1 x_law_drawn_names
def N_law_two_couples : List Str := ["_law_names", "_law_families", "_law_folk", "_law_births", "_law_name"]
def c_law_two_couples : TTS :=
  (cSeq (cSet 1 (cLst (cCons (cFn tupleF (cCons (cFn sortedF (cCons (cSl (cVar 0) oNo (oSome (cC (.int 2)))) cNil)) cNil)) (cCons (cFn tupleF (cCons (cFn sortedF (cCons (cSl (cVar 0) (oSome (cC (.int 2))) (oSome (cC (.int 4)))) cNil)) cNil)) cNil))))
    (cSeq (cSet 2 (cFn tupleF (cCons (cFn sortedF (cCons (cComp (iSeq (cSl (cVar 0) oNo (oSome (cC (.int 6))))) (gN 4) bYes (cTup (cCons (cVar 4) (cCons (cC (.str (q "m"))) cNil))) [4]) cNil)) cNil)))
    (cSeq (cSet 3 (cFn tupleF (cCons (cFn sortedF (cCons (cLst (cCons (cTup (cCons (cOp ixT (cVar 0) (cC (.int 4))) (cCons (cOp ixT (cVar 1) (cC (.int 0))) cNil))) (cCons (cTup (cCons (cOp ixT (cVar 0) (cC (.int 5))) (cCons (cOp ixT (cVar 1) (cC (.int 1))) cNil))) cNil))) cNil)) cNil)))
    (cSeq (cRet (cTup (cCons (cTup (cCons (cVar 2) (cCons (cFn tupleF (cCons (cFn sortedF (cCons (cVar 1) cNil)) cNil)) (cCons (cVar 3) (cCons (cTup cNil) cNil))))) (cCons (cVar 1) cNil))))
    cSkip))))
def m_law_two_couples (p_names : T) : PM Unit T :=
  bd (bd (bd (bd (bd (pu p_names) fun v3 => bd (pu none) fun v4 => bd (bd (pu (.int 2)) fun v1 => bd (intO v1) fun v2 => pu (some v2)) fun v5 => ofO (slT emp v3 v4 v5)) fun v6 => ofO (sortedF emp [v6])) fun v7 => ofO (tupleF emp [v7])) fun v17 => bd (bd (bd (bd (pu p_names) fun v12 => bd (bd (pu (.int 2)) fun v8 => bd (intO v8) fun v9 => pu (some v9)) fun v13 => bd (bd (pu (.int 4)) fun v10 => bd (intO v10) fun v11 => pu (some v11)) fun v14 => ofO (slT emp v12 v13 v14)) fun v15 => ofO (sortedF emp [v15])) fun v16 => ofO (tupleF emp [v16])) fun v18 => pu (.lst [v17, v18])) fun v19 => bd (bd (bd (bd (bd (bd (pu p_names) fun v23 => bd (pu none) fun v24 => bd (bd (pu (.int 6)) fun v21 => bd (intO v21) fun v22 => pu (some v22)) fun v25 => ofO (slT emp v23 v24 v25)) itemsM) fun xs30 => bd (compG (fun x26 => bd (bd (pu x26) fun v27 => bd (pu (.str (q "m"))) fun v28 => pu (.tup [v27, v28])) fun v29 => pu (some v29)) xs30) fun ys31 => pu (.lst ys31)) fun v32 => ofO (sortedF emp [v32])) fun v33 => ofO (tupleF emp [v33])) fun v34 => bd (bd (bd (bd (bd (bd (pu p_names) fun v36 => bd (pu (.int 4)) fun v37 => ofO (ixT emp v36 v37)) fun v40 => bd (bd (pu v19) fun v38 => bd (pu (.int 0)) fun v39 => ofO (ixT emp v38 v39)) fun v41 => pu (.tup [v40, v41])) fun v48 => bd (bd (bd (pu p_names) fun v42 => bd (pu (.int 5)) fun v43 => ofO (ixT emp v42 v43)) fun v46 => bd (bd (pu v19) fun v44 => bd (pu (.int 1)) fun v45 => ofO (ixT emp v44 v45)) fun v47 => pu (.tup [v46, v47])) fun v49 => pu (.lst [v48, v49])) fun v50 => ofO (sortedF emp [v50])) fun v51 => ofO (tupleF emp [v51])) fun v52 => bd (bd (bd (pu v34) fun v56 => bd (bd (bd (pu v19) fun v54 => ofO (sortedF emp [v54])) fun v55 => ofO (tupleF emp [v55])) fun v57 => bd (pu v52) fun v58 => bd (pu (.tup [])) fun v59 => pu (.tup [v56, v57, v58, v59])) fun v60 => bd (pu v19) fun v61 => pu (.tup [v60, v61])) fun v62 => pu v62
theorem x_law_two_couples (S : Sto) (p_names : T) : XS (fun _ : Unit => S) [some p_names, none, none, none, none] [] c_law_two_couples (m_law_two_couples p_names) .rt :=
  (xs_set (xe_lst (xa_cons (xe_fn fnv_tupleF (xav_cons (XE.v (xe_fn fnv_sortedF (xav_cons (XE.v (xe_sl (XE.v (xe_var rfl)) xo_no (xo_some xe_c))) xav_nil))) xav_nil)) (xa_cons (xe_fn fnv_tupleF (xav_cons (XE.v (xe_fn fnv_sortedF (xav_cons (XE.v (xe_sl (XE.v (xe_var rfl)) (xo_some xe_c) (xo_some xe_c))) xav_nil))) xav_nil)) xa_nil))) fun v19 => (xs_set (xe_fn fnv_tupleF (xav_cons (XE.v (xe_fn fnv_sortedF (xav_cons (XE.v (xe_comp (XIy.i (xiy_seq (xe_sl (XE.v (xe_var rfl)) xo_no (xo_some xe_c)))) (fun x26 => xc_nameY (xe_tup (xa_cons (xe_var rfl) (xa_cons xe_c xa_nil)))))) xav_nil))) xav_nil)) fun v34 => (xs_set (xe_fn fnv_tupleF (xav_cons (XE.v (xe_fn fnv_sortedF (xav_cons (XE.v (xe_lst (xa_cons (xe_tup (xa_cons (xe_op opv_ixT (XE.v (xe_var rfl)) (XE.v xe_c)) (xa_cons (xe_op opv_ixT (XE.v (xe_var rfl)) (XE.v xe_c)) xa_nil))) (xa_cons (xe_tup (xa_cons (xe_op opv_ixT (XE.v (xe_var rfl)) (XE.v xe_c)) (xa_cons (xe_op opv_ixT (XE.v (xe_var rfl)) (XE.v xe_c)) xa_nil))) xa_nil)))) xav_nil))) xav_nil)) fun v52 => (xs_ret (g := fun v => v) (fun _ => rfl) (XE.v (xe_tup (xa_cons (xe_tup (xa_cons (xe_var rfl) (xa_cons (xe_fn fnv_tupleF (xav_cons (XE.v (xe_fn fnv_sortedF (xav_cons (XE.v (xe_var rfl)) xav_nil))) xav_nil)) (xa_cons (xe_var rfl) (xa_cons (xe_tup xa_nil) xa_nil))))) (xa_cons (xe_var rfl) xa_nil))))))))
def sp_law_two_couples : SpT := spU (u1 m_law_two_couples)
theorem len_law_two_couples : ∀ ts S Q E, sp_law_two_couples ts S Q E → ts.length = 1 := spU_len ar1
theorem vc_law_two_couples : VC N_law_two_couples sp_law_two_couples c_law_two_couples := vc_u1 x_law_two_couples
def N_law_uncle_and_niece : List Str := ["_law_names", "_law_folk", "_law_couple", "_law_unions", "_law_births", "_law_name"]
def c_law_uncle_and_niece : TTS :=
  (cSeq (cSet 1 (cFn tupleF (cCons (cFn sortedF (cCons (cComp (iSeq (cSl (cVar 0) oNo (oSome (cC (.int 4))))) (gN 5) bYes (cTup (cCons (cVar 5) (cCons (cC (.str (q "w"))) cNil))) [5]) cNil)) cNil)))
    (cSeq (cSet 2 (cFn tupleF (cCons (cFn sortedF (cCons (cSl (cVar 0) (oSome (cC (.int 2))) (oSome (cC (.int 4)))) cNil)) cNil)))
    (cSeq (cSet 3 (cFn tupleF (cCons (cFn sortedF (cCons (cLst (cCons (cTup (cCons (cOp ixT (cVar 0) (cC (.int 0))) cNil)) (cCons (cTup (cCons (cOp ixT (cVar 0) (cC (.int 1))) cNil)) (cCons (cVar 2) cNil)))) cNil)) cNil)))
    (cSeq (cSet 4 (cFn tupleF (cCons (cFn sortedF (cCons (cLst (cCons (cTup (cCons (cOp ixT (cVar 0) (cC (.int 1))) (cCons (cTup (cCons (cOp ixT (cVar 0) (cC (.int 0))) cNil)) cNil))) (cCons (cTup (cCons (cOp ixT (cVar 0) (cC (.int 2))) (cCons (cTup (cCons (cOp ixT (cVar 0) (cC (.int 0))) cNil)) cNil))) (cCons (cTup (cCons (cOp ixT (cVar 0) (cC (.int 3))) (cCons (cTup (cCons (cOp ixT (cVar 0) (cC (.int 1))) cNil)) cNil))) cNil)))) cNil)) cNil)))
    (cSeq (cRet (cTup (cCons (cTup (cCons (cVar 1) (cCons (cVar 3) (cCons (cVar 4) (cCons (cTup cNil) cNil))))) (cCons (cTup (cCons (cTup (cCons (cTup (cCons (cOp ixT (cVar 0) (cC (.int 0))) cNil)) cNil)) (cCons (cTup (cCons (cTup (cCons (cOp ixT (cVar 0) (cC (.int 1))) cNil)) cNil)) (cCons (cTup (cCons (cVar 2) cNil)) cNil)))) cNil))))
    cSkip)))))
def m_law_uncle_and_niece (p_names : T) : PM Unit T :=
  bd (bd (bd (bd (bd (bd (pu p_names) fun v3 => bd (pu none) fun v4 => bd (bd (pu (.int 4)) fun v1 => bd (intO v1) fun v2 => pu (some v2)) fun v5 => ofO (slT emp v3 v4 v5)) itemsM) fun xs10 => bd (compG (fun x6 => bd (bd (pu x6) fun v7 => bd (pu (.str (q "w"))) fun v8 => pu (.tup [v7, v8])) fun v9 => pu (some v9)) xs10) fun ys11 => pu (.lst ys11)) fun v12 => ofO (sortedF emp [v12])) fun v13 => ofO (tupleF emp [v13])) fun v14 => bd (bd (bd (bd (pu p_names) fun v20 => bd (bd (pu (.int 2)) fun v16 => bd (intO v16) fun v17 => pu (some v17)) fun v21 => bd (bd (pu (.int 4)) fun v18 => bd (intO v18) fun v19 => pu (some v19)) fun v22 => ofO (slT emp v20 v21 v22)) fun v23 => ofO (sortedF emp [v23])) fun v24 => ofO (tupleF emp [v24])) fun v25 => bd (bd (bd (bd (bd (bd (pu p_names) fun v27 => bd (pu (.int 0)) fun v28 => ofO (ixT emp v27 v28)) fun v29 => pu (.tup [v29])) fun v33 => bd (bd (bd (pu p_names) fun v30 => bd (pu (.int 1)) fun v31 => ofO (ixT emp v30 v31)) fun v32 => pu (.tup [v32])) fun v34 => bd (pu v25) fun v35 => pu (.lst [v33, v34, v35])) fun v36 => ofO (sortedF emp [v36])) fun v37 => ofO (tupleF emp [v37])) fun v38 => bd (bd (bd (bd (bd (bd (pu p_names) fun v40 => bd (pu (.int 1)) fun v41 => ofO (ixT emp v40 v41)) fun v45 => bd (bd (bd (pu p_names) fun v42 => bd (pu (.int 0)) fun v43 => ofO (ixT emp v42 v43)) fun v44 => pu (.tup [v44])) fun v46 => pu (.tup [v45, v46])) fun v61 => bd (bd (bd (pu p_names) fun v47 => bd (pu (.int 2)) fun v48 => ofO (ixT emp v47 v48)) fun v52 => bd (bd (bd (pu p_names) fun v49 => bd (pu (.int 0)) fun v50 => ofO (ixT emp v49 v50)) fun v51 => pu (.tup [v51])) fun v53 => pu (.tup [v52, v53])) fun v62 => bd (bd (bd (pu p_names) fun v54 => bd (pu (.int 3)) fun v55 => ofO (ixT emp v54 v55)) fun v59 => bd (bd (bd (pu p_names) fun v56 => bd (pu (.int 1)) fun v57 => ofO (ixT emp v56 v57)) fun v58 => pu (.tup [v58])) fun v60 => pu (.tup [v59, v60])) fun v63 => pu (.lst [v61, v62, v63])) fun v64 => ofO (sortedF emp [v64])) fun v65 => ofO (tupleF emp [v65])) fun v66 => bd (bd (bd (pu v14) fun v68 => bd (pu v38) fun v69 => bd (pu v66) fun v70 => bd (pu (.tup [])) fun v71 => pu (.tup [v68, v69, v70, v71])) fun v84 => bd (bd (bd (bd (bd (pu p_names) fun v72 => bd (pu (.int 0)) fun v73 => ofO (ixT emp v72 v73)) fun v74 => pu (.tup [v74])) fun v75 => pu (.tup [v75])) fun v81 => bd (bd (bd (bd (pu p_names) fun v76 => bd (pu (.int 1)) fun v77 => ofO (ixT emp v76 v77)) fun v78 => pu (.tup [v78])) fun v79 => pu (.tup [v79])) fun v82 => bd (bd (pu v25) fun v80 => pu (.tup [v80])) fun v83 => pu (.tup [v81, v82, v83])) fun v85 => pu (.tup [v84, v85])) fun v86 => pu v86
theorem x_law_uncle_and_niece (S : Sto) (p_names : T) : XS (fun _ : Unit => S) [some p_names, none, none, none, none, none] [] c_law_uncle_and_niece (m_law_uncle_and_niece p_names) .rt :=
  (xs_set (xe_fn fnv_tupleF (xav_cons (XE.v (xe_fn fnv_sortedF (xav_cons (XE.v (xe_comp (XIy.i (xiy_seq (xe_sl (XE.v (xe_var rfl)) xo_no (xo_some xe_c)))) (fun x6 => xc_nameY (xe_tup (xa_cons (xe_var rfl) (xa_cons xe_c xa_nil)))))) xav_nil))) xav_nil)) fun v14 => (xs_set (xe_fn fnv_tupleF (xav_cons (XE.v (xe_fn fnv_sortedF (xav_cons (XE.v (xe_sl (XE.v (xe_var rfl)) (xo_some xe_c) (xo_some xe_c))) xav_nil))) xav_nil)) fun v25 => (xs_set (xe_fn fnv_tupleF (xav_cons (XE.v (xe_fn fnv_sortedF (xav_cons (XE.v (xe_lst (xa_cons (xe_tup (xa_cons (xe_op opv_ixT (XE.v (xe_var rfl)) (XE.v xe_c)) xa_nil)) (xa_cons (xe_tup (xa_cons (xe_op opv_ixT (XE.v (xe_var rfl)) (XE.v xe_c)) xa_nil)) (xa_cons (xe_var rfl) xa_nil))))) xav_nil))) xav_nil)) fun v38 => (xs_set (xe_fn fnv_tupleF (xav_cons (XE.v (xe_fn fnv_sortedF (xav_cons (XE.v (xe_lst (xa_cons (xe_tup (xa_cons (xe_op opv_ixT (XE.v (xe_var rfl)) (XE.v xe_c)) (xa_cons (xe_tup (xa_cons (xe_op opv_ixT (XE.v (xe_var rfl)) (XE.v xe_c)) xa_nil)) xa_nil))) (xa_cons (xe_tup (xa_cons (xe_op opv_ixT (XE.v (xe_var rfl)) (XE.v xe_c)) (xa_cons (xe_tup (xa_cons (xe_op opv_ixT (XE.v (xe_var rfl)) (XE.v xe_c)) xa_nil)) xa_nil))) (xa_cons (xe_tup (xa_cons (xe_op opv_ixT (XE.v (xe_var rfl)) (XE.v xe_c)) (xa_cons (xe_tup (xa_cons (xe_op opv_ixT (XE.v (xe_var rfl)) (XE.v xe_c)) xa_nil)) xa_nil))) xa_nil))))) xav_nil))) xav_nil)) fun v66 => (xs_ret (g := fun v => v) (fun _ => rfl) (XE.v (xe_tup (xa_cons (xe_tup (xa_cons (xe_var rfl) (xa_cons (xe_var rfl) (xa_cons (xe_var rfl) (xa_cons (xe_tup xa_nil) xa_nil))))) (xa_cons (xe_tup (xa_cons (xe_tup (xa_cons (xe_tup (xa_cons (xe_op opv_ixT (XE.v (xe_var rfl)) (XE.v xe_c)) xa_nil)) xa_nil)) (xa_cons (xe_tup (xa_cons (xe_tup (xa_cons (xe_op opv_ixT (XE.v (xe_var rfl)) (XE.v xe_c)) xa_nil)) xa_nil)) (xa_cons (xe_tup (xa_cons (xe_var rfl) xa_nil)) xa_nil)))) xa_nil)))))))))
def sp_law_uncle_and_niece : SpT := spU (u1 m_law_uncle_and_niece)
theorem len_law_uncle_and_niece : ∀ ts S Q E, sp_law_uncle_and_niece ts S Q E → ts.length = 1 := spU_len ar1
theorem vc_law_uncle_and_niece : VC N_law_uncle_and_niece sp_law_uncle_and_niece c_law_uncle_and_niece := vc_u1 x_law_uncle_and_niece
def N_the_law : List Str := ["_law_script", "_law_pen", "_law_names", "_law_book", "_law_families", "_law_rows", "_law_columns", "_law_above", "_law_due", "_law_tracks", "_law_drawing", "_law_sign"]
def t_the_law : TTS :=
  (cSeq (cSet 2 (cCall sp_law_drawn_names (cCons (cVar 1) (cCons (cC (.int 8)) cNil))))
    (cSeq (cAsg (cCall sp_law_two_couples (cCons (cVar 2) cNil)) (gT (gC (gN 3) (gC (gN 4) gZ))))
    (cSeq (cSet 5 (cLst (cCons (cTup (cCons (cC (.str (q "041253"))) (cCons (cC (.int 0)) (cCons (cC (.int 0)) cNil)))) (cCons (cTup (cCons (cC (.str (q "041253"))) (cCons (cC (.int 1)) (cCons (cC (.int 0)) cNil)))) (cCons (cTup (cCons (cC (.str (q "023154"))) (cCons (cC (.int 0)) (cCons (cC (.int 2)) cNil)))) cNil)))))
    (cSeq (cSet 5 (cOp addT (cVar 5) (cLst (cCons (cTup (cCons (cC (.str (q "023154"))) (cCons (cC (.int 1)) (cCons (cC (.int 2)) cNil)))) (cCons (cTup (cCons (cC (.str (q "012345"))) (cCons (cC (.int 0)) (cCons (cC (.int 3)) cNil)))) (cCons (cTup (cCons (cC (.str (q "012345"))) (cCons (cC (.int 1)) (cCons (cC (.int 0)) cNil)))) cNil))))))
    (cSeq (cFor (iSeq (cVar 5)) (gT (gC (gN 6) (gC (gN 7) (gC (gN 8) gZ)))) ((cSeq (cSet 9 (cOp ixT (cLst (cCons (cVar 4) (cCons (cOp stepT (cVar 4) (cUn negT (cC (.int 1)))) cNil))) (cVar 7)))
    (cSeq (cSet 10 (cTup (cCons (cFn tupleF (cCons (cComp (iSeq (cVar 6)) (gN 11) bYes (cOp ixT (cVar 2) (cFn itxF (cCons (cVar 11) cNil))) [11]) cNil)) (cCons (cTup (cCons (cFn tupleF (cCons (cVar 9) cNil)) (cCons (cTup cNil) cNil))) cNil))))
    (cSeq (cIfS (bOr (bVal (cOp isnbT (cCall sp_looked_drawing (cCons (cVar 3) (cCons (cVar 10) cNil))) (cC (.bl true)))) (bVal (cOp neT (cCall sp_crossings (cCons (cVar 3) (cCons (cVar 10) cNil))) (cVar 8)))) (cSeq (cRet (cC (.bl false)))
    cSkip) cSkip)
    cSkip)))))
    (cSeq (cAsg (cCall sp_law_uncle_and_niece (cCons (cVar 2) cNil)) (gT (gC (gN 3) (gC (gN 9) gZ))))
    (cSeq (cFor (iSeq (cLst (cCons (cTup (cCons (cC (.str (q "0132"))) (cCons (cC (.int 0)) cNil))) (cCons (cTup (cCons (cC (.str (q "1320"))) (cCons (cC (.int 0)) cNil))) (cCons (cTup (cCons (cC (.str (q "1203"))) (cCons (cC (.int 1)) cNil))) (cCons (cTup (cCons (cC (.str (q "3201"))) (cCons (cC (.int 1)) cNil))) (cCons (cTup (cCons (cC (.str (q "0213"))) (cCons (cC (.int 0)) cNil))) (cCons (cTup (cCons (cC (.str (q "2310"))) (cCons (cC (.int 0)) cNil))) (cCons (cTup (cCons (cC (.str (q "3021"))) (cCons (cC (.int 1)) cNil))) cNil))))))))) (gT (gC (gN 6) (gC (gN 8) gZ))) ((cSeq (cSet 10 (cTup (cCons (cFn tupleF (cCons (cComp (iSeq (cVar 6)) (gN 11) bYes (cOp ixT (cVar 2) (cFn itxF (cCons (cVar 11) cNil))) [11]) cNil)) (cCons (cVar 9) cNil))))
    (cSeq (cIfS (bOr (bVal (cOp isnbT (cCall sp_looked_drawing (cCons (cVar 3) (cCons (cVar 10) cNil))) (cC (.bl true)))) (bVal (cOp neT (cCall sp_crossings (cCons (cVar 3) (cCons (cVar 10) cNil))) (cVar 8)))) (cSeq (cRet (cC (.bl false)))
    cSkip) cSkip)
    cSkip))))
    (cSeq (cRet (cC (.bl true)))
    cSkip))))))))
def c_the_law : TTS := cSeq (cSet 1 (cCall sp_law_pen_of (cCons (cVar 0) cNil))) t_the_law
def sp_the_law : SpT := sp_law1
def m_the_law : PM Cell T :=
  bd (bd (pu (.int 8)) fun v1 => m_law_drawn_names v1) fun v2 => bd (bd (pu v2) fun v4 => lft (m_law_two_couples v4)) fun v5 => bd (ofO (un2 v5)) fun b6 => bd (bd (bd (pu (.str (q "041253"))) fun v7 => bd (pu (.int 0)) fun v8 => bd (pu (.int 0)) fun v9 => pu (.tup [v7, v8, v9])) fun v16 => bd (bd (pu (.str (q "041253"))) fun v10 => bd (pu (.int 1)) fun v11 => bd (pu (.int 0)) fun v12 => pu (.tup [v10, v11, v12])) fun v17 => bd (bd (pu (.str (q "023154"))) fun v13 => bd (pu (.int 0)) fun v14 => bd (pu (.int 2)) fun v15 => pu (.tup [v13, v14, v15])) fun v18 => pu (.lst [v16, v17, v18])) fun v19 => bd (bd (pu v19) fun v33 => bd (bd (bd (pu (.str (q "023154"))) fun v21 => bd (pu (.int 1)) fun v22 => bd (pu (.int 2)) fun v23 => pu (.tup [v21, v22, v23])) fun v30 => bd (bd (pu (.str (q "012345"))) fun v24 => bd (pu (.int 0)) fun v25 => bd (pu (.int 3)) fun v26 => pu (.tup [v24, v25, v26])) fun v31 => bd (bd (pu (.str (q "012345"))) fun v27 => bd (pu (.int 1)) fun v28 => bd (pu (.int 0)) fun v29 => pu (.tup [v27, v28, v29])) fun v32 => pu (.lst [v30, v31, v32])) fun v34 => ofO (addT emp v33 v34)) fun v35 => bd (bd (bd (pu v35) itemsM) fun xs75 => forR (fun x38 (s37 : Unit) => bd (ofO (un3 x38)) fun b39 => bd (bd (bd (pu b6.2) fun v43 => bd (bd (pu b6.2) fun v41 => bd (bd (pu (.int 1)) fun v40 => ofO (negT emp v40)) fun v42 => ofO (stepT emp v41 v42)) fun v44 => pu (.lst [v43, v44])) fun v45 => bd (pu b39.2.1) fun v46 => ofO (ixT emp v45 v46)) fun v47 => bd (bd (bd (bd (bd (pu b39.1) itemsM) fun xs54 => bd (compG (fun x49 => bd (bd (pu v2) fun v51 => bd (bd (pu x49) fun v50 => ofO (itxF emp [v50])) fun v52 => ofO (ixT emp v51 v52)) fun v53 => pu (some v53)) xs54) fun ys55 => pu (.lst ys55)) fun v56 => ofO (tupleF emp [v56])) fun v60 => bd (bd (bd (pu v47) fun v57 => ofO (tupleF emp [v57])) fun v58 => bd (pu (.tup [])) fun v59 => pu (.tup [v58, v59])) fun v61 => pu (.tup [v60, v61])) fun v62 => bd (bd (bd (bd (bd (pu b6.1) fun v68 => bd (pu v62) fun v69 => lft (m_looked_drawing v68 v69)) fun v70 => bd (pu (.bl true)) fun v71 => ofO (isnbT emp v70 v71)) tb) fun v72 => if v72 = true then pu true else (bd (bd (bd (pu b6.1) fun v64 => bd (pu v62) fun v65 => lft (m_crossings v64 v65)) fun v66 => bd (pu b39.2.2) fun v67 => ofO (neT emp v66 v67)) tb)) fun v73 => if v73 = true then bd (pu (.bl false)) fun v74 => pu (.rt v74) else pu (.nx ())) xs75 ()) fun r129 => Sum.elim (fun (s37 : Unit) => bd (bd (pu v2) fun v76 => lft (m_law_uncle_and_niece v76)) fun v77 => bd (ofO (un2 v77)) fun b78 => bd (bd (bd (bd (bd (pu (.str (q "0132"))) fun v80 => bd (pu (.int 0)) fun v81 => pu (.tup [v80, v81])) fun v94 => bd (bd (pu (.str (q "1320"))) fun v82 => bd (pu (.int 0)) fun v83 => pu (.tup [v82, v83])) fun v95 => bd (bd (pu (.str (q "1203"))) fun v84 => bd (pu (.int 1)) fun v85 => pu (.tup [v84, v85])) fun v96 => bd (bd (pu (.str (q "3201"))) fun v86 => bd (pu (.int 1)) fun v87 => pu (.tup [v86, v87])) fun v97 => bd (bd (pu (.str (q "0213"))) fun v88 => bd (pu (.int 0)) fun v89 => pu (.tup [v88, v89])) fun v98 => bd (bd (pu (.str (q "2310"))) fun v90 => bd (pu (.int 0)) fun v91 => pu (.tup [v90, v91])) fun v99 => bd (bd (pu (.str (q "3021"))) fun v92 => bd (pu (.int 1)) fun v93 => pu (.tup [v92, v93])) fun v100 => pu (.lst [v94, v95, v96, v97, v98, v99, v100])) itemsM) fun xs126 => forR (fun x101 (s79 : Unit) => bd (ofO (un2 x101)) fun b102 => bd (bd (bd (bd (bd (pu b102.1) itemsM) fun xs108 => bd (compG (fun x103 => bd (bd (pu v2) fun v105 => bd (bd (pu x103) fun v104 => ofO (itxF emp [v104])) fun v106 => ofO (ixT emp v105 v106)) fun v107 => pu (some v107)) xs108) fun ys109 => pu (.lst ys109)) fun v110 => ofO (tupleF emp [v110])) fun v111 => bd (pu b78.2) fun v112 => pu (.tup [v111, v112])) fun v113 => bd (bd (bd (bd (bd (pu b78.1) fun v119 => bd (pu v113) fun v120 => lft (m_looked_drawing v119 v120)) fun v121 => bd (pu (.bl true)) fun v122 => ofO (isnbT emp v121 v122)) tb) fun v123 => if v123 = true then pu true else (bd (bd (bd (pu b78.1) fun v115 => bd (pu v113) fun v116 => lft (m_crossings v115 v116)) fun v117 => bd (pu b102.2) fun v118 => ofO (neT emp v117 v118)) tb)) fun v124 => if v124 = true then bd (pu (.bl false)) fun v125 => pu (.rt v125) else pu (.nx ())) xs126 ()) fun r128 => Sum.elim (fun (s79 : Unit) => bd (pu (.bl true)) fun v127 => pu v127) (fun v => pu v) r128) (fun v => pu v) r129
theorem x_the_law (S : Sto) (pa : Addr) (a : T) : XS (penW S pa) [some a, some (.ref pa), none, none, none, none, none, none, none, none, none, none] [] t_the_law m_the_law .rt :=
  (xs_set (xe_callP rfl (xa_cons xe_c xa_nil)) fun v2 => (xs_asg (xe_call (xa_cons (xe_var rfl) xa_nil)) xg_2 fun b6 => (xs_set (xe_lst (xa_cons (xe_tup (xa_cons xe_c (xa_cons xe_c (xa_cons xe_c xa_nil)))) (xa_cons (xe_tup (xa_cons xe_c (xa_cons xe_c (xa_cons xe_c xa_nil)))) (xa_cons (xe_tup (xa_cons xe_c (xa_cons xe_c (xa_cons xe_c xa_nil)))) xa_nil)))) fun v19 => (xs_set (xe_op opv_addT (XE.v (xe_var rfl)) (XE.v (xe_lst (xa_cons (xe_tup (xa_cons xe_c (xa_cons xe_c (xa_cons xe_c xa_nil)))) (xa_cons (xe_tup (xa_cons xe_c (xa_cons xe_c (xa_cons xe_c xa_nil)))) (xa_cons (xe_tup (xa_cons xe_c (xa_cons xe_c (xa_cons xe_c xa_nil)))) xa_nil)))))) fun v35 => (xs_seqR (g := fun v => v) (fun _ => rfl) (xs_forR (σ := Unit) (P := fun s37 => [some a, some (.ref pa), some v2, some b6.1, some b6.2, some v35, none, none, none, none, none, none]) (C := fun s37 => []) (s0 := ()) (xiy_seq (xe_var rfl)) ⟨.inr rfl, .inr rfl, .inr rfl, .inr rfl, .inr rfl, .inr rfl, .inl rfl, .inl rfl, .inl rfl, .inl rfl, .inl rfl, .inl rfl, trivial⟩ rfl (fun x38 s37 => xf_un xg_3 fun b39 => (xs_set (xe_op opv_ixT (XE.v (xe_lst (xa_cons (xe_var rfl) (xa_cons (xe_opx opx_stepT (xe_var rfl) (xe_un unv_negT (XE.v xe_c))) xa_nil)))) (XE.v (xe_var rfl))) fun v47 => (xs_set (xe_tup (xa_cons (xe_fn fnv_tupleF (xav_cons (XE.v (xe_comp (XIy.i (xiy_seq (xe_var rfl))) (fun x49 => xc_nameY (xe_op opv_ixT (XE.v (xe_var rfl)) (XE.v (xe_fnx fnx_itxF (xa_cons (xe_var rfl) xa_nil))))))) xav_nil)) (xa_cons (xe_tup (xa_cons (xe_fn fnv_tupleF (xav_cons (XE.v (xe_var rfl)) xav_nil)) (xa_cons (xe_tup xa_nil) xa_nil))) xa_nil))) fun v62 => (xs_ifE (xb_or (xb_val (xe_opx opx_isnbT (xe_call (xa_cons (xe_var rfl) (xa_cons (xe_var rfl) xa_nil))) xe_c)) (xb_val (xe_op opv_neT (XE.v (xe_call (xa_cons (xe_var rfl) (xa_cons (xe_var rfl) xa_nil)))) (XE.v (xe_var rfl))))) (xs_assoc (xs_ret (g := Fl.rt) (fun _ => rfl) (XE.v xe_c))) (xs_skipseq (xs_skip rfl ⟨.inr rfl, .inr rfl, .inr rfl, .inr rfl, .inr rfl, .inr rfl, .inl rfl, .inl rfl, .inl rfl, .inl rfl, .inl rfl, .inl rfl, trivial⟩))))))) fun s37 => (xs_asg (xe_call (xa_cons (xe_var rfl) xa_nil)) xg_2 fun b78 => (xs_seqR (g := fun v => v) (fun _ => rfl) (xs_forR (σ := Unit) (P := fun s79 => [some a, some (.ref pa), some v2, some b78.1, some b6.2, some v35, none, none, none, some b78.2, none, none]) (C := fun s79 => []) (s0 := ()) (xiy_seq (xe_lst (xa_cons (xe_tup (xa_cons xe_c (xa_cons xe_c xa_nil))) (xa_cons (xe_tup (xa_cons xe_c (xa_cons xe_c xa_nil))) (xa_cons (xe_tup (xa_cons xe_c (xa_cons xe_c xa_nil))) (xa_cons (xe_tup (xa_cons xe_c (xa_cons xe_c xa_nil))) (xa_cons (xe_tup (xa_cons xe_c (xa_cons xe_c xa_nil))) (xa_cons (xe_tup (xa_cons xe_c (xa_cons xe_c xa_nil))) (xa_cons (xe_tup (xa_cons xe_c (xa_cons xe_c xa_nil))) xa_nil))))))))) ⟨.inr rfl, .inr rfl, .inr rfl, .inr rfl, .inr rfl, .inr rfl, .inl rfl, .inl rfl, .inl rfl, .inr rfl, .inl rfl, .inl rfl, trivial⟩ rfl (fun x101 s79 => xf_un xg_2 fun b102 => (xs_set (xe_tup (xa_cons (xe_fn fnv_tupleF (xav_cons (XE.v (xe_comp (XIy.i (xiy_seq (xe_var rfl))) (fun x103 => xc_nameY (xe_op opv_ixT (XE.v (xe_var rfl)) (XE.v (xe_fnx fnx_itxF (xa_cons (xe_var rfl) xa_nil))))))) xav_nil)) (xa_cons (xe_var rfl) xa_nil))) fun v113 => (xs_ifE (xb_or (xb_val (xe_opx opx_isnbT (xe_call (xa_cons (xe_var rfl) (xa_cons (xe_var rfl) xa_nil))) xe_c)) (xb_val (xe_op opv_neT (XE.v (xe_call (xa_cons (xe_var rfl) (xa_cons (xe_var rfl) xa_nil)))) (XE.v (xe_var rfl))))) (xs_assoc (xs_ret (g := Fl.rt) (fun _ => rfl) (XE.v xe_c))) (xs_skipseq (xs_skip rfl ⟨.inr rfl, .inr rfl, .inr rfl, .inr rfl, .inr rfl, .inr rfl, .inl rfl, .inl rfl, .inl rfl, .inr rfl, .inl rfl, .inl rfl, trivial⟩)))))) fun s79 => (xs_ret (g := fun v => v) (fun _ => rfl) (XE.v xe_c)))))))))
end
end K45
namespace K45
open PySem PySem.Spec PyProof.Rows TL
open L2 hiding putF
local macro_rules | `(tactic| simp_arith [$ts,*] $[$loc]?) => `(tactic| simp (implicitDefEqProofs := false) only [pu_bd, bd_bd, bd_pu, ofO_some, ofO_none, ofO_ite, stuck_bd, thr_bd, lft_pu, lft_bd, lft_gdc, lft_ite, lft_stuck, tb_bl, intO_int, itemsM_tup, itemsM_lst, itemsM_str, gd_c, gdc_T, compG_map, compA_pu, compA_gd, compA_if, compA_gdif, forM_map, forR_map, un2_tup, un3_tup, un4_tup, sum_inl, sum_inr, isStr_str, isTup_tup, joinF_l, joinF_t, strsOf_nil, strsOf_cons, strsOf_map, Option.bind_some, Option.bind_none, addT_int, addT_str, addT_lst, addT_tup, subT_int, mulT2_int, mulT2_str, fdivT_int, modT_int, powT_int, negT_int, eqT_int, neT_int, eqT_str, neT_str, eqT_bl, neT_bl, ltT_int, gtT_int, leT_int, geT_int, ixT_lst, ixT_tup, atI_0, atI_1, atI_2, atI_3, lenF_lst, lenF_tup, lenF_str, absF_int, intF_int, intF_bl, max2F_int, min2F_int, strF_int, isi_str, isi_int, isi_tup, isi_lst, slT_lst, slT_tup, slT_str, tupleF_lst, tupleF_tup, listF_lst, listF_tup, inT_strs, ninT_strs, inT_strsT, ninT_strsT, ite_pu, decide_eq_true_eq, Bool.not_eq_true', if_true, if_false, Bool.false_eq_true, Bool.true_eq_false, Option.map_some, Option.map_none, isbT_bl, isnbT_bl, $ts,*] $[$loc]?)
local macro_rules | `(tactic| simp_arith! [$ts,*] $[$loc]?) => `(tactic| simp (implicitDefEqProofs := false) only [pu_bd, bd_bd, bd_pu, ofO_some, ofO_none, ofO_ite, stuck_bd, thr_bd, lft_pu, lft_bd, lft_gdc, lft_ite, lft_stuck, tb_bl, intO_int, itemsM_tup, itemsM_lst, itemsM_str, gd_c, gdc_T, compG_map, compA_pu, compA_gd, compA_if, compA_gdif, forM_map, forR_map, un2_tup, un3_tup, un4_tup, sum_inl, sum_inr, isStr_str, isTup_tup, joinF_l, joinF_t, strsOf_nil, strsOf_cons, strsOf_map, Option.bind_some, Option.bind_none, addT_int, addT_str, addT_lst, addT_tup, subT_int, mulT2_int, mulT2_str, fdivT_int, modT_int, powT_int, negT_int, eqT_int, neT_int, eqT_str, neT_str, eqT_bl, neT_bl, ltT_int, gtT_int, leT_int, geT_int, ixT_lst, ixT_tup, atI_0, atI_1, atI_2, atI_3, lenF_lst, lenF_tup, lenF_str, absF_int, intF_int, intF_bl, max2F_int, min2F_int, strF_int, isi_str, isi_int, isi_tup, isi_lst, slT_lst, slT_tup, slT_str, tupleF_lst, tupleF_tup, listF_lst, listF_tup, inT_strs, ninT_strs, inT_strsT, ninT_strsT, ite_pu, decide_eq_true_eq, Bool.not_eq_true', if_true, if_false, Bool.false_eq_true, Bool.true_eq_false, Option.map_some, Option.map_none, isbT_bl, isnbT_bl, kis_non_non, kis_non_bool, kis_non_int, kis_non_str, kis_non_tup, kis_non_lst, kis_non_dct, kis_bool_non, kis_bool_bool, kis_bool_int, kis_bool_str, kis_bool_tup, kis_bool_lst, kis_bool_dct, kis_int_non, kis_int_bool, kis_int_int, kis_int_str, kis_int_tup, kis_int_lst, kis_int_dct, kis_str_non, kis_str_bool, kis_str_int, kis_str_str, kis_str_tup, kis_str_lst, kis_str_dct, kis_tup_non, kis_tup_bool, kis_tup_int, kis_tup_str, kis_tup_tup, kis_tup_lst, kis_tup_dct, kis_lst_non, kis_lst_bool, kis_lst_int, kis_lst_str, kis_lst_tup, kis_lst_lst, kis_lst_dct, kis_dct_non, kis_dct_bool, kis_dct_int, kis_dct_str, kis_dct_tup, kis_dct_lst, kis_dct_dct, isi_bl, isi_non, List.any_cons, List.any_nil, Bool.or_false, Bool.or_true, Bool.false_or, Bool.true_or, Bool.not_true, Bool.not_false, beq_self_eq_true, bne_self_eq_false, $ts,*] $[$loc]?)
local macro_rules | `(tactic| simp_all_arith [$ts,*]) => `(tactic| simp (implicitDefEqProofs := false) only [pu_bd, bd_bd, bd_pu, ofO_some, ofO_none, ofO_ite, stuck_bd, thr_bd, lft_pu, lft_bd, lft_gdc, lft_ite, lft_stuck, tb_bl, intO_int, itemsM_tup, itemsM_lst, itemsM_str, gd_c, gdc_T, compG_map, compA_pu, compA_gd, compA_if, compA_gdif, forM_map, forR_map, un2_tup, un3_tup, un4_tup, sum_inl, sum_inr, isStr_str, isTup_tup, joinF_l, joinF_t, strsOf_nil, strsOf_cons, strsOf_map, Option.bind_some, Option.bind_none, addT_int, addT_str, addT_lst, addT_tup, subT_int, mulT2_int, mulT2_str, fdivT_int, modT_int, powT_int, negT_int, eqT_int, neT_int, eqT_str, neT_str, eqT_bl, neT_bl, ltT_int, gtT_int, leT_int, geT_int, ixT_lst, ixT_tup, atI_0, atI_1, atI_2, atI_3, lenF_lst, lenF_tup, lenF_str, absF_int, intF_int, intF_bl, max2F_int, min2F_int, strF_int, isi_str, isi_int, isi_tup, isi_lst, slT_lst, slT_tup, slT_str, tupleF_lst, tupleF_tup, listF_lst, listF_tup, inT_strs, ninT_strs, inT_strsT, ninT_strsT, ite_pu, decide_eq_true_eq, Bool.not_eq_true', if_true, if_false, Bool.false_eq_true, Bool.true_eq_false, Option.map_some, Option.map_none, isbT_bl, isnbT_bl, extM_l, appM_c, compA_ifo, fkT, kinT, famT, List.cons_append, List.nil_append, $ts,*])
theorem names_of_eq {B : Bk} (h : BkOk B) : m_names_of (bkT B) = pu (.lst (B.names.map T.str)) := by
  have hs := sizeLine_eq
  have := h.lf
  unfold m_names_of bkT
  simp_all_arith []
  refine gdc_e (by omega) ?_
  unfold Bk.names
  rw [List.map_map]
  rfl
/-- distinct letters -/
theorem ltr_at {i : Nat} (h : i < 26) : lowers[i]? = some (lowers.getD i 0) := by
  rw [List.getD_eq_getElem?_getD, List.getElem?_eq_getElem (by rw [lowers_len]; exact h)]
  rfl
def ltr (b s k : Nat) : Sg := lowers.getD ((b + s * k) % 26) 0
theorem ltr_in {b s k : Nat} : ltr b s k ∈ lowers := List.mem_of_getElem? (ltr_at (Nat.mod_lt _ (by omega)))
theorem ltr_inj {b s i j : Nat} (hs : s = 7 ∨ s = 5 ∨ s = 11 ∨ s = 17) (hi : i < 26) (hj : j < 26) (e : ltr b s i = ltr b s j) : i = j := by
  have nd : lowers.Nodup := by decide +kernel
  have h1 := ltr_at (i := (b + s * i) % 26) (Nat.mod_lt _ (by omega))
  have h2 := ltr_at (i := (b + s * j) % 26) (Nat.mod_lt _ (by omega))
  have e' : lowers.getD ((b + s * i) % 26) 0 = lowers.getD ((b + s * j) % 26) 0 := e
  rw [e'] at h1
  have := (List.getElem?_inj (by rw [lowers_len]; exact Nat.mod_lt _ (by omega)) nd).mp (h1.trans h2.symm)
  rcases hs with rfl | rfl | rfl | rfl <;> omega
/-- the k-th name -/
def drwN (w : Nm) (at_ : Nat) (b s k : Nat) : Nm := w.take at_ ++ [ltr b s k] ++ w.drop (at_ + 1)
theorem drwN_len {w : Nm} {a b s k : Nat} (h : a < w.length) : (drwN w a b s k).length = w.length := by
  unfold drwN
  simp
  omega
theorem drwN_at {w : Nm} {a b s k : Nat} (h : a < w.length) : (drwN w a b s k)[a]? = some (ltr b s k) := by
  unfold drwN
  rw [List.append_assoc, List.getElem?_append_right (by rw [List.length_take]; omega), List.length_take, Nat.min_eq_left (by omega), Nat.sub_self]
  rfl
theorem drwN_ok {w : Nm} {a b s k : Nat} (h : a < w.length) (ok : NameOk w) : NameOk (drwN w a b s k) := by
  obtain ⟨h1, h2, h3⟩ := ok
  have l := drwN_len (b := b) (s := s) (k := k) h
  refine ⟨by omega, by omega, fun c hc => ?_⟩
  unfold drwN at hc
  rcases List.mem_append.mp hc with z | z
  · rcases List.mem_append.mp z with z | z
    · exact h3 c (List.mem_of_mem_take z)
    · rw [List.mem_singleton.mp z]; exact ltr_in
  · exact h3 c (List.mem_of_mem_drop z)
theorem take_ok {x : Nm} {n : Nat} (ok : NameOk x) (h : 1 ≤ n) : NameOk (x.take n) := by
  obtain ⟨h1, h2, h3⟩ := ok
  exact ⟨by rw [List.length_take]; omega, by rw [List.length_take]; omega, fun c hc => h3 c (List.mem_of_mem_take hc)⟩
theorem letters2_ht {size : Int} (h0 : 1 ≤ size) (h1 : size ≤ 8) : HT 8 (compA (fun _ : Nat => bd (m_draw (.int 26)) fun a => bd (ofO (ixT emp (.str lowers) a)) fun v => pu (some v)) (List.range size.toNat)) fun ys => ∃ cs : List Sg, ys = (cs.map fun c => [c]).map T.str ∧ NameOk cs ∧ (cs.length : Int) = size := by
  refine HT.le ((HT.compN 1 8 (I := fun rest acc => ∃ cs : List Sg, acc = (cs.map fun c => [c]).map T.str ∧ (cs.length : Int) + rest.length = size ∧ ∀ c ∈ cs, c ∈ lowers) ?_ ?_ ?_).mono ?_) (by omega)
  · rw [List.length_range]; omega
  · exact ⟨[], rfl, by simp; omega, nofun⟩
  · rintro x rest acc ⟨cs, rfl, hl, hm⟩
    refine HT.drawB (by omega) (by omega) fun d d0 d1 => ?_
    obtain ⟨c, hc, e⟩ := at_ones (x := lowers) d0 (by rw [lowers_len]; omega) (by rw [lowers_len, sizeLine_eq]; omega)
    rw [e]
    refine HT.pu ⟨cs ++ [c], by simp [Option.toList], ?_, fun z hz => ?_⟩
    · rw [List.length_append]; simp at hl ⊢; omega
    · rcases List.mem_append.mp hz with k | k
      · exact hm z k
      · rw [List.mem_singleton.mp k]; exact hc
  · rintro ys ⟨cs, rfl, hl, hm⟩
    simp at hl
    exact ⟨cs, rfl, ⟨by omega, by omega, hm⟩, by omega⟩
theorem fm26 (n : Nat) : ((n : Int)).fmod 26 = ((n % 26 : Nat) : Int) := by
  rw [Int.fmod_eq_emod_of_nonneg _ (by decide)]
  omega
theorem drawn_names_ht {many : Nat} (hm : many ≤ 20) : HT 100 (m_law_drawn_names (.int many)) fun v => ∃ xs : List Nm, v = .lst (xs.map T.str) ∧ xs.Nodup ∧ (∀ x ∈ xs, NameOk x) ∧ xs.length = many := by
  have hs := sizeLine_eq
  have e0 : q "" = [] := by decide +kernel
  have el : q "abcdefghijklmnopqrstuvwxyz" = lowers := rfl
  have l26 := lowers_len
  unfold m_law_drawn_names
  simp_arith [el, e0]
  refine HT.le (HT.drawB (d := 90) (by omega) (by omega) fun b b0 b1 => ?_) (by omega)
  refine HT.le (HT.drawB (d := 80) (by omega) (by omega) fun z z0 z1 => ?_) (by omega)
  simp_arith []
  refine HT.le (HT.drawB (d := 70) (by omega) (by omega) fun a a0 a1 => ?_) (by omega)
  simp_arith []
  rw [rng1_int (by omega), pu_bd, compG_map, gdc_b (by rw [List.length_range]; omega)]
  refine HT.le (HT.bd (d1 := 8) (d2 := 50) (letters2_ht (size := 1 + z) (by omega) (by omega)) ?_) (by omega)
  rintro ys ⟨w, rfl, okw, lw⟩
  have js : joinSz [] (w.map fun c => [c]) = true := joinSz_ok (k := 1) (fun x hx => by obtain ⟨c, _, rfl⟩ := List.mem_map.mp hx; simp) (by have := okw.2.1; simp; omega)
  rw [strsOf_map, Option.bind_some, if_pos js, ofO_some, pu_bd, jn_ones]
  refine HT.le (HT.drawB (d := 40) (by omega) (by omega) fun j j0 j1 => ?_) (by omega)
  obtain ⟨s, es, hS⟩ : ∃ s : Nat, ixT emp (.lst [.int 7, .int 5, .int 11, .int 17]) (.int j) = some (.int s) ∧ (s = 7 ∨ s = 5 ∨ s = 11 ∨ s = 17) := by
    rcases (by omega : j = 0 ∨ j = 1 ∨ j = 2 ∨ j = 3) with rfl | rfl | rfl | rfl
    · exact ⟨7, rfl, by simp⟩
    · exact ⟨5, rfl, by simp⟩
    · exact ⟨11, rfl, by simp⟩
    · exact ⟨17, rfl, by simp⟩
  obtain ⟨na, rfl⟩ := Int.eq_ofNat_of_zero_le a0
  obtain ⟨nb, rfl⟩ := Int.eq_ofNat_of_zero_le b0
  rw [es, ofO_some, pu_bd, rng1_int (by omega), pu_bd, forM_map]
  have na1 : na < w.length := by omega
  have lw8 := okw.2.1
  have s17 : s ≤ 17 := by omega
  have one : ∀ (k : Nat) (ys : List Nm), k < 20 → ys.length ≤ 20 → (bd (ofO (mulT2 emp (.int s) (.int (0 + (k : Int))))) fun a_5 => bd (ofO (addT emp (T.int nb) a_5)) fun a_6 => bd (ofO (modT emp a_6 (T.int 26))) fun a_7 => bd (ofO (ixT emp (T.str lowers) a_7)) fun v46 => bd (ofO (slT emp (.str w) none (some (na : Int)))) fun a_8 => bd (ofO (addT emp a_8 v46)) fun a_9 => bd (ofO (slT emp (.str w) (some ((na : Int) + 1)) none)) fun a => bd (ofO (addT emp a_9 a)) fun v49 => appM (κ := Cell) (ys.map T.str) v49) = pu ((ys ++ [drwN w na nb s k]).map T.str) := fun k ys hk hy => by
    have ml : mulI (s : Int) (0 + (k : Int)) = true := mulI_b (by omega) (by omega)
    have md : ((nb : Int) + (s : Int) * (0 + (k : Int))) = ((nb + s * k : Nat) : Int) := by push_cast; rw [Int.zero_add]
    have mo : modI ((nb : Int) + (s : Int) * (0 + (k : Int))) 26 = true := rfl
    have ix : ixT emp (.str lowers) (.int (((nb + s * k) % 26 : Nat) : Int)) = some (.str [ltr nb s k]) := by
      rw [ixT_str, if_pos (by omega), atI_natE, ltr_at (Nat.mod_lt _ (by omega))]
      rfl
    have c2 : ((na : Int) + 1) = ((na + 1 : Nat) : Int) := by omega
    rw [mulT2_int, if_pos ml, ofO_some, pu_bd, addT_int, ofO_some, pu_bd, modT_int, if_pos mo, ofO_some, pu_bd, md, fm26, ix, ofO_some, pu_bd, slT_str, if_pos (by omega), ofO_some, pu_bd, cut_to, addT_str, if_pos (by rw [List.length_take]; simp; omega), ofO_some, pu_bd, c2, slT_str, if_pos (by omega), ofO_some, pu_bd, cut_from, addT_str,
      if_pos (by simp; omega), ofO_some, pu_bd, appM_c, gdc_b (by rw [List.length_map]; omega)]
    rw [List.map_append]
    rfl
  refine HT.le (HT.bd (d1 := 0) (d2 := 10) (P := fun s' => s' = ((List.range many).map (drwN w na nb s)).map T.str) ?_ ?_) (by omega)
  · refine (HT.le (HT.forN 0 20 (I := fun rest s' => ∃ i : Nat, rest = List.range' i (many - i) ∧ i ≤ many ∧ s' = ((List.range i).map (drwN w na nb s)).map T.str) (by simpa using hm) ⟨0, by rw [List.range_eq_range', Nat.sub_zero]; simp, by omega, rfl⟩ ?_) (by omega)).mono ?_
    · rintro x rest s' ⟨i, er, hi, rfl⟩
      obtain ⟨rfl, er, hi'⟩ : x = i ∧ rest = List.range' (i + 1) (many - (i + 1)) ∧ i < many := by
        cases q : many - i with
        | zero => rw [q] at er; cases er
        | succ n =>
          rw [q, List.range'_succ] at er
          injection er with e1 e2
          refine ⟨e1, ?_, by omega⟩
          rw [e2]
          congr 1
          omega
      rw [one x _ (by omega) (by simp; omega)]
      exact HT.pu ⟨x + 1, er, by omega, by simp [List.range_succ]⟩
    · rintro s' ⟨i, er, hi, rfl⟩
      have : i = many := by
        cases q : many - i with
        | zero => omega
        | succ n => rw [q] at er; cases er
      rw [this]
  rintro s' rfl
  have nd : ∀ (cut : Nat → Nat), (∀ k, na < cut k) → ((List.range many).map fun k => (drwN w na nb s k).take (cut k)).Nodup := fun cut hc => by
    rw [List.nodup_iff_pairwise_ne, List.pairwise_map]
    refine List.Pairwise.imp_of_mem (fun {a b} ha hb hab e => ?_) List.pairwise_lt_range
    have ha := List.mem_range.mp ha
    have hb := List.mem_range.mp hb
    have e2 := congrArg (fun l : Nm => l[na]?) e
    simp only [List.getElem?_take, hc, if_true, drwN_at na1] at e2
    have := ltr_inj hS (by omega) (by omega) (Option.some.inj e2)
    omega
  have all : ∀ x ∈ (List.range many).map (drwN w na nb s), NameOk x := fun x hx => by
    obtain ⟨k, _, rfl⟩ := List.mem_map.mp hx
    exact drwN_ok na1 okw
  refine HT.le (HT.bd (d1 := 1) (d2 := 0) (P := fun _ => True) ?_ fun v _ => ?_) (by omega)
  · refine HT.ite (fun _ => HT.drawB (d := 0) (by omega) (by omega) fun i i0 i1 => ?_) fun _ => HT.pu trivial
    simp_arith []
    exact HT.pu trivial
  have last : HT 0 (pu (T.lst (((List.range many).map (drwN w na nb s)).map T.str)) : PM Cell T) fun v => ∃ xs : List Nm, v = .lst (xs.map T.str) ∧ xs.Nodup ∧ (∀ x ∈ xs, NameOk x) ∧ xs.length = many := by
    refine HT.pu ⟨_, rfl, ?_, all, by simp⟩
    have := nd (fun k => 100) fun k => by omega
    rwa [List.map_congr_left (g := drwN w na nb s) fun k _ => List.take_of_length_le (by rw [drwN_len na1]; omega)] at this
  refine HT.ite (fun _ => ?_) fun _ => last
  have em : enumM (κ := Cell) (.lst (((List.range many).map (drwN w na nb s)).map T.str)) = pu ((List.range many).map fun k : Nat => T.tup [.int (k : Int), .str (drwN w na nb s k)]) := by
    show pu (enumL _) = _
    rw [enumL_map]
    congr 1
    apply List.ext_getElem (by simp)
    intro i h1 h2
    simp
  rw [em, pu_bd, compG_map, gdc_b (by rw [List.length_range]; omega)]
  rw [compA_congr (g := fun k : Nat => pu (some (T.str ((drwN w na nb s k).take (if ((w.length : Int) - ((k % 3 : Nat) : Int)) > (na : Int) + 1 then ((w.length : Int) - ((k % 3 : Nat) : Int)) else (na : Int) + 1).toNat)))) fun k hk => ?_]
  rotate_left
  · have hk := List.mem_range.mp hk
    have u : un2 (T.tup [.int (k : Int), .str (drwN w na nb s k)]) = some (.int (k : Int), .str (drwN w na nb s k)) := rfl
    have f3 : ((k : Int)).fmod 3 = ((k % 3 : Nat) : Int) := by
      rw [Int.fmod_eq_emod_of_nonneg _ (by decide)]
      omega
    have mo : modI (k : Int) 3 = true := rfl
    rw [u, ofO_some, pu_bd]
    dsimp only
    rw [modT_int, if_pos mo, ofO_some, pu_bd, f3]
    simp_arith []
    have cc : (if 1 + z - ((k % 3 : Nat) : Int) > (na : Int) + 1 then 1 + z - ((k % 3 : Nat) : Int) else (na : Int) + 1) = (((if ((w.length : Int) - ((k % 3 : Nat) : Int)) > (na : Int) + 1 then ((w.length : Int) - ((k % 3 : Nat) : Int)) else (na : Int) + 1).toNat : Nat) : Int) := by
      rw [lw]
      split <;> omega
    rw [gdc_b (by rw [drwN_len na1]; omega), cc, cut_to]
  rw [compA_pu, pu_bd]
  refine HT.pu ⟨(List.range many).map fun k : Nat => (drwN w na nb s k).take (if ((w.length : Int) - ((k % 3 : Nat) : Int)) > (na : Int) + 1 then ((w.length : Int) - ((k % 3 : Nat) : Int)) else (na : Int) + 1).toNat, by rw [List.map_map]; rfl, nd _ fun k => ?_, fun x hx => ?_, by simp⟩
  · split <;> omega
  · obtain ⟨k, _, rfl⟩ := List.mem_map.mp hx
    exact take_ok (drwN_ok na1 okw) (by split <;> omega)
abbrev Stp := Nm × Nm × Nm
def stT (s : Stp) : T := .tup [.str s.1, .str s.2.1, .str s.2.2]
def wC : Nm := q "child"
def wU : Nm := q "union"
def unS (f : List Nm) : List Stp := match f with
  | [a, b] => [(wU, a, b), (wU, b, a)]
  | _ => []
def stepsB (B : Bk) : List Stp := (B.births ++ B.adopts).flatMap (fun b => b.2.map fun p => (wC, b.1, p)) ++ B.unions.flatMap unS
theorem mem_steps {B : Bk} (h : BkOk B) {w a b : Nm} : ((w, a, b) : Stp) ∈ stepsB B ↔ (w = wC ∧ ∃ f, (a, f) ∈ B.births ++ B.adopts ∧ b ∈ f) ∨ (w = wU ∧ a ≠ b ∧ ∃ f ∈ B.unions, a ∈ f ∧ b ∈ f) := by
  unfold stepsB
  rw [List.mem_append]
  refine or_congr ?_ ?_
  · rw [List.mem_flatMap]
    constructor
    · rintro ⟨c, hc, hm⟩
      obtain ⟨p, hp, e⟩ := List.mem_map.mp hm
      injection e with e1 e
      injection e with e2 e3
      exact ⟨e1.symm, c.2, by rw [← e2]; exact hc, e3 ▸ hp⟩
    · rintro ⟨rfl, f, hf, hb⟩
      exact ⟨(a, f), hf, List.mem_map.mpr ⟨b, hb, rfl⟩⟩
  · rw [List.mem_flatMap]
    constructor
    · rintro ⟨f, hf, hm⟩
      have nd := (h.un f hf).nd
      unfold unS at hm
      split at hm
      · rename_i x y
        have ne : x ≠ y := by
          have := (List.nodup_cons.mp nd).1
          exact fun e => this (by rw [e]; exact .head _)
        rcases List.mem_cons.mp hm with e | hm
        · injection e with e1 e
          injection e with e2 e3
          subst e2 e3
          exact ⟨e1, ne, _, hf, .head _, .tail _ (.head _)⟩
        · have e := List.mem_singleton.mp hm
          injection e with e1 e
          injection e with e2 e3
          subst e2 e3
          exact ⟨e1, fun z => ne z.symm, _, hf, .tail _ (.head _), .head _⟩
      · cases hm
    · rintro ⟨rfl, ne, f, hf, ha, hb⟩
      refine ⟨f, hf, ?_⟩
      have hi := (h.un f hf).hi
      match f, hi, ha, hb with
      | [], _, ha, _ => cases ha
      | [x], _, ha, hb =>
        rw [List.mem_singleton] at ha hb
        exact absurd (ha.trans hb.symm) ne
      | [x, y], _, ha, hb =>
        show _ ∈ [(wU, x, y), (wU, y, x)]
        rcases List.mem_cons.mp ha with rfl | ha
        · rcases List.mem_cons.mp hb with rfl | hb
          · exact absurd rfl ne
          · rw [List.mem_singleton] at hb
            subst hb
            exact .head _
        · rw [List.mem_singleton] at ha
          subst ha
          rcases List.mem_cons.mp hb with rfl | hb
          · exact .tail _ (.head _)
          · rw [List.mem_singleton] at hb
            exact absurd hb.symm ne
      | _ :: _ :: _ :: _, hi, _, _ => simp at hi
theorem steps_names {B : Bk} (h : BkOk B) {w a b : Nm} (m : ((w, a, b) : Stp) ∈ stepsB B) : a ∈ B.names ∧ b ∈ B.names ∧ (w = wC ∨ w = wU) := by
  have un : ∀ f ∈ B.unions, ∀ x ∈ f, x ∈ B.names := fun f hf => (h.un f hf).mem
  rcases (mem_steps h).mp m with ⟨e, f, hf, hb⟩ | ⟨e, _, f, hf, ha, hb⟩
  · have k : KinOk B.names B.unions (a, f) := by
      rcases List.mem_append.mp hf with z | z
      · exact h.bi _ z
      · exact h.ad _ z
    exact ⟨k.kid, un f k.fam b hb, .inl e⟩
  · exact ⟨un f hf a ha, un f hf b hb, .inr e⟩
def linkP (p : Stp × Stp) : Bool := decide (p.1.2.2 = p.2.2.1)
def isCh (s : Stp) : Bool := decide (s.1 = wC)
/-- each one's end the next one's begin -/
def linkA (ss : List Stp) : Bool := (ss.zip (ss.drop 1 ++ ss.take 1)).all linkP
def kinsB (B : Bk) : List (Nm × List Nm) := B.births ++ B.adopts
def fromB (B : Bk) (n : Nm) : List Stp := ((kinsB B).filter fun b => decide (b.1 = n)).flatMap (fun b => b.2.map fun p => (wC, n, p)) ++ (B.unions.filter fun f => decide (n ∈ f)).flatMap fun f => (f.filter fun x => decide (x ≠ n)).map fun x => (wU, n, x)
theorem mem_from {B : Bk} (h : BkOk B) {n : Nm} {s : Stp} : s ∈ fromB B n ↔ s.2.1 = n ∧ s ∈ stepsB B := by
  obtain ⟨w, a, b⟩ := s
  rw [mem_steps h]
  unfold fromB kinsB
  rw [List.mem_append]
  constructor
  · rintro (z | z)
    · obtain ⟨k, hk, hm⟩ := List.mem_flatMap.mp z
      obtain ⟨h1, h2⟩ := List.mem_filter.mp hk
      obtain ⟨p, hp, e⟩ := List.mem_map.mp hm
      injection e with e1 e
      injection e with e2 e3
      have e4 := of_decide_eq_true h2
      exact ⟨e2.symm, .inl ⟨e1.symm, k.2, by rw [← e2, ← e4]; exact h1, e3 ▸ hp⟩⟩
    · obtain ⟨f, hf, hm⟩ := List.mem_flatMap.mp z
      obtain ⟨h1, h2⟩ := List.mem_filter.mp hf
      obtain ⟨x, hx, e⟩ := List.mem_map.mp hm
      obtain ⟨x1, x2⟩ := List.mem_filter.mp hx
      injection e with e1 e
      injection e with e2 e3
      have n2 := of_decide_eq_true h2
      have x3 := of_decide_eq_true x2
      refine ⟨e2.symm, .inr ⟨e1.symm, ?_, f, h1, ?_, e3 ▸ x1⟩⟩
      · rw [← e2, ← e3]
        exact fun q => x3 q.symm
      · rw [← e2]
        exact n2
  · rintro ⟨e, (⟨rfl, f, hf, hb⟩ | ⟨rfl, ne, f, hf, ha, hb⟩)⟩
    · have e : a = n := e
      subst e
      exact .inl (List.mem_flatMap.mpr ⟨(a, f), List.mem_filter.mpr ⟨hf, decide_eq_true rfl⟩, List.mem_map.mpr ⟨b, hb, rfl⟩⟩)
    · have e : a = n := e
      subst e
      exact .inr (List.mem_flatMap.mpr ⟨f, List.mem_filter.mpr ⟨hf, decide_eq_true ha⟩, List.mem_map.mpr ⟨b, List.mem_filter.mpr ⟨hb, decide_eq_true fun q => ne q.symm⟩, rfl⟩⟩)
/-- a loop that puts things behind a list -/
theorem ext_loop {α κ : Type} {f : α → List T → PM κ (List T)} {g : α → List Stp} : ∀ (xs : List α) (ss : List Stp), (∀ x ∈ xs, ∀ ts : List T, ts.length ≤ 1000 → f x ts = pu (ts ++ (g x).map stT)) → (∀ x ∈ xs, (g x).length ≤ 2) → ss.length + 2 * xs.length ≤ 1000 → forA f xs (ss.map stT) = pu ((ss ++ xs.flatMap g).map stT)
  | [], ss, _, _, _ => by simp [forA]
  | x :: xs, ss, h, l2, l => by
    rw [List.length_cons] at l
    have lx := l2 x (.head _)
    show bd (f x _) _ = _
    rw [h x (.head _) _ (by rw [List.length_map]; omega), pu_bd, ← List.map_append, ext_loop xs _ (fun y hy => h y (.tail _ hy)) (fun y hy => l2 y (.tail _ hy)) (by rw [List.length_append]; omega), List.flatMap_cons, List.append_assoc]
theorem flat_if {α β : Type} {p : α → Bool} {g : α → List β} : ∀ xs : List α, (xs.flatMap fun x => if p x = true then g x else []) = (xs.filter p).flatMap g
  | [] => rfl
  | x :: xs => by
    rw [List.flatMap_cons, flat_if xs, List.filter_cons]
    split
    · rw [List.flatMap_cons]
    · rfl
theorem kins_fam {B : Bk} (h : BkOk B) : ∀ b ∈ kinsB B, FamOk B.names b.2 := fun b hb => by
  rcases List.mem_append.mp hb with z | z
  · exact h.un _ (h.bi b z).fam
  · exact h.un _ (h.ad b z).fam
theorem steps_from_eq {B : Bk} (h : BkOk B) (n : Nm) : m_steps_from (bkT B) (.str n) = pu (.lst ((fromB B n).map stT)) := by
  have hs := sizeLine_eq
  have b1 : ixT emp (bkT B) (.int 1) = some (.tup (B.unions.map famT)) := rfl
  have b2 : ixT emp (bkT B) (.int 2) = some (.tup (B.births.map kinT)) := rfl
  have b3 : ixT emp (bkT B) (.int 3) = some (.tup (B.adopts.map kinT)) := rfl
  have lb := h.lb
  have la := h.la
  have lu := h.lu
  have kf := kins_fam h
  have u : ∀ k : Nm × List Nm, un2 (kinT k) = some (.str k.1, famT k.2) := fun _ => rfl
  have inf : ∀ (x : Nm) (f : List Nm), inT emp (.str x) (famT f) = some (.bl (decide (x ∈ f))) := fun _ _ => inT_strsT
  have it : ∀ f : List Nm, itemsM (κ := Unit) (famT f) = pu (f.map T.str) := fun _ => rfl
  unfold m_steps_from
  simp_arith [b1, b2, b3]
  rw [gdc_b (by rw [List.length_map, List.length_map]; omega), ← List.map_append]
  simp_arith [u, it, inf]
  rw [show ([] : List T) = ([] : List Stp).map stT from rfl, ext_loop (g := fun b => if decide (b.1 = n) = true then b.2.map (fun p => (wC, n, p)) else []) (B.births ++ B.adopts) [] (fun b hb ts lt => ?_) (fun b hb => ?_) (by rw [List.length_append]; simp; omega), flat_if, pu_bd, List.nil_append]
  rotate_left
  · have hi := (kf b hb).hi
    by_cases e : b.1 = n
    · rw [if_pos e, if_pos (decide_eq_true e), gdc_b (by omega)]
      simp_all_arith []
      rw [gdc_b (by rw [List.length_map]; omega), List.map_map]
      rfl
    · rw [if_neg e, if_neg (by simpa using e), List.map_nil, List.append_nil]
  · have hi := (kf b hb).hi
    split
    · rw [List.length_map]; exact hi
    · simp
  have l1 : (((B.births ++ B.adopts).filter fun b => decide (b.1 = n)).flatMap fun b => b.2.map fun p => (wC, n, p)).length ≤ 2 * 36 := by
    have g : ∀ bs : List (Nm × List Nm), (∀ b ∈ bs, b.2.length ≤ 2) → (bs.flatMap fun b => b.2.map fun p => (wC, n, p)).length ≤ 2 * bs.length := fun bs => by
      induction bs with
      | nil => intro _; simp
      | cons b bs ih =>
        intro h
        rw [List.flatMap_cons, List.length_append, List.length_map, List.length_cons]
        have := h b (.head _)
        have := ih fun c hc => h c (.tail _ hc)
        omega
    have a := g ((B.births ++ B.adopts).filter fun b => decide (b.1 = n)) fun b hb => (kf b (List.mem_filter.mp hb).1).hi
    have c := List.length_filter_le (fun b => decide (b.1 = n)) (B.births ++ B.adopts)
    rw [List.length_append] at c
    omega
  rw [ext_loop (g := fun f => if decide (n ∈ f) = true then (f.filter fun x => decide (x ≠ n)).map (fun x => (wU, n, x)) else []) B.unions _ (fun f hf ts lt => ?_) (fun f hf => ?_) (by omega), flat_if, pu_bd]
  rotate_left
  · have hi := (h.un f hf).hi
    by_cases e : n ∈ f
    · have fl : (f.filter fun x => decide (x ≠ n)).length ≤ 2 := Nat.le_trans (List.length_filter_le _ _) hi
      rw [if_pos e, if_pos (decide_eq_true e), gdc_b (by omega)]
      have ef : f.filter (fun a => decide (decide (a = n) = false)) = f.filter fun x => decide (x ≠ n) := List.filter_congr fun x _ => by
        by_cases q : x = n <;> simp [q]
      simp_all_arith [compA_if, ef]
      rw [gdc_b (by rw [List.length_map]; omega), List.map_map]
      rfl
    · rw [if_neg e, if_neg (by simpa using e), List.map_nil, List.append_nil]
  · have hi := (h.un f hf).hi
    split
    · rw [List.length_map]; exact Nat.le_trans (List.length_filter_le _ _) hi
    · simp
  rfl
/-- a row of steps from somebody to somebody -/
def Pth (B : Bk) : Nm → Nm → List Stp → Prop
  | a, b, [] => a = b
  | a, b, s :: r => s ∈ stepsB B ∧ s.2.1 = a ∧ Pth B s.2.2 b r
theorem Pth.snoc {B : Bk} : ∀ {xs : List Stp} {a b : Nm} {s : Stp}, Pth B a b xs → s ∈ stepsB B → s.2.1 = b → Pth B a s.2.2 (xs ++ [s])
  | [], a, b, s, h, hs, e => by
    have h : a = b := h
    exact ⟨hs, e.trans h.symm, rfl⟩
  | x :: xs, a, b, s, ⟨h1, h2, h3⟩, hs, e => ⟨h1, h2, h3.snoc hs e⟩
def camE (row : List Nm) (F : Nm → List Stp) : List T × List T := (row.map T.str, row.map fun n => T.lst ((F n).map stT))
structure Bq (B : Bk) (a : Nm) (row : List Nm) (F : Nm → List Stp) : Prop where
  nd : row.Nodup
  sub : ∀ x ∈ row, x ∈ B.names
  pth : ∀ x ∈ row, Pth B a x (F x)
  len : ∀ x ∈ row, (F x).length < row.length
theorem Bq.small {B : Bk} (h : BkOk B) {a : Nm} {row : List Nm} {F : Nm → List Stp} (q : Bq B a row F) : row.length ≤ 16 := by
  have nl : B.names.length ≤ 16 := by unfold Bk.names; rw [List.length_map]; exact h.lf
  have := TL.nodup_le q.nd q.sub
  omega
theorem Bq.more {B : Bk} (h : BkOk B) {a : Nm} {row : List Nm} {F : Nm → List Stp} (q : Bq B a row F) {here : Nm} (hh : here ∈ row) {s : Stp} (hs : s ∈ stepsB B) (e : s.2.1 = here) (new : s.2.2 ∉ row) : Bq B a (row ++ [s.2.2]) fun n => if n = s.2.2 then F here ++ [s] else F n := by
  have old : ∀ x ∈ row, x ≠ s.2.2 := fun x hx z => new (z ▸ hx)
  refine ⟨List.nodup_append.mpr ⟨q.nd, by simp, fun x hx y hy => ?_⟩, fun x hx => ?_, fun x hx => ?_, fun x hx => ?_⟩
  · rw [List.mem_singleton.mp hy]
    exact old x hx
  · rcases List.mem_append.mp hx with z | z
    · exact q.sub x z
    · rw [List.mem_singleton.mp z]
      exact (steps_names h (w := s.1) (a := s.2.1) (b := s.2.2) hs).2.1
  · rcases List.mem_append.mp hx with z | z
    · rw [if_neg (old x z)]
      exact q.pth x z
    · have z := List.mem_singleton.mp z
      rw [if_pos z, z]
      exact (q.pth here hh).snoc hs e
  · rw [List.length_append, List.length_singleton]
    rcases List.mem_append.mp hx with z | z
    · rw [if_neg (old x z)]
      have := q.len x z
      omega
    · have z := List.mem_singleton.mp z
      rw [if_pos z, List.length_append, List.length_singleton]
      have := q.len here hh
      omega
theorem whM_inv {κ σ : Type} {c : σ → PM κ Bool} {b : σ → PM κ σ} (I : σ → Prop) (μ : σ → Nat) (h : ∀ s, I s → c s = pu false ∨ (0 < μ s ∧ c s = pu true ∧ ∃ s', b s = pu s' ∧ I s' ∧ μ s' < μ s)) : ∀ (n k : Nat) (s : σ), I s → μ s ≤ n → n < k → ∃ s', whM c b k s = pu s' ∧ I s' ∧ c s' = pu false
  | n, 0, s, _, _, hk => absurd hk (Nat.not_lt_zero _)
  | n, k + 1, s, hi, hm, hk => by
    unfold whM
    rcases h s hi with e | ⟨h0, e, s', e2, hi', hlt⟩
    · rw [e, pu_bd, if_neg (by simp)]
      exact ⟨s, rfl, hi, e⟩
    · cases n with
      | zero => omega
      | succ n =>
        rw [e, pu_bd, if_pos rfl, e2, pu_bd]
        exact whM_inv I μ h n k s' hi' (by omega) (by omega)
def NoPth (B : Bk) (a b : Nm) : Prop := ∀ xs, ¬ Pth B a b xs
theorem closed_reach {B : Bk} {row : List Nm} (h : ∀ x ∈ row, ∀ s ∈ stepsB B, s.2.1 = x → s.2.2 ∈ row) : ∀ {xs : List Stp} {a b : Nm}, a ∈ row → Pth B a b xs → b ∈ row
  | [], a, b, ha, e => by
    have e : a = b := e
    exact e ▸ ha
  | s :: r, a, b, ha, ⟨h1, h2, h3⟩ => closed_reach h (h a ha s h1 h2) h3
abbrev BtS := (List T × List T) × List T × T
def btC : BtS → PM Unit Bool := fun s10 => bd (ofO (ltT emp s10.snd.snd (T.int ↑s10.snd.fst.length))) tb
def btB (B : Bk) : BtS → PM Unit BtS := fun s10 =>
            bd (ofO (ixT emp (T.lst s10.snd.fst) s10.snd.snd)) fun a =>
              bd (lft (m_steps_from (bkT B) a)) fun a =>
                bd (itemsM a) fun a =>
                  bd
                    (TL.forM
                      (fun x19 (s14 : (List T × List T) × List T) =>
                        bd (ofO (ixT emp x19 (T.int 2))) fun a =>
                          bd (ofO (dninT emp a (T.dct false s14.fst.fst s14.fst.snd))) fun a =>
                            bd (tb a) fun v24 =>
                              if v24 = true then
                                bd (ofO (ixT emp (T.lst s14.snd) s10.snd.snd)) fun a =>
                                  bd (ofO (dgT emp (T.dct false s14.fst.fst s14.fst.snd) a)) fun a =>
                                    bd (ofO (addT emp a (T.lst [x19]))) fun v35 =>
                                      bd (ofO (ixT emp x19 (T.int 2))) fun v36 =>
                                        bd (dputM s14.fst v36 v35) fun ys34 =>
                                          bd (ofO (ixT emp x19 (T.int 2))) fun v38 =>
                                            bd (appM s14.snd v38) fun ys37 => pu (ys34, ys37)
                              else pu (s14.fst, s14.snd))
                      a (s10.fst, s10.snd.fst))
                    fun s14 => bd (ofO (addT emp s10.snd.snd (T.int 1))) fun v44 => pu (s14.fst, s14.snd, v44)
def btF (i : Nat) (x : Stp) (s14 : (List T × List T) × List T) : PM Unit ((List T × List T) × List T) :=
                        bd (ofO (ixT emp (stT x) (T.int 2))) fun a =>
                          bd (ofO (dninT emp a (T.dct false s14.fst.fst s14.fst.snd))) fun a =>
                            bd (tb a) fun v24 =>
                              if v24 = true then
                                bd (ofO (ixT emp (T.lst s14.snd) (.int i))) fun a =>
                                  bd (ofO (dgT emp (T.dct false s14.fst.fst s14.fst.snd) a)) fun a =>
                                    bd (ofO (addT emp a (T.lst [stT x]))) fun v35 =>
                                      bd (ofO (ixT emp (stT x) (T.int 2))) fun v36 =>
                                        bd (dputM s14.fst v36 v35) fun ys34 =>
                                          bd (ofO (ixT emp (stT x) (T.int 2))) fun v38 =>
                                            bd (appM s14.snd v38) fun ys37 => pu (ys34, ys37)
                              else pu (s14.fst, s14.snd)
def BtI (B : Bk) (a : Nm) (s : BtS) : Prop := ∃ (row : List Nm) (F : Nm → List Stp) (i : Nat), s = (camE row F, row.map T.str, .int i) ∧ Bq B a row F ∧ a ∈ row ∧ i ≤ row.length ∧ ∀ j < i, ∀ x, row[j]? = some x → ∀ s ∈ stepsB B, s.2.1 = x → s.2.2 ∈ row
def btM (s : BtS) : Nat := match s.2.2 with
  | .int i => (17 - i).toNat
  | _ => 0
theorem bt_step {B : Bk} (h : BkOk B) {a : Nm} : ∀ s, BtI B a s → btC s = pu false ∨ (0 < btM s ∧ btC s = pu true ∧ ∃ s', btB B s = pu s' ∧ BtI B a s' ∧ btM s' < btM s) := by
  have hs := sizeLine_eq
  have c2 : ∀ s : Stp, ixT emp (stT s) (.int 2) = some (.str s.2.2) := fun _ => rfl
  rintro s ⟨row, F, i, rfl, q, hb, hi, cl⟩
  have sm := q.small h
  have ec : btC (camE row F, row.map T.str, T.int i) = pu (decide (i < row.length)) := by
    unfold btC
    dsimp only
    rw [List.length_map, ltT_int, ofO_some, pu_bd, tb_bl]
    congr 1
    exact decide_eq_decide.mpr (by omega)
  by_cases hlt : i < row.length
  · right
    have hm : btM (camE row F, row.map T.str, T.int i) = 17 - i := by
      show (17 - (i : Int)).toNat = 17 - i
      omega
    refine ⟨by rw [hm]; omega, by rw [ec, decide_eq_true hlt], ?_⟩
    have hrow : row[i]? = some row[i] := List.getElem?_eq_getElem hlt
    have hmem : row[i] ∈ row := List.getElem_mem hlt
    have gi : L2.atI (row.map T.str) (i : Int) = some (.str row[i]) := by
      rw [atI_natE, List.getElem?_map, hrow]; rfl
    unfold btB
    dsimp only
    rw [ixT_lst, gi, ofO_some, pu_bd, steps_from_eq h, lft_pu, pu_bd, itemsM_lst, pu_bd, forM_map]
    have inner := forA_inv (κ := Unit) (f := btF i) (fun rest s => ∃ (row' : List Nm) (F' : Nm → List Stp) (ex : List Nm), s = (camE row' F', row'.map T.str) ∧ row' = row ++ ex ∧ Bq B a row' F' ∧ (∀ s ∈ fromB B row[i], s ∈ rest ∨ s.2.2 ∈ row') ∧ ∀ s ∈ rest, s ∈ fromB B row[i]) (fromB B row[i]) (camE row F, row.map T.str) ⟨row, F, [], rfl, by simp, q, fun s hs => .inl hs, fun s hs => hs⟩ (by
      rintro x rest s ⟨row', F', ex, rfl, er, q', hall, hin⟩
      obtain ⟨x1, x2⟩ := (mem_from h).mp (hin x (.head _))
      have sm' := q'.small h
      have hm' : row[i] ∈ row' := by rw [er]; exact List.mem_append_left _ hmem
      have gi' : L2.atI (row'.map T.str) (i : Int) = some (.str row[i]) := by
        rw [atI_natE, List.getElem?_map, er, List.getElem?_append_left hlt, hrow]; rfl
      have dn : dninT emp (.str x.2.2) (.dct false (row'.map T.str) (row'.map fun n => T.lst ((F' n).map stT))) = some (.bl (!decide (x.2.2 ∈ row'))) := dninT_strs
      have dg : dgT emp (.dct false (row'.map T.str) (row'.map fun n => T.lst ((F' n).map stT))) (.str row[i]) = some (.lst ((F' row[i]).map stT)) := dgT_strs (F := fun n => T.lst ((F' n).map stT)) hm'
      unfold btF camE
      dsimp only
      rw [c2, ofO_some, pu_bd, dn, ofO_some, pu_bd, tb_bl, pu_bd]
      by_cases new : x.2.2 ∈ row'
      · rw [decide_eq_true new]
        refine ⟨_, rfl, row', F', ex, rfl, er, q', fun s hs => ?_, fun s hs => hin s (.tail _ hs)⟩
        rcases hall s hs with z | z
        · rcases List.mem_cons.mp z with rfl | z
          · exact .inr new
          · exact .inl z
        · exact .inr z
      · have q2 := q'.more h hm' x2 x1 new
        have lF := q'.len _ hm'
        have ad : addT emp (.lst ((F' row[i]).map stT)) (.lst [stT x]) = some (.lst ((F' row[i] ++ [x]).map stT)) := by
          rw [addT_lst, if_pos (by rw [List.length_map]; show (F' row[i]).length + 1 ≤ sizeLine; omega), List.map_append]
          rfl
        rw [decide_eq_false new, Bool.not_false, if_pos rfl, ixT_lst, gi', ofO_some, pu_bd, dg, ofO_some, pu_bd, ad, ofO_some, pu_bd, pu_bd]
        have ev : (row'.map fun n => T.lst ((F' n).map stT)) = row'.map fun n => T.lst ((if n = x.2.2 then F' row[i] ++ [x] else F' n).map stT) := List.map_congr_left fun n hn => by
          rw [if_neg fun z : n = x.2.2 => new (by rw [← z]; exact hn)]
        rw [ev, dput_new (F := fun n => T.lst ((if n = x.2.2 then F' row[i] ++ [x] else F' n).map stT)) new (by omega) (by rw [if_pos rfl]), pu_bd, pu_bd]
        unfold appM
        rw [gd_c, gdc_b (by rw [List.length_map]; omega), pu_bd]
        refine ⟨_, rfl, row' ++ [x.2.2], _, ex ++ [x.2.2], by rw [List.map_append]; rfl, by rw [er, List.append_assoc], q2, fun s hs => ?_, fun s hs => hin s (.tail _ hs)⟩
        rcases hall s hs with z | z
        · rcases List.mem_cons.mp z with rfl | z
          · exact .inr (by simp)
          · exact .inl z
        · exact .inr (List.mem_append_left _ z))
    obtain ⟨s', e, row', F', ex, rfl, er, q', hall, _⟩ := inner
    refine ⟨(camE row' F', row'.map T.str, .int ((i + 1 : Nat) : Int)), ?_, ⟨row', F', i + 1, rfl, q', by rw [er]; exact List.mem_append_left _ hb, by rw [er, List.length_append]; omega, fun j hj x hx s hs es => ?_⟩, ?_⟩
    · show bd (forA (btF i) (fromB B row[i]) (camE row F, row.map T.str)) _ = _
      rw [e, pu_bd, addT_int, ofO_some, pu_bd]
      rfl
    · rcases Nat.lt_or_ge j i with hji | hji
      · have hx' : row[j]? = some x := by
          rw [er, List.getElem?_append_left (by omega)] at hx
          exact hx
        rw [er]
        exact List.mem_append_left _ (cl j hji x hx' s hs es)
      · have ej : j = i := by omega
        subst ej
        have hx' : x = row[j] := by
          rw [er, List.getElem?_append_left hlt, hrow] at hx
          exact (Option.some.inj hx).symm
        rcases hall s ((mem_from h).mpr ⟨by rw [es, hx'], hs⟩) with z | z
        · cases z
        · exact z
    · rw [hm]
      show (17 - ((i + 1 : Nat) : Int)).toNat < 17 - i
      omega
  · left
    rw [ec, decide_eq_false hlt]
theorem steps_between_eq {B : Bk} (h : BkOk B) {a b : Nm} (ha : a ∈ B.names) : (∃ xs : List Stp, m_steps_between (bkT B) (.str a) (.str b) = pu (.lst (xs.map stT)) ∧ Pth B a b xs ∧ xs.length ≤ 16) ∨ (m_steps_between (bkT B) (.str a) (.str b) = pu .non ∧ NoPth B a b) := by
  have hs := sizeLine_eq
  have i0 : BtI B a (([T.str a], [T.lst []]), [T.str a], T.int 0) := ⟨[a], fun _ => [], 0, rfl, ⟨by simp, fun x hx => by rw [List.mem_singleton.mp hx]; exact ha, fun x hx => (List.mem_singleton.mp hx).symm, fun x _ => by simp⟩, by simp, by simp, fun j hj => absurd hj (Nat.not_lt_zero _)⟩
  obtain ⟨s', e, ⟨row, F, i, rfl, q, hb, hi, cl⟩, hc⟩ := whM_inv (BtI B a) btM (bt_step h) 17 fuel _ i0 (by show (17 - (0 : Int)).toNat ≤ 17; omega) (by unfold fuel; omega)
  have hge : ¬ i < row.length := fun hlt => by
    unfold btC at hc
    dsimp only at hc
    rw [List.length_map, ltT_int, ofO_some, pu_bd, tb_bl, decide_eq_true (by omega)] at hc
    have := congrFun hc ()
    cases this
  have all : ∀ x ∈ row, ∀ s ∈ stepsB B, s.2.1 = x → s.2.2 ∈ row := fun x hx s hs es => by
    obtain ⟨j, hj, ej⟩ := List.getElem_of_mem hx
    exact cl j (by omega) x (by rw [List.getElem?_eq_getElem hj, ej]) s hs es
  unfold m_steps_between
  simp_arith []
  rw [gdc_b (by rw [kyT_str]; rfl)]
  have e2 : whM btC (btB B) fuel (([T.str a], [T.lst []]), [T.str a], T.int 0) = pu (camE row F, row.map T.str, T.int i) := e
  have g2 : ∀ z, dg2T emp (.dct false (row.map T.str) (row.map fun n => T.lst ((F n).map stT))) (.str b) z = some (if b ∈ row then T.lst ((F b).map stT) else z) := fun z => by
    show (match dView emp (.dct false (row.map T.str) (row.map fun n => T.lst ((F n).map stT))), kyT (.str b) with | some p, some k => some ((dLk p.1 p.2 k).getD z) | _, _ => none) = _
    rw [kyT_str]
    show some ((dLk (row.map T.str) (row.map fun n => T.lst ((F n).map stT)) (.inr (txt b))).getD z) = _
    by_cases hm : b ∈ row
    · rw [dLk_strs (F := fun n => T.lst ((F n).map stT)) hm, if_pos hm]; rfl
    · rw [dLk_no hm, if_neg hm]; rfl
  have goal : ∀ t, (bd (whM btC (btB B) fuel (([T.str a], [T.lst []]), [T.str a], T.int 0)) fun s10 => bd (gdc ((dView emp (T.dct false s10.fst.fst s10.fst.snd)).isSome = true)) fun x => ofO (dg2T emp (T.dct false s10.fst.fst s10.fst.snd) (T.str b) T.non)) = pu t ↔ t = if b ∈ row then T.lst ((F b).map stT) else T.non := fun t => by
    rw [e2, pu_bd]
    unfold camE
    dsimp only
    have dv : (dView emp (T.dct false (row.map T.str) (row.map fun n => T.lst ((F n).map stT)))).isSome = true := rfl
    rw [gdc_b dv, g2, ofO_some]
    constructor
    · intro z
      have := congrFun z ()
      injection this with this
      exact this.symm
    · rintro rfl
      rfl
  by_cases hm : b ∈ row
  · refine .inl ⟨F b, (goal _).mpr (by rw [if_pos hm]), q.pth b hm, ?_⟩
    have := q.len b hm
    have := q.small h
    omega
  · exact .inr ⟨(goal _).mpr (by rw [if_neg hm]), fun xs hp => hm (closed_reach all hb hp)⟩
theorem forRA_casesN {α κ : Type} {f : α → Unit → PM κ (Fl Unit)} {R : T → Prop} {N : α → Prop} : ∀ {xs : List α}, (∀ x ∈ xs, (f x () = pu (.nx ()) ∧ N x) ∨ ∃ v, f x () = pu (.rt v) ∧ R v) → (forRA f xs () = pu (.inl ()) ∧ ∀ x ∈ xs, N x) ∨ ∃ v, forRA f xs () = pu (.inr v) ∧ R v
  | [], _ => .inl ⟨rfl, nofun⟩
  | x :: xs, h => by
    show (bd (f x ()) _ = _ ∧ _) ∨ ∃ v, bd (f x ()) _ = _ ∧ _
    rcases h x (.head _) with ⟨e, n⟩ | ⟨v, e, hv⟩
    · rw [e, pu_bd]
      rcases forRA_casesN fun y hy => h y (.tail _ hy) with ⟨e2, n2⟩ | z
      · exact .inl ⟨e2, fun y hy => by
          rcases List.mem_cons.mp hy with rfl | hy
          · exact n
          · exact n2 y hy⟩
      · exact .inr z
    · rw [e, pu_bd]
      exact .inr ⟨v, rfl, hv⟩
theorem pth_link {B : Bk} : ∀ {xs : List Stp} {a b : Nm} {s0 z : Stp}, Pth B a b xs → s0.2.2 = a → z.2.1 = b → ((s0 :: xs).zip (xs ++ [z])).all linkP = true
  | [], a, b, s0, z, h, h0, hz => by
    have h : a = b := h
    show (linkP (s0, z) && true) = true
    rw [Bool.and_true]
    exact decide_eq_true (by rw [h0, h, hz])
  | s :: r, a, b, s0, z, ⟨_, h2, h3⟩, h0, hz => by
    show (linkP (s0, s) && ((s :: r).zip (r ++ [z])).all linkP) = true
    rw [pth_link h3 rfl hz, Bool.and_true]
    exact decide_eq_true (by rw [h0, h2])
theorem pth_steps {B : Bk} : ∀ {xs : List Stp} {a b : Nm}, Pth B a b xs → ∀ s ∈ xs, s ∈ stepsB B
  | s :: r, a, b, ⟨h1, _, h3⟩, x, hx => by
    rcases List.mem_cons.mp hx with rfl | hx
    · exact h1
    · exact pth_steps h3 x hx
structure RingOk (B : Bk) (ring : List Stp) : Prop where
  ne : ring ≠ []
  all : ∀ s ∈ ring, s ∈ stepsB B
  lnk : linkA ring = true
  chd : ring.any isCh = true
  len : ring.length ≤ 17
theorem ring_of_pth {B : Bk} (h : BkOk B) {c p : Nm} {f : List Nm} (hk : (c, f) ∈ kinsB B) (hp : p ∈ f) {xs : List Stp} (hx : Pth B p c xs) (l : xs.length ≤ 16) : RingOk B ((wC, c, p) :: xs) := by
  have hm : ((wC, c, p) : Stp) ∈ stepsB B := (mem_steps h).mpr (.inl ⟨rfl, f, hk, hp⟩)
  refine ⟨nofun, fun s hs => ?_, ?_, ?_, by rw [List.length_cons]; omega⟩
  · rcases List.mem_cons.mp hs with rfl | hs
    · exact hm
    · exact pth_steps hx s hs
  · show (((wC, c, p) :: xs).zip (xs ++ [(wC, c, p)])).all linkP = true
    exact pth_link hx rfl rfl
  · show (isCh (wC, c, p) || xs.any isCh) = true
    rw [show isCh (wC, c, p) = true from decide_eq_true rfl]
    rfl
def NoRg (B : Bk) : Prop := ∀ b ∈ kinsB B, ∀ p ∈ b.2, NoPth B p b.1
def csI (B : Bk) (a : Nm × List Nm) (p : Nm) (_ : Unit) : PM Unit (Fl Unit) :=
                      bd (lft (m_steps_between (bkT B) (T.str p) (T.str a.1))) fun v15 =>
                        bd (ofO (isnT emp v15 T.non)) fun a_2 =>
                          bd (tb a_2) fun v19 =>
                            if v19 = true then
                              bd (ofO (addT emp (T.lst [T.tup [T.str (q "child"), T.str a.1, T.str p]]) v15)) fun a => bd (ofO (tupleF emp [a])) fun v27 => pu (Fl.rt v27)
                            else pu (Fl.nx ())
def csO (B : Bk) (a : Nm × List Nm) (_ : Unit) : PM Unit (Fl Unit) := bd (forRA (csI B a) a.2 ()) fun r29 => Sum.elim (fun s10 => pu (Fl.nx ())) (fun v27 => pu (Fl.rt v27)) r29
theorem csI_eq {B : Bk} (h : BkOk B) {b : Nm × List Nm} (hb : b ∈ kinsB B) {p : Nm} (hp : p ∈ b.2) : (csI B b p () = pu (.nx ()) ∧ NoPth B p b.1) ∨ ∃ v, csI B b p () = pu (.rt v) ∧ ∃ ring : List Stp, v = .tup (ring.map stT) ∧ RingOk B ring := by
  have hs := sizeLine_eq
  have pm : p ∈ B.names := (kins_fam h b hb).mem p hp
  unfold csI
  rcases steps_between_eq h (a := p) (b := b.1) pm with ⟨xs, e, hx, l⟩ | ⟨e, n⟩
  · right
    have i1 : isnT emp (.lst (xs.map stT)) .non = some (.bl true) := rfl
    have ad : addT emp (T.lst [T.tup [T.str (q "child"), T.str b.1, T.str p]]) (.lst (xs.map stT)) = some (.lst (((wC, b.1, p) :: xs).map stT)) := by
      rw [addT_lst, if_pos (by rw [List.length_map]; show 1 + xs.length ≤ sizeLine; omega)]
      rfl
    rw [e, lft_pu, pu_bd, i1, ofO_some, pu_bd, tb_bl, pu_bd, if_pos rfl, ad, ofO_some, pu_bd]
    exact ⟨_, rfl, _, rfl, ring_of_pth h hb hp hx l⟩
  · left
    have i1 : isnT emp .non .non = some (.bl false) := rfl
    rw [e, lft_pu, pu_bd, i1, ofO_some, pu_bd, tb_bl, pu_bd]
    exact ⟨rfl, n⟩
theorem csO_eq {B : Bk} (h : BkOk B) {b : Nm × List Nm} (hb : b ∈ kinsB B) : (csO B b () = pu (.nx ()) ∧ ∀ p ∈ b.2, NoPth B p b.1) ∨ ∃ v, csO B b () = pu (.rt v) ∧ ∃ ring : List Stp, v = .tup (ring.map stT) ∧ RingOk B ring := by
  unfold csO
  rcases forRA_casesN (f := csI B b) (xs := b.2) fun p hp => csI_eq h hb hp with ⟨e, n⟩ | ⟨v, e, hv⟩
  · rw [e, pu_bd]
    exact .inl ⟨rfl, n⟩
  · rw [e, pu_bd]
    exact .inr ⟨v, rfl, hv⟩
theorem closed_steps_eq {B : Bk} (h : BkOk B) : (∃ ring : List Stp, m_closed_steps (bkT B) = pu (.tup (ring.map stT)) ∧ RingOk B ring) ∨ (m_closed_steps (bkT B) = pu .non ∧ NoRg B) := by
  have hs := sizeLine_eq
  have b2 : ixT emp (bkT B) (.int 2) = some (.tup (B.births.map kinT)) := rfl
  have b3 : ixT emp (bkT B) (.int 3) = some (.tup (B.adopts.map kinT)) := rfl
  have lb := h.lb
  have la := h.la
  have u : ∀ k : Nm × List Nm, un2 (kinT k) = some (.str k.1, famT k.2) := fun _ => rfl
  have it : ∀ f : List Nm, itemsM (κ := Unit) (famT f) = pu (f.map T.str) := fun _ => rfl
  have e0 : m_closed_steps (bkT B) = bd (forRA (csO B) (kinsB B) ()) fun r32 => Sum.elim (fun s1 => pu T.non) (fun v31 => pu v31) r32 := by
    unfold m_closed_steps
    simp_arith [b2, b3]
    rw [gdc_b (by rw [List.length_map, List.length_map]; omega), ← List.map_append]
    simp_arith [u, it]
    rfl
  rcases forRA_casesN (f := csO B) (xs := kinsB B) fun b hb => csO_eq h hb with ⟨e, n⟩ | ⟨v, e, ring, rfl, hr⟩
  · rw [e0, e, pu_bd]
    exact .inr ⟨rfl, n⟩
  · rw [e0, e, pu_bd]
    exact .inl ⟨ring, rfl, hr⟩
def wt (w : Nm) : Nat := if w = wC then 1 else 0
def chN : List Stp → Nat
  | [] => 0
  | s :: r => wt s.1 + chN r
theorem chN_app : ∀ xs ys : List Stp, chN (xs ++ ys) = chN xs + chN ys
  | [], ys => by simp [chN]
  | s :: xs, ys => by
    show wt s.1 + chN (xs ++ ys) = wt s.1 + chN xs + chN ys
    rw [chN_app xs ys, Nat.add_assoc]
theorem Pth.app {B : Bk} : ∀ {xs ys : List Stp} {a b c : Nm}, Pth B a b xs → Pth B b c ys → Pth B a c (xs ++ ys)
  | [], ys, a, b, c, h, k => by
    have h : a = b := h
    exact h ▸ k
  | s :: xs, ys, a, b, c, ⟨h1, h2, h3⟩, k => ⟨h1, h2, h3.app k⟩
theorem Pth.cut {B : Bk} : ∀ {xs ys : List Stp} {a c : Nm}, Pth B a c (xs ++ ys) → ∃ b, Pth B a b xs ∧ Pth B b c ys
  | [], ys, a, c, h => ⟨a, rfl, h⟩
  | s :: xs, ys, a, c, ⟨h1, h2, h3⟩ => by
    obtain ⟨b, p, q⟩ := Pth.cut h3
    exact ⟨b, ⟨h1, h2, p⟩, q⟩
theorem chN_le : ∀ xs : List Stp, chN xs ≤ xs.length
  | [] => Nat.le_refl _
  | s :: xs => by
    have := chN_le xs
    show wt s.1 + chN xs ≤ xs.length + 1
    unfold wt
    split <;> omega
theorem chN_pos : ∀ {xs : List Stp}, chN xs ≠ 0 → ∃ s ∈ xs, s.1 = wC
  | [], h => absurd rfl h
  | s :: xs, h => by
    by_cases e : s.1 = wC
    · exact ⟨s, .head _, e⟩
    · have h : wt s.1 + chN xs ≠ 0 := h
      have w : wt s.1 = 0 := if_neg e
      rw [w] at h
      obtain ⟨t, m, q⟩ := chN_pos (xs := xs) (by omega)
      exact ⟨t, .tail _ m, q⟩
theorem loop_flat {B : Bk} (h : BkOk B) (nr : NoRg B) {a : Nm} {xs : List Stp} (p : Pth B a a xs) : chN xs = 0 := by
  refine Classical.byContradiction fun z => ?_
  obtain ⟨s, m, e⟩ := chN_pos z
  obtain ⟨l, r, rfl⟩ := List.append_of_mem m
  obtain ⟨b, p1, p2⟩ := p.cut
  obtain ⟨h1, h2, h3⟩ := p2
  rcases (mem_steps h (w := s.1) (a := s.2.1) (b := s.2.2)).mp h1 with ⟨_, f, hf, hb⟩ | ⟨e2, _⟩
  · have p1 : Pth B a s.2.1 l := h2 ▸ p1
    exact nr (s.2.1, f) hf s.2.2 hb (r ++ l) (h3.app p1)
  · rw [e] at e2
    exact absurd e2 (by decide +kernel)
def nds (a : Nm) (xs : List Stp) : List Nm := a :: xs.map fun s => s.2.2
theorem pth_suf {B : Bk} : ∀ {xs : List Stp} {a b c : Nm}, Pth B a b xs → (nds a xs).Nodup → c ∈ nds a xs → ∃ p q, xs = p ++ q ∧ Pth B a c p ∧ Pth B c b q ∧ (nds c q).Nodup
  | [], a, b, c, h, nd, m => by
    have m : c = a := by simpa [nds] using m
    subst m
    exact ⟨[], [], rfl, rfl, h, nd⟩
  | s :: r, a, b, c, h, nd, m => by
    by_cases e : c = a
    · subst e
      exact ⟨[], s :: r, rfl, rfl, h, nd⟩
    · obtain ⟨h1, h2, h3⟩ := h
      have m : c ∈ nds s.2.2 r := (List.mem_cons.mp m).resolve_left e
      obtain ⟨p, q, rfl, x, y, z⟩ := pth_suf h3 (List.nodup_cons.mp nd).2 m
      exact ⟨s :: p, q, rfl, ⟨h1, h2, x⟩, y, z⟩
/-- a row of steps through unlike names, with as many steps to parents -/
theorem pth_simple {B : Bk} (h : BkOk B) (nr : NoRg B) : ∀ {xs : List Stp} {a b : Nm}, Pth B a b xs → ∃ ys, Pth B a b ys ∧ chN ys = chN xs ∧ (nds a ys).Nodup
  | [], a, b, p => ⟨[], p, rfl, by simp [nds]⟩
  | s :: r, a, b, ⟨h1, h2, h3⟩ => by
    obtain ⟨ys, p, c, nd⟩ := pth_simple h nr h3
    by_cases m : a ∈ nds s.2.2 ys
    · obtain ⟨x, q, rfl, p1, p2, nd2⟩ := pth_suf p nd m
      have z : chN (s :: x) = 0 := loop_flat h nr (a := a) ⟨h1, h2, p1⟩
      refine ⟨q, p2, ?_, nd2⟩
      have z : wt s.1 + chN x = 0 := z
      show chN q = wt s.1 + chN r
      rw [← c, chN_app]
      omega
    · refine ⟨s :: ys, ⟨h1, h2, p⟩, ?_, List.nodup_cons.mpr ⟨m, nd⟩⟩
      show wt s.1 + chN ys = wt s.1 + chN r
      rw [c]
theorem pth_names {B : Bk} (h : BkOk B) : ∀ {xs : List Stp} {a b : Nm}, a ∈ B.names → Pth B a b xs → ∀ x ∈ nds a xs, x ∈ B.names
  | [], a, b, ha, _, x, hx => by
    have : x = a := by simpa [nds] using hx
    exact this ▸ ha
  | s :: r, a, b, ha, ⟨h1, h2, h3⟩, x, hx => by
    rcases List.mem_cons.mp hx with rfl | hx
    · exact ha
    · exact pth_names h (steps_names h (w := s.1) (a := s.2.1) (b := s.2.2) h1).2.1 h3 x hx
theorem simple_len {B : Bk} (h : BkOk B) {xs : List Stp} {a b : Nm} (ha : a ∈ B.names) (p : Pth B a b xs) (nd : (nds a xs).Nodup) : xs.length + 1 ≤ B.names.length := by
  have := TL.nodup_le nd (pth_names h ha p)
  unfold nds at this
  rwa [List.length_cons, List.length_map] at this
/-- a row that some steps upwards tell -/
def Up (B : Bk) (r0 : Nm → Nat) (x : Nm) (k : Nat) : Prop := ∃ y xs, Pth B x y xs ∧ k = r0 y + chN xs
theorem Up.step {B : Bk} {r0 : Nm → Nat} {s : Stp} (hs : s ∈ stepsB B) {k : Nat} (u : Up B r0 s.2.2 k) : Up B r0 s.2.1 (k + wt s.1) := by
  obtain ⟨y, xs, p, e⟩ := u
  refine ⟨y, s :: xs, ⟨hs, rfl, p⟩, ?_⟩
  show k + wt s.1 = r0 y + (wt s.1 + chN xs)
  omega
def Fit (B : Bk) (r : Nm → Nat) : Prop := ∀ s ∈ stepsB B, r s.2.2 + wt s.1 ≤ r s.2.1
theorem Fit.pth {B : Bk} {r : Nm → Nat} (f : Fit B r) : ∀ {xs : List Stp} {a b : Nm}, Pth B a b xs → r b + chN xs ≤ r a
  | [], a, b, e => by
    have e : a = b := e
    subst e
    exact Nat.le_refl _
  | s :: xs, a, b, ⟨h1, h2, h3⟩ => by
    have := f.pth h3
    have q := f s h1
    subst h2
    show r b + (wt s.1 + chN xs) ≤ _
    omega
theorem Fit.no_ring {B : Bk} (h : BkOk B) {r : Nm → Nat} (f : Fit B r) : NoRg B := fun b hb p hp xs px => by
  have := f.pth px
  have m : ((wC, b.1, p) : Stp) ∈ stepsB B := (mem_steps h).mpr (.inl ⟨rfl, b.2, hb, hp⟩)
  have q : r p + 1 ≤ r b.1 := f _ m
  omega
/-- rows on their way up from r0 -/
structure Rlx (B : Bk) (r0 r : Nm → Nat) : Prop where
  ge : ∀ x, r0 x ≤ r x
  up : ∀ x, Up B r0 x (r x)
theorem Rlx.refl (B : Bk) (r0 : Nm → Nat) : Rlx B r0 r0 := ⟨fun _ => Nat.le_refl _, fun x => ⟨x, [], rfl, rfl⟩⟩
def putR (r : Nm → Nat) (x : Nm) (k : Nat) : Nm → Nat := fun n => if n = x then k else r n
theorem Rlx.put {B : Bk} {r0 r : Nm → Nat} (l : Rlx B r0 r) {s : Stp} (hs : s ∈ stepsB B) (lt : r s.2.1 < r s.2.2 + wt s.1) : Rlx B r0 (putR r s.2.1 (r s.2.2 + wt s.1)) := by
  refine ⟨fun x => ?_, fun x => ?_⟩
  · unfold putR
    split
    · rename_i e
      subst e
      have := l.ge s.2.1
      omega
    · exact l.ge x
  · unfold putR
    split
    · rename_i e
      subst e
      exact (l.up s.2.2).step hs
    · exact l.up x
theorem Rlx.fit_ge {B : Bk} {r0 r t : Nm → Nat} (l : Rlx B r0 r) (f : Fit B t) (g : ∀ x, r0 x ≤ t x) (x : Nm) : r x ≤ t x := by
  obtain ⟨y, xs, p, e⟩ := l.up x
  have := f.pth p
  have := g y
  omega
/-- rows that fit are one, the least -/
theorem Rlx.one {B : Bk} {r0 r t : Nm → Nat} (l : Rlx B r0 r) (f : Fit B r) (l2 : Rlx B r0 t) (f2 : Fit B t) : r = t := by
  funext x
  exact Nat.le_antisymm (l.fit_ge f2 l2.ge x) (l2.fit_ge f l.ge x)
theorem Rlx.le {B : Bk} (h : BkOk B) (nr : NoRg B) {r0 r : Nm → Nat} (l : Rlx B r0 r) {m : Nat} (hm : ∀ x, r0 x ≤ m) {x : Nm} (hx : x ∈ B.names) : r x + 1 ≤ m + B.names.length := by
  obtain ⟨y, xs, p, e⟩ := l.up x
  obtain ⟨ys, p2, c, nd⟩ := pth_simple h nr p
  have := simple_len h hx p2 nd
  have := chN_le ys
  have := hm y
  omega
/-- rows that are as great as t steps tell -/
def LB (B : Bk) (r0 : Nm → Nat) (t : Nat) (r : Nm → Nat) : Prop := ∀ x y xs, Pth B x y xs → xs.length ≤ t → r0 y + chN xs ≤ r x
theorem LB.fit {B : Bk} (h : BkOk B) (nr : NoRg B) {r0 r : Nm → Nat} {t : Nat} (b : LB B r0 t r) (l : Rlx B r0 r) (ht : B.names.length ≤ t + 1) : Fit B r := fun s hs => by
  obtain ⟨y, xs, p, e⟩ := (l.up s.2.2).step hs
  obtain ⟨ys, p2, c, nd⟩ := pth_simple h nr p
  have := simple_len h (steps_names h (w := s.1) (a := s.2.1) (b := s.2.2) hs).1 p2 nd
  have := b _ _ _ p2 (by omega)
  omega
/-- one step gone through -/
def upd (r : Nm → Nat) (s : Stp) : Nm → Nat := if r s.2.1 < r s.2.2 + wt s.1 then putR r s.2.1 (r s.2.2 + wt s.1) else r
theorem upd_ge (r : Nm → Nat) (s : Stp) (x : Nm) : r x ≤ upd r s x := by
  unfold upd putR
  split
  · dsimp only
    split
    · rename_i e
      subst e
      omega
    · exact Nat.le_refl _
  · exact Nat.le_refl _
theorem upd_at (r : Nm → Nat) (s : Stp) : r s.2.2 + wt s.1 ≤ upd r s s.2.1 := by
  unfold upd putR
  split
  · dsimp only
    rw [if_pos rfl]
    exact Nat.le_refl _
  · omega
theorem Rlx.upd {B : Bk} {r0 r : Nm → Nat} (l : Rlx B r0 r) {s : Stp} (hs : s ∈ stepsB B) : Rlx B r0 (upd r s) := by
  show Rlx B r0 (if _ then _ else _)
  split
  · rename_i lt
    exact l.put hs lt
  · exact l
theorem fold_ge : ∀ (xs : List Stp) (r : Nm → Nat) (x : Nm), r x ≤ xs.foldl upd r x
  | [], r, x => Nat.le_refl _
  | s :: xs, r, x => Nat.le_trans (upd_ge r s x) (fold_ge xs (upd r s) x)
theorem fold_at : ∀ {xs : List Stp} {r : Nm → Nat} {s : Stp}, s ∈ xs → r s.2.2 + wt s.1 ≤ xs.foldl upd r s.2.1
  | t :: xs, r, s, h => by
    rcases List.mem_cons.mp h with rfl | h
    · exact Nat.le_trans (upd_at r s) (fold_ge xs (upd r s) s.2.1)
    · have := upd_ge r t s.2.2
      exact Nat.le_trans (by omega) (fold_at (r := upd r t) h)
theorem LB.turn {B : Bk} {r0 r : Nm → Nat} {t : Nat} (b : LB B r0 t r) : LB B r0 (t + 1) ((stepsB B).foldl upd r) := fun x y xs p hl => by
  cases xs with
  | nil =>
    have := b x y [] p (Nat.zero_le _)
    exact Nat.le_trans this (fold_ge _ _ _)
  | cons s r' =>
    obtain ⟨h1, h2, h3⟩ := p
    have := b _ _ _ h3 (by rw [List.length_cons] at hl; omega)
    have q := fold_at (r := r) h1
    subst h2
    show r0 y + (wt s.1 + chN r') ≤ _
    omega
theorem LB.zero {B : Bk} {r0 r : Nm → Nat} (g : ∀ x, r0 x ≤ r x) : LB B r0 0 r := fun x y xs p hl => by
  have : xs = [] := List.length_eq_zero_iff.mp (by omega)
  subst this
  have p : x = y := p
  subst p
  show r0 x + 0 ≤ _
  exact g x
/-- how far the rows can still go up -/
def slack (B : Bk) (m : Nat) (r : Nm → Nat) : Nat := (B.names.map fun x => m - r x).sum
theorem sum_le_map {xs : List Nm} {f g : Nm → Nat} (h : ∀ x ∈ xs, f x ≤ g x) : (xs.map f).sum ≤ (xs.map g).sum := by
  induction xs with
  | nil => exact Nat.le_refl _
  | cons x xs ih =>
    rw [List.map_cons, List.map_cons, List.sum_cons, List.sum_cons]
    exact Nat.add_le_add (h x (.head _)) (ih fun y hy => h y (.tail _ hy))
theorem sum_lt_map {xs : List Nm} {f g : Nm → Nat} (h : ∀ x ∈ xs, f x ≤ g x) {x : Nm} (hx : x ∈ xs) (lt : f x < g x) : (xs.map f).sum < (xs.map g).sum := by
  induction xs with
  | nil => cases hx
  | cons y xs ih =>
    rw [List.map_cons, List.map_cons, List.sum_cons, List.sum_cons]
    rcases List.mem_cons.mp hx with rfl | hx
    · exact Nat.add_lt_add_of_lt_of_le lt (sum_le_map fun y hy => h y (.tail _ hy))
    · exact Nat.add_lt_add_of_le_of_lt (h y (.head _)) (ih (fun y hy => h y (.tail _ hy)) hx)
theorem slack_lt {B : Bk} {m : Nat} {r t : Nm → Nat} (g : ∀ x, r x ≤ t x) {x : Nm} (hx : x ∈ B.names) (lt : r x < t x) (le : t x ≤ m) : slack B m t < slack B m r :=
  sum_lt_map (fun x _ => by have := g x; omega) hx (by omega)
theorem slack_le {B : Bk} (m : Nat) (r : Nm → Nat) : slack B m r ≤ B.names.length * m := by
  unfold slack
  generalize B.names = xs
  induction xs with
  | nil => simp
  | cons x xs ih =>
    rw [List.map_cons, List.sum_cons, List.length_cons, Nat.succ_mul]
    omega
def rwV (B : Bk) (r : Nm → Nat) : List T × List T := (B.names.map T.str, B.names.map fun n => T.int (r n : Nat))
def rwC (B : Bk) (r : Nm → Nat) : Cell := .dct false (rwV B r).1 (rwV B r).2
theorem bd_ok {κ α β : Type} {m : PM κ α} {f : α → PM κ β} {k k' : κ} {a : α} (h : m k = .ok a k') : bd m f k = f a k' := by
  show (match m k with | .ok a k' => f a k' | .exc x k' => .exc x k' | .bad => .bad) = _
  rw [h]
theorem dg_at {B : Bk} {r : Nm → Nat} {x : Nm} (h : x ∈ B.names) : penDg (.str x) (rwC B r) = .ok (.int (r x : Nat)) (rwC B r) := by
  show (match dgT emp (.dct false (B.names.map T.str) (B.names.map fun n => T.int (r n : Nat))) (.str x) with | some r' => Res.ok r' (Cell.dct false (B.names.map T.str) (B.names.map fun n => T.int (r n : Nat))) | none => .bad) = _
  rw [dgT_strs (F := fun n => T.int (r n : Nat)) h]
  rfl
theorem dput_at {B : Bk} (hB : BkOk B) {r : Nm → Nat} {x : Nm} {k : Nat} (h : x ∈ B.names) : penDput (.str x) (.int (k : Nat)) (rwC B r) = .ok () (rwC B (putR r x k)) := by
  have hs := sizeLine_eq
  have nl : B.names.length ≤ 16 := by unfold Bk.names; rw [List.length_map]; exact hB.lf
  show (match kyT (.str x) with | some k' => if (B.names.map T.str).length < sizeLine then Res.ok () (Cell.dct false (dPk (B.names.map T.str) k' (.str x)) (dPv (B.names.map T.str) (B.names.map fun n => T.int (r n : Nat)) k' (.int (k : Nat)))) else .bad | none => .bad) = _
  rw [kyT_str]
  dsimp only
  rw [List.length_map, if_pos (by omega)]
  unfold dPk dPv
  rw [dHs_strs, decide_eq_true h, if_pos rfl, if_pos rfl, dRp_strs]
  unfold rwC rwV
  congr 2
  refine List.map_congr_left fun n _ => ?_
  unfold putR
  split <;> rfl
theorem nox_ok {κ α : Type} {m : PM κ α} {k k' : κ} {a : α} (h : m k = .ok a k') : nox m k = .ok a k' := by
  unfold nox
  rw [h]
theorem comp_at {B : Bk} {r : Nm → Nat} : ∀ {f : List Nm}, (∀ x ∈ f, x ∈ B.names) → compA (fun a => bd (penDg (T.str a)) fun v8 => pu (some v8)) f (rwC B r) = .ok ((f.map fun n => ((r n : Nat) : Int)).map T.int) (rwC B r)
  | [], _ => rfl
  | x :: f, h => by
    unfold compA
    have e : nox (bd (penDg (T.str x)) fun v8 => pu (some v8)) (rwC B r) = .ok (some (.int (r x : Nat))) (rwC B r) := nox_ok (by rw [bd_ok (dg_at (h x (.head _)))]; rfl)
    rw [bd_ok e, bd_ok (comp_at fun y hy => h y (.tail _ hy))]
    rfl
theorem forA_st {α σ : Type} {f : α → σ → PM Cell σ} (I : List α → σ → Cell → Prop) : ∀ (xs : List α) (v : σ) (c : Cell), I xs v c → (∀ x xs v c, I (x :: xs) v c → ∃ v' c', f x v c = .ok v' c' ∧ I xs v' c') → ∃ v' c', forA f xs v c = .ok v' c' ∧ I [] v' c'
  | [], v, c, h, _ => ⟨v, c, rfl, h⟩
  | x :: xs, v, c, h, st => by
    obtain ⟨v1, c1, e, h1⟩ := st x xs v c h
    obtain ⟨v2, c2, e2, h2⟩ := forA_st I xs v1 c1 h1 st
    refine ⟨v2, c2, ?_, h2⟩
    show bd (f x v) _ c = _
    rw [bd_ok e, e2]
structure Lo (B : Bk) (r0 r : Nm → Nat) (ch : Bool) (t : Nm → Nat) : Prop where
  rl : Rlx B r0 t
  ge : ∀ x, r x ≤ t x
  no : ch = false → t = r
  yes : ch = true → ∃ x ∈ B.names, r x < t x
theorem Lo.put {B : Bk} (h : BkOk B) {r0 r t : Nm → Nat} {ch : Bool} (l : Lo B r0 r ch t) {w a b : Nm} (hs : ((w, a, b) : Stp) ∈ stepsB B) (lt : t a < t b + wt w) : Lo B r0 r true (putR t a (t b + wt w)) := by
  have g : ∀ x, r x ≤ putR t a (t b + wt w) x := fun x => by
    have := l.ge x
    unfold putR
    split
    · rename_i e
      subst e
      omega
    · exact this
  refine ⟨l.rl.put hs lt, g, nofun, fun _ => ⟨a, (steps_names h hs).1, ?_⟩⟩
  have := l.ge a
  unfold putR
  rw [if_pos rfl]
  omega
noncomputable def loU (k : Int) (a : Nm) (s14 : T) : PM Cell T :=
                    bd (penDg (T.str a)) fun a_3 =>
                      bd (ofO (ltT emp a_3 (.int k))) fun a_4 =>
                        bd (tb a_4) fun v18 =>
                          if v18 = true then bd (penDput (T.str a) (.int k)) fun x => pu (T.bl true) else pu s14
noncomputable def loF (a : List Nm) (s3 : T) : PM Cell T :=
          bd (gdc (a.length ≤ sizeLine)) fun a_1 =>
            bd (compA (fun a => bd (penDg (T.str a)) fun v8 => pu (some v8)) a) fun a_2 =>
              bd (ofO (max1F emp [T.lst a_2])) fun v12 =>
                forA
                  (fun a s14 =>
                    bd (penDg (T.str a)) fun a_3 =>
                      bd (ofO (ltT emp a_3 v12)) fun a_4 =>
                        bd (tb a_4) fun v18 =>
                          if v18 = true then bd (penDput (T.str a) v12) fun x => pu (T.bl true) else pu s14)
                  a s3
noncomputable def loK (b : Nm × List Nm) (s25 : T) : PM Cell T :=
            bd (gdc (b.2.length ≤ sizeLine)) fun a_1 =>
                bd (compA (fun a => bd (penDg (T.str a)) fun v8 => pu (some v8)) b.2) fun a =>
                  bd (ofO (max1F emp [T.lst a])) fun a =>
                    bd (ofO (addT emp (T.int 1) a)) fun v41 =>
                      bd (penDg (T.str b.1)) fun a =>
                        bd (ofO (ltT emp a v41)) fun a =>
                          bd (tb a) fun v45 =>
                            if v45 = true then bd (penDput (T.str b.1) v41) fun x => pu (T.bl true) else pu s25
theorem max_fam {r : Nm → Nat} {f : List Nm} (h : f ≠ []) : ∃ m ∈ f, max1F emp [.lst ((f.map fun n => ((r n : Nat) : Int)).map T.int)] = some (.int (r m : Nat)) ∧ ∀ x ∈ f, r x ≤ r m := by
  have h' : f.map (fun n => ((r n : Nat) : Int)) ≠ [] := fun z => h (List.map_eq_nil_iff.mp z)
  obtain ⟨m, hm, e⟩ := List.mem_map.mp (maxI_mem h')
  refine ⟨m, hm, ?_, fun x hx => ?_⟩
  · rw [max1F_l h', e]
  · have := le_maxI (List.mem_map_of_mem (f := fun n => ((r n : Nat) : Int)) hx)
    rw [← e] at this
    omega
theorem lo_fam {B : Bk} (h : BkOk B) {r0 r t : Nm → Nat} {ch : Bool} (l : Lo B r0 r ch t) {f : List Nm} (hf : f ∈ B.unions) : ∃ ch' t', loF f (.bl ch) (rwC B t) = .ok (.bl ch') (rwC B t') ∧ Lo B r0 r ch' t' ∧ (ch' = false → ch = false ∧ ∀ x ∈ f, ∀ y ∈ f, r y ≤ r x) := by
  have hs := sizeLine_eq
  have fo := h.un f hf
  have hi := fo.hi
  have f0 : f ≠ [] := fun z => by have := fo.lo; rw [z] at this; cases this
  obtain ⟨m, hm, em, mx⟩ := max_fam (r := t) f0
  unfold loF
  rw [gdc_b (by omega), bd_ok (comp_at fo.mem), em, ofO_some, pu_bd]
  obtain ⟨v, c, e, ch', t', rfl, rfl, l', km, hno, _⟩ := forA_st (f := loU (t m : Nat)) (fun rest v c => ∃ ch' t', v = .bl ch' ∧ c = rwC B t' ∧ Lo B r0 r ch' t' ∧ t' m = t m ∧ (ch' = false → ch = false ∧ ∀ x ∈ f, x ∈ rest ∨ t m ≤ r x) ∧ ∀ x ∈ rest, x ∈ f) f (.bl ch) (rwC B t) ⟨ch, t, rfl, rfl, l, rfl, fun z => ⟨z, fun x hx => .inl hx⟩, fun x hx => hx⟩ (by
    rintro x rest v c ⟨ch1, t1, rfl, rfl, l1, km, hno, hsub⟩
    have hxf := hsub x (.head _)
    unfold loU
    rw [bd_ok (dg_at (fo.mem x hxf)), ltT_int, ofO_some, pu_bd, tb_bl, pu_bd]
    by_cases lt : t1 x < t m
    · rw [if_pos (decide_eq_true (by omega)), bd_ok (dput_at h (fo.mem x hxf))]
      have ne : x ≠ m := fun z => by
        subst z
        omega
      have st : ((wU, x, m) : Stp) ∈ stepsB B := (mem_steps h).mpr (.inr ⟨rfl, ne, f, hf, hxf, hm⟩)
      have w0 : wt wU = 0 := by decide +kernel
      have l2 := l1.put h st (by rw [w0, km]; exact lt)
      rw [w0, Nat.add_zero, km] at l2
      refine ⟨_, _, rfl, true, _, rfl, rfl, l2, ?_, nofun, fun y hy => hsub y (.tail _ hy)⟩
      unfold putR
      rw [if_neg fun z => ne z.symm]
      exact km
    · rw [if_neg (by simp; omega)]
      refine ⟨_, _, rfl, ch1, t1, rfl, rfl, l1, km, fun z => ?_, fun y hy => hsub y (.tail _ hy)⟩
      obtain ⟨z1, z2⟩ := hno z
      refine ⟨z1, fun y hy => ?_⟩
      rcases z2 y hy with q | q
      · rcases List.mem_cons.mp q with rfl | q
        · right
          rw [← l1.no z]
          omega
        · exact .inl q
      · exact .inr q)
  refine ⟨ch', t', e, l', fun z => ?_⟩
  obtain ⟨z1, z2⟩ := hno z
  refine ⟨z1, fun x hx y hy => ?_⟩
  have q : t m ≤ r x := (z2 x hx).resolve_left (by simp)
  have := mx y hy
  have := l.ge y
  omega
theorem lo_kin {B : Bk} (h : BkOk B) {r0 r t : Nm → Nat} {ch : Bool} (l : Lo B r0 r ch t) {b : Nm × List Nm} (hb : b ∈ B.births ++ B.adopts) : ∃ ch' t', loK b (.bl ch) (rwC B t) = .ok (.bl ch') (rwC B t') ∧ Lo B r0 r ch' t' ∧ (ch' = false → ch = false ∧ ∀ y ∈ b.2, r y + 1 ≤ r b.1) := by
  have hs := sizeLine_eq
  have ko := h.kin (b := b) hb
  have fo := h.un _ ko.fam
  have hi := fo.hi
  have f0 : b.2 ≠ [] := fun z => by have := fo.lo; rw [z] at this; cases this
  obtain ⟨m, hm, em, mx⟩ := max_fam (r := t) f0
  have st : ((wC, b.1, m) : Stp) ∈ stepsB B := (mem_steps h).mpr (.inl ⟨rfl, b.2, hb, hm⟩)
  have w1 : wt wC = 1 := by decide +kernel
  unfold loK
  rw [gdc_b (by omega), bd_ok (comp_at fo.mem), em, ofO_some, pu_bd, addT_int, ofO_some, pu_bd, bd_ok (dg_at ko.kid), ltT_int, ofO_some, pu_bd, tb_bl, pu_bd]
  by_cases lt : t b.1 < t m + 1
  · rw [if_pos (decide_eq_true (by omega)), show (1 + ((t m : Nat) : Int)) = ((t m + 1 : Nat) : Int) by omega, bd_ok (dput_at h ko.kid)]
    have l2 := l.put h st (by rw [w1]; exact lt)
    rw [w1] at l2
    exact ⟨true, _, rfl, l2, nofun⟩
  · rw [if_neg (by simp; omega)]
    refine ⟨ch, t, rfl, l, fun z => ⟨z, fun y hy => ?_⟩⟩
    have := mx y hy
    rw [← l.no z]
    omega
theorem lowered_st {B : Bk} (h : BkOk B) {r0 r : Nm → Nat} (rl : Rlx B r0 r) : ∃ ch t, m_lowered (bkT B) (rwC B r) = .ok (.bl ch) (rwC B t) ∧ Lo B r0 r ch t ∧ (ch = false → Fit B r) := by
  have hs := sizeLine_eq
  have b1 : ixT emp (bkT B) (.int 1) = some (.tup (B.unions.map famT)) := rfl
  have b2 : ixT emp (bkT B) (.int 2) = some (.tup (B.births.map kinT)) := rfl
  have b3 : ixT emp (bkT B) (.int 3) = some (.tup (B.adopts.map kinT)) := rfl
  have lb := h.lb
  have la := h.la
  have u : ∀ k : Nm × List Nm, un2 (kinT k) = some (.str k.1, famT k.2) := fun _ => rfl
  have it : ∀ f : List Nm, itemsM (κ := Cell) (famT f) = pu (f.map T.str) := fun _ => rfl
  have e0 : m_lowered (bkT B) = bd (forA loF B.unions (.bl false)) fun s3 => forA loK (B.births ++ B.adopts) s3 := by
    unfold m_lowered
    simp_arith [b1, b2, b3, u, it]
    have g : ((B.births.map kinT).length + (B.adopts.map kinT).length ≤ sizeLine) = True := eq_true (by rw [List.length_map, List.length_map]; omega)
    simp only [g, gdc_T, pu_bd, ← List.map_append, forM_map, u, ofO_some, it, compG_map, bd_bd]
    rfl
  obtain ⟨v, c, e, ch, t, rfl, rfl, l, hno, _⟩ := forA_st (f := loF) (fun rest v c => ∃ ch t, v = .bl ch ∧ c = rwC B t ∧ Lo B r0 r ch t ∧ (ch = false → ∀ f ∈ B.unions, f ∈ rest ∨ ∀ x ∈ f, ∀ y ∈ f, r y ≤ r x) ∧ ∀ x ∈ rest, x ∈ B.unions) B.unions (.bl false) (rwC B r) ⟨false, r, rfl, rfl, ⟨rl, fun _ => Nat.le_refl _, fun _ => rfl, nofun⟩, fun _ f hf => .inl hf, fun x hx => hx⟩ (by
    rintro f rest v c ⟨ch, t, rfl, rfl, l, hno, hsub⟩
    obtain ⟨ch', t', e, l', q⟩ := lo_fam h l (hsub f (.head _))
    refine ⟨_, _, e, ch', t', rfl, rfl, l', fun z g hg => ?_, fun y hy => hsub y (.tail _ hy)⟩
    obtain ⟨z1, z2⟩ := q z
    rcases hno z1 g hg with y | y
    · rcases List.mem_cons.mp y with rfl | y
      · exact .inr z2
      · exact .inl y
    · exact .inr y)
  obtain ⟨v, c, e2, ch2, t2, rfl, rfl, l2, hno2, _⟩ := forA_st (f := loK) (fun rest v c => ∃ ch' t', v = .bl ch' ∧ c = rwC B t' ∧ Lo B r0 r ch' t' ∧ (ch' = false → ch = false ∧ ∀ b ∈ B.births ++ B.adopts, b ∈ rest ∨ ∀ y ∈ b.2, r y + 1 ≤ r b.1) ∧ ∀ x ∈ rest, x ∈ B.births ++ B.adopts) (B.births ++ B.adopts) (.bl ch) (rwC B t) ⟨ch, t, rfl, rfl, l, fun z => ⟨z, fun f hf => .inl hf⟩, fun x hx => hx⟩ (by
    rintro b rest v c ⟨ch', t', rfl, rfl, l, hno, hsub⟩
    obtain ⟨ch2, t2, e, l', q⟩ := lo_kin h l (hsub b (.head _))
    refine ⟨_, _, e, ch2, t2, rfl, rfl, l', fun z => ?_, fun y hy => hsub y (.tail _ hy)⟩
    obtain ⟨z1, z2⟩ := q z
    obtain ⟨z3, z4⟩ := hno z1
    refine ⟨z3, fun g hg => ?_⟩
    rcases z4 g hg with y | y
    · rcases List.mem_cons.mp y with rfl | y
      · exact .inr z2
      · exact .inl y
    · exact .inr y)
  refine ⟨ch2, t2, ?_, l2, fun z => ?_⟩
  · rw [e0, bd_ok e]
    exact e2
  · obtain ⟨z1, z2⟩ := hno2 z
    have z3 := hno z1
    rintro ⟨w, a, b⟩ st
    rcases (mem_steps h).mp st with ⟨rfl, f, hf, hb⟩ | ⟨rfl, _, f, hf, ha, hb⟩
    · exact (z2 _ hf).resolve_left (by simp) b hb
    · exact (z3 f hf).resolve_left (by simp) a ha b hb
theorem whP_rows {B : Bk} (h : BkOk B) (nr : NoRg B) {r0 : Nm → Nat} {m : Nat} (hm : ∀ x, r0 x ≤ m) : ∀ (n : Nat) (r : Nm → Nat), Rlx B r0 r → slack B (m + B.names.length) r < n → ∃ t, whP (κ := Unit) (m_lowered (bkT B)) n (rwV B r) = pu (rwV B t) ∧ Rlx B r0 t ∧ Fit B t
  | 0, _, _, hn => absurd hn (Nat.not_lt_zero _)
  | n + 1, r, rl, hn => by
    obtain ⟨ch, t, e, l, f⟩ := lowered_st h rl
    have e : m_lowered (bkT B) (.dct false (rwV B r).1 (rwV B r).2) = .ok (.bl ch) (.dct false (rwV B t).1 (rwV B t).2) := e
    cases ch with
    | false =>
      refine ⟨t, ?_, l.rl, by rw [l.no rfl]; exact f rfl⟩
      funext k
      unfold whP
      rw [e]
      rfl
    | true =>
      obtain ⟨x, hx, lt⟩ := l.yes rfl
      have := slack_lt (m := m + B.names.length) l.ge hx lt (by have := l.rl.le h nr hm hx; omega)
      obtain ⟨u, e2, rl2, f2⟩ := whP_rows h nr hm n t l.rl (by omega)
      refine ⟨u, ?_, rl2, f2⟩
      funext k
      unfold whP
      rw [e]
      exact congrFun e2 k
theorem upd_same {r : Nm → Nat} {s : Stp} (h : ¬ r s.2.1 < r s.2.2 + wt s.1) : upd r s = r := if_neg h
theorem dgT_rw {B : Bk} {r : Nm → Nat} {x : Nm} (h : x ∈ B.names) : dgT emp (.dct false (rwV B r).1 (rwV B r).2) (.str x) = some (.int (r x : Nat)) := dgT_strs (F := fun n => T.int (r n : Nat)) h
theorem link_pth {B : Bk} : ∀ {r : List Stp} {s z : Stp}, (∀ x ∈ s :: r, x ∈ stepsB B) → ((s :: r).zip (r ++ [z])).all linkP = true → Pth B s.2.1 z.2.1 (s :: r)
  | [], s, z, h, l => by
    have l : (linkP (s, z) && true) = true := l
    rw [Bool.and_true] at l
    have l : s.2.2 = z.2.1 := of_decide_eq_true l
    exact ⟨h s (.head _), rfl, l⟩
  | t :: r, s, z, h, l => by
    have l : (linkP (s, t) && ((t :: r).zip (r ++ [z])).all linkP) = true := l
    rw [Bool.and_eq_true] at l
    have e : s.2.2 = t.2.1 := of_decide_eq_true l.1
    have p := link_pth (fun x hx => h x (.tail _ hx)) l.2
    rw [← e] at p
    exact ⟨h s (.head _), rfl, p⟩
theorem ring_no {B : Bk} (h : BkOk B) {ring : List Stp} (ne : ring ≠ []) (all : ∀ s ∈ ring, s ∈ stepsB B) (lnk : linkA ring = true) (chd : ring.any isCh = true) : ¬ NoRg B := fun nr => by
  cases ring with
  | nil => exact ne rfl
  | cons s r =>
    have p := link_pth (r := r) (s := s) (z := s) all lnk
    have z := loop_flat h nr p
    obtain ⟨x, hx, c⟩ := List.any_eq_true.mp chd
    have c : x.1 = wC := of_decide_eq_true c
    have pos : ∀ {xs : List Stp}, x ∈ xs → chN xs ≠ 0 := fun {xs} => by
      induction xs with
      | nil => intro m; cases m
      | cons y ys ih =>
        intro m
        show wt y.1 + chN ys ≠ 0
        rcases List.mem_cons.mp m with rfl | m
        · rw [show wt x.1 = 1 from if_pos c]
          omega
        · have := ih m
          omega
    exact pos hx z
theorem RingOk.no {B : Bk} (h : BkOk B) {ring : List Stp} (ro : RingOk B ring) : ¬ NoRg B := ring_no h ro.ne ro.all ro.lnk ro.chd
theorem rows_of_eq {B : Bk} (h : BkOk B) (e : m_closed_steps (bkT B) = pu .non) (nr : NoRg B) : ∃ r, Rlx B (fun _ => 0) r ∧ Fit B r ∧ m_rows_of (bkT B) = pu (.tup (B.names.map fun n => T.int (r n : Nat))) := by
  have hs := sizeLine_eq
  have nl : B.names.length ≤ 16 := by unfold Bk.names; rw [List.length_map]; exact h.lf
  obtain ⟨r, e2, rl, f⟩ := whP_rows h nr (r0 := fun _ => 0) (m := 0) (fun _ => Nat.le_refl _) fuel (fun _ => 0) (Rlx.refl B _) (by
    have := slack_le (B := B) (0 + B.names.length) (fun _ => 0)
    have : B.names.length * (0 + B.names.length) ≤ 16 * 16 := Nat.mul_le_mul nl (by omega)
    unfold fuel
    omega)
  refine ⟨r, rl, f, ?_⟩
  have i1 : isnT emp .non .non = some (.bl false) := rfl
  have i2 : itemsM (κ := Unit) (.lst (B.names.map T.str)) = pu (B.names.map T.str) := rfl
  have mg : mrgM (κ := Unit) (.lst (B.names.map fun n => .tup [.str n, .int 0])) = pu (rwV B fun _ => 0) := mrgM_strs (F := fun _ => .int 0) h.nd
  unfold m_rows_of
  rw [pu_bd, e, lft_pu, pu_bd, pu_bd, pu_bd, i1, ofO_some, pu_bd, tb_bl, pu_bd, if_neg (by simp)]
  simp_arith [names_of_eq h]
  rw [gdc_b (by omega), mg, pu_bd, e2, pu_bd]
  rw [gdc_b (by omega), compA_congr (g := fun x => pu (some (T.int (r x : Nat)))) fun x hx => ?_]
  · rw [compA_pu, pu_bd]
  · show bd (ofO (dgT emp (.dct false (B.names.map T.str) (B.names.map fun n => T.int (r n : Nat))) (.str x))) _ = _
    rw [dgT_strs (F := fun n => T.int (r n : Nat)) hx, ofO_some, pu_bd]
def hdF (f : List Nm) : Nm := f.headD []
theorem hd_ix {f : List Nm} (h : LFam f) : ixT emp (famT f) (.int 0) = some (.str (hdF f)) := by
  have := h.lo
  cases f with
  | nil => simp at this
  | cons a f =>
    show L2.atI ((a :: f).map T.str) ((0 : Nat) : Int) = _
    rw [atI_natE]
    rfl
theorem hd_mem {f : List Nm} (h : LFam f) : hdF f ∈ f := by
  have := h.lo
  cases f with
  | nil => simp at this
  | cons a f => exact .head _
abbrev Hts := List (List Nm × (Int × Int))
def hdS (l : Hts) : List T × List T := (l.map fun p => famT p.1, l.map fun p => hgT p.2)
def trT (t : List (List Nm)) : T := .tup (t.map famT)
def rowH (i : Nat) (t : List (List Nm)) (k : Nat) : Hts := (t.zipIdx k).map fun q => (q.1, ((i : Int), (q.2 : Int) + 1))
def hts (tr : List (List (List Nm))) (n : Nat) : Hts := (tr.zipIdx n).flatMap fun p => rowH p.2 p.1 0
theorem put_new {κ : Type} {l : Hts} {f : List Nm} {h : Int × Int} (hf : f ∉ l.map (·.1)) (hl : l.length < 1000000) : tputM (κ := κ) (hdS l) (famT f) (hgT h) = pu (hdS (l ++ [(f, h)])) := by
  have hs := sizeLine_eq
  have e : (hdS l).1 = (l.map (·.1)).map famT := by unfold hdS; rw [List.map_map]; rfl
  have nh : nHs (hdS l).1 (fkey f) = false := by rw [e, nHs_fam]; exact decide_eq_false hf
  unfold tputM
  rw [tky_fam]
  dsimp only
  rw [gd_true (by unfold hdS; rw [List.length_map]; omega), pu_bd]
  unfold nPk nPv
  rw [nh, if_neg (by decide), if_neg (by decide)]
  unfold hdS
  simp
theorem forM_enum {α κ σ : Type} {F : T → σ → PM κ σ} {g : α → T} (xs : List α) (s : σ) : forM F (enumL (xs.map g)) s = forA (fun p s => F (.tup [.int (p.2 : Nat), g p.1]) s) xs.zipIdx s := by
  have e : enumL (xs.map g) = xs.zipIdx.map fun p => .tup [.int (p.2 : Nat), g p.1] := by
    unfold enumL
    rw [List.zipIdx_map, List.map_map]
    rfl
  rw [e, forM_map]
theorem row_loop {κ : Type} {G : List Nm × Nat → List T × List T → PM κ (List T × List T)} {i : Nat} (hG : ∀ f k l, G (f, k) (hdS l) = tputM (hdS l) (famT f) (hgT ((i : Int), (k : Int) + 1))) : ∀ (t : List (List Nm)) (k : Nat) (l : Hts), t.Nodup → (∀ f ∈ t, f ∉ l.map (·.1)) → l.length + t.length < 1000000 → forA G (t.zipIdx k) (hdS l) = pu (hdS (l ++ rowH i t k))
  | [], k, l, _, _, _ => by
    show pu _ = pu _
    unfold rowH
    simp
  | f :: t, k, l, nd, nl, hl => by
    rw [List.zipIdx_cons]
    show bd (G (f, k) (hdS l)) _ = _
    obtain ⟨n1, n2⟩ := List.nodup_cons.mp nd
    rw [List.length_cons] at hl
    rw [hG, put_new (nl f (.head _)) (by omega), pu_bd, row_loop hG t (k + 1) (l ++ [(f, ((i : Int), (k : Int) + 1))]) n2 (fun g hg => ?_) (by rw [List.length_append, List.length_singleton]; omega)]
    · rw [List.append_assoc]
      rfl
    · rw [List.map_append]
      intro m
      rcases List.mem_append.mp m with m | m
      · exact nl g (.tail _ hg) m
      · have : g = f := List.mem_singleton.mp m
        exact n1 (this ▸ hg)
theorem rowH_len (i : Nat) (t : List (List Nm)) (k : Nat) : (rowH i t k).length = t.length := by unfold rowH; simp
theorem rowH_fst (i : Nat) (t : List (List Nm)) (k : Nat) : (rowH i t k).map (·.1) = t := by
  unfold rowH
  rw [List.map_map]
  have : (fun x : List Nm × (Int × Int) => x.1) ∘ (fun q : List Nm × Nat => (q.1, ((i : Int), (q.2 : Int) + 1))) = Prod.fst := by funext q; rfl
  rw [this, List.zipIdx_map_fst]
theorem rows_loop {κ : Type} {G : List (List Nm) × Nat → List T × List T → PM κ (List T × List T)} (hG : ∀ t i l, t.Nodup → (∀ f ∈ t, f ∉ l.map (·.1)) → l.length + t.length < 1000000 → G (t, i) (hdS l) = pu (hdS (l ++ rowH i t 0))) : ∀ (tr : List (List (List Nm))) (n : Nat) (l : Hts), tr.flatten.Nodup → (∀ f ∈ tr.flatten, f ∉ l.map (·.1)) → l.length + tr.flatten.length < 1000000 → forA G (tr.zipIdx n) (hdS l) = pu (hdS (l ++ hts tr n))
  | [], n, l, _, _, _ => by
    show pu _ = pu _
    unfold hts
    simp
  | t :: tr, n, l, nd, nl, hl => by
    rw [List.zipIdx_cons]
    show bd (G (t, n) (hdS l)) _ = _
    rw [List.flatten_cons] at nd nl hl
    obtain ⟨n1, n2, n3⟩ := List.nodup_append.mp nd
    rw [List.length_append] at hl
    rw [hG t n l n1 (fun f hf => nl f (List.mem_append_left _ hf)) (by omega), pu_bd, rows_loop hG tr (n + 1) _ n2 (fun g hg => ?_) (by rw [List.length_append, rowH_len]; omega)]
    · rw [List.append_assoc]
      rfl
    · rw [List.map_append, rowH_fst]
      intro m
      rcases List.mem_append.mp m with m | m
      · exact nl g (List.mem_append_right _ hg) m
      · exact n3 g m g hg rfl
def htT (tr : List (List (List Nm))) : T := .dct (dnk (hdS (hts tr 0)).1) (hdS (hts tr 0)).1 (hdS (hts tr 0)).2
theorem heights_of_eq {tr : List (List (List Nm))} (nd : tr.flatten.Nodup) (l : tr.flatten.length ≤ 1000) : m_heights_of (.tup (tr.map trT)) = pu (htT tr) := by
  have u2 : ∀ x y : T, un2 (.tup [x, y]) = some (x, y) := fun _ _ => rfl
  unfold m_heights_of
  rw [pu_bd, pu_bd, enumM_tup, pu_bd, forM_enum]
  simp_arith [u2]
  have z := rows_loop (κ := Unit) (G := fun p s => bd (enumM (trT p.1)) fun xs16 => TL.forM (fun x7 (s6 : List T × List T) => bd (ofO (un2 x7)) fun b8 => bd (ofO (addT emp b8.1 (.int 1))) fun v12 => tputM s6 b8.2 (.tup [.int (p.2 : Nat), v12])) xs16 s) (fun t i l nd nl hl => by
    dsimp only
    rw [show enumM (κ := Unit) (trT t) = pu (enumL (t.map famT)) from rfl, pu_bd, forM_enum]
    refine row_loop (fun f k l => ?_) t 0 l nd nl hl
    simp_arith [u2]
    rfl) tr 0 [] nd (fun _ _ => nofun) (by rw [List.length_nil]; omega)
  rw [show (([], []) : List T × List T) = hdS [] from rfl, z, pu_bd, List.nil_append]
  rfl
def ht (tr : List (List (List Nm))) (f : List Nm) : Int × Int := ((hts tr 0).lookup f).getD (0, 0)
theorem hts_fst (tr : List (List (List Nm))) (n : Nat) : (hts tr n).map (·.1) = tr.flatten := by
  induction tr generalizing n with
  | nil => rfl
  | cons t tr ih =>
    unfold hts at ih ⊢
    rw [List.zipIdx_cons, List.flatMap_cons, List.map_append, rowH_fst, ih (n + 1), List.flatten_cons]
theorem lookup_self {α β : Type} [BEq α] [LawfulBEq α] : ∀ {l : List (α × β)}, (l.map (·.1)).Nodup → ∀ p ∈ l, l.lookup p.1 = some p.2
  | q :: l, nd, p, hp => by
    obtain ⟨n1, n2⟩ := List.nodup_cons.mp nd
    obtain ⟨a, b⟩ := q
    rw [List.lookup_cons]
    rcases List.mem_cons.mp hp with rfl | hp
    · rw [beq_self_eq_true]
    · have : (p.1 == a) = false := by
        rw [beq_eq_false_iff_ne]
        intro z
        have hm := List.mem_map_of_mem (f := fun x : α × β => x.1) hp
        rw [z] at hm
        exact n1 hm
      rw [this]
      exact lookup_self n2 p hp
theorem htT_eq {tr : List (List (List Nm))} (nd : tr.flatten.Nodup) : htT tr = .dct (dnk (tr.flatten.map famT)) (tr.flatten.map famT) (tr.flatten.map fun f => hgT (ht tr f)) := by
  have e1 : (hdS (hts tr 0)).1 = tr.flatten.map famT := by
    rw [← hts_fst tr 0, List.map_map]
    rfl
  have e2 : (hdS (hts tr 0)).2 = tr.flatten.map fun f => hgT (ht tr f) := by
    rw [← hts_fst tr 0, List.map_map]
    refine List.map_congr_left fun p hp => ?_
    have := lookup_self (l := hts tr 0) (by rw [hts_fst]; exact nd) p hp
    show hgT p.2 = hgT (((hts tr 0).lookup p.1).getD (0, 0))
    rw [this]
    rfl
  unfold htT
  rw [e1, e2]
theorem tg_ht {tr : List (List (List Nm))} (nd : tr.flatten.Nodup) {f : List Nm} (h : f ∈ tr.flatten) : tgT emp (htT tr) (famT f) = some (hgT (ht tr f)) := by
  rw [htT_eq nd]
  exact tgT_fam (F := fun f => hgT (ht tr f)) h
def topH (B : Bk) (r : Nm → Nat) (tr : List (List (List Nm))) (n : Nm) : Int × Int := minH ((r n : Int), 0) ((inB (B.births ++ B.adopts) n).map (ht tr))
def botH (B : Bk) (r : Nm → Nat) (tr : List (List (List Nm))) (n : Nm) : Int × Int := maxH ((r n : Int), 0) ((ofB B.unions n).map (ht tr))
abbrev rwD (B : Bk) (r : Nm → Nat) : T := .dct false (rwV B r).1 (rwV B r).2
theorem kin_un {B : Bk} (h : BkOk B) {b : Nm × List Nm} (hb : b ∈ B.births ++ B.adopts) : b.2 ∈ B.unions := by
  rcases List.mem_append.mp hb with hb | hb
  · exact (h.bi b hb).2
  · exact (h.ad b hb).2
theorem compA_of {κ α : Type} {f : α → PM κ (Option T)} {p : α → Bool} {g : α → T} : ∀ (xs : List α), (∀ x ∈ xs, f x = pu (if p x = true then some (g x) else none)) → TL.compA f xs = pu ((xs.filter p).map g)
  | [], _ => rfl
  | x :: xs, h => by
    rw [compA_cons, h x (.head _), nox_pu, pu_bd, compA_of xs fun y hy => h y (.tail _ hy), pu_bd, List.filter_cons]
    by_cases z : p x = true
    · rw [if_pos z, if_pos z]; rfl
    · rw [if_neg z, if_neg z]; rfl
theorem comp_hts {κ : Type} {tr : List (List (List Nm))} (nd : tr.flatten.Nodup) {fs : List (List Nm)} (hf : ∀ f ∈ fs, f ∈ tr.flatten) : TL.compA (κ := κ) (fun a => bd (ofO (tgT emp (htT tr) (famT a))) fun v15 => pu (some v15)) fs = pu ((fs.map (ht tr)).map hgT) := by
  rw [compA_of (p := fun _ => true) (g := fun f => hgT (ht tr f)) fs fun f h => by rw [tg_ht nd (hf f h)]; rfl, List.map_map, List.filter_eq_self.mpr fun _ _ => rfl]
  rfl
theorem inB_len (bs : List (Nm × List Nm)) (n : Nm) : (inB bs n).length ≤ bs.length := by
  unfold inB
  rw [List.length_map]
  exact List.length_filter_le _ _
theorem ofB_len (us : List (List Nm)) (n : Nm) : (ofB us n).length ≤ us.length := List.length_filter_le _ _
theorem span_eq {B : Bk} (h : BkOk B) {r : Nm → Nat} {tr : List (List (List Nm))} (nd : tr.flatten.Nodup) (hu : ∀ f ∈ B.unions, f ∈ tr.flatten) {n : Nm} (hn : n ∈ B.names) : m_Kin_span (kinO B (rwD B r)) (.str n) (htT tr) = pu (.tup [hgT (topH B r tr n), hgT (botH B r tr n)]) := by
  have hs := sizeLine_eq
  have l1 := h.lb
  have l2 := h.la
  have l3 := h.lu
  have hk : ∀ f ∈ inB (B.births ++ B.adopts) n, f ∈ tr.flatten := fun f hf => by
    obtain ⟨b, hb, rfl⟩ := List.mem_map.mp hf
    exact hu _ (kin_un h (List.mem_filter.mp hb).1)
  have hp : ∀ f ∈ ofB B.unions n, f ∈ tr.flatten := fun f hf => hu _ (List.mem_filter.mp hf).1
  have lk := inB_len (B.births ++ B.adopts) n
  rw [List.length_append] at lk
  have lu := ofB_len B.unions n
  have f1 : fldT "rows" (okL fc_rows) emp (kinO B (rwD B r)) = some (rwD B r) := rfl
  have f2 : fldT "child_in" (okL fc_child_in) emp (kinO B (rwD B r)) = some (chO B) := rfl
  have f3 : fldT "parent_in" (okL fc_parent_in) emp (kinO B (rwD B r)) = some (paO B) := rfl
  have d2 : dgT emp (chO B) (.str n) = some (.lst ((inB (B.births ++ B.adopts) n).map famT)) := dgT_strs (F := fun n => .lst ((inB (B.births ++ B.adopts) n).map famT)) hn
  have d3 : dgT emp (paO B) (.str n) = some (.lst ((ofB B.unions n).map famT)) := dgT_strs (F := fun n => .lst ((ofB B.unions n).map famT)) hn
  unfold m_Kin_span
  simp_arith [f1, f2, f3, dgT_rw hn, d2, d3]
  rw [gdc_b (by omega), comp_hts nd hk, pu_bd, gdc_b (by rw [List.length_map, List.length_map, List.length_singleton]; omega)]
  rw [show [T.tup [T.int (r n : Nat), T.int 0]] ++ ((inB (B.births ++ B.adopts) n).map (ht tr)).map hgT = ((((r n : Nat) : Int), 0) :: (inB (B.births ++ B.adopts) n).map (ht tr)).map hgT from rfl, min1H_l, ofO_some, pu_bd, gdc_b (by omega), comp_hts nd hp, pu_bd, gdc_b (by rw [List.length_map, List.length_map, List.length_singleton]; omega)]
  rw [show [T.tup [T.int (r n : Nat), T.int 0]] ++ ((ofB B.unions n).map (ht tr)).map hgT = ((((r n : Nat) : Int), 0) :: (ofB B.unions n).map (ht tr)).map hgT from rfl, max1H_l, ofO_some, pu_bd]
  rfl
theorem zip_idx {cs : List Nm} (nc : cs.Nodup) : cs.zipIdx = cs.map fun n => (n, cs.idxOf n) := by
  refine List.ext_getElem? fun i => ?_
  rw [List.getElem?_zipIdx, List.getElem?_map]
  by_cases h : i < cs.length
  · rw [List.getElem?_eq_getElem h]
    show some (cs[i], 0 + i) = some (cs[i], cs.idxOf cs[i])
    rw [nc.idxOf_getElem i h, Nat.zero_add]
  · rw [List.getElem?_eq_none (by omega)]
    rfl
def plT (cs : List Nm) : T := .dct false (cs.map T.str) (cs.map fun n => .int (cs.idxOf n : Nat))
theorem places_eq {β : Type} {cs : List Nm} (nc : cs.Nodup) (l : cs.length ≤ 1000) (X : T → PM Unit β) : (bd (enumM (.tup (cs.map T.str))) fun a => bd (compG (fun x1 => bd (ofO (un2 x1)) fun b2 => pu (some (T.tup [b2.snd, b2.fst]))) a) fun a => bd (ofO (dictF emp [T.lst a])) X) = X (plT cs) := by
  have hs := sizeLine_eq
  have e : enumL (cs.map T.str) = cs.map fun n => .tup [.int (cs.idxOf n : Nat), .str n] := by
    unfold enumL
    rw [List.zipIdx_map, zip_idx nc, List.map_map, List.map_map]
    rfl
  rw [enumM_tup, pu_bd, e, compG_map, bd_bd, gdc_b (by omega), compA_of (p := fun _ => true) (g := fun n => .tup [.str n, .int (cs.idxOf n : Nat)]) cs fun n _ => ?_, pu_bd, List.filter_eq_self.mpr fun _ _ => rfl, dict_strs (F := fun n => .int (cs.idxOf n : Nat)) nc, ofO_some, pu_bd]
  · rfl
  · rfl
def kinL (B : Bk) (cs : List Nm) (f : List Nm) : List Int := (folkB B f).map fun n => ((cs.idxOf n : Nat) : Int)
def mnF (B : Bk) (cs : List Nm) (f : List Nm) : Int := minI (kinL B cs f)
def mxF (B : Bk) (cs : List Nm) (f : List Nm) : Int := maxI (kinL B cs f)
theorem folkB_ne {B : Bk} {f : List Nm} (hf : LFam f) : folkB B f ≠ [] := fun z => by
  have := hf.lo
  have e := congrArg List.length z
  unfold folkB at e
  rw [List.length_append, List.length_nil] at e
  omega
theorem folkB_mem {B : Bk} (h : BkOk B) {f : List Nm} (hf : f ∈ B.unions) {n : Nm} (hn : n ∈ folkB B f) : n ∈ B.names := by
  unfold folkB at hn
  rcases List.mem_append.mp hn with hn | hn
  · exact (h.un f hf).mem n hn
  · unfold kidsB at hn
    obtain ⟨b, hb, rfl⟩ := List.mem_map.mp hn
    rcases List.mem_append.mp (List.mem_filter.mp hb).1 with hb | hb
    · exact (h.bi b hb).1
    · exact (h.ad b hb).1
theorem folkB_len {B : Bk} (h : BkOk B) {f : List Nm} (hf : LFam f) : (folkB B f).length ≤ 40 := by
  have := hf.hi
  have l1 := h.lb
  have l2 := h.la
  unfold folkB kidsB
  rw [List.length_append, List.length_map]
  have := List.length_filter_le (fun b : Nm × List Nm => decide (b.2 = f)) (B.births ++ B.adopts)
  rw [List.length_append] at this
  omega
theorem folk_tg {B : Bk} {D : T} {f : List Nm} (hf : f ∈ B.unions) : tgT emp (folkO B) (famT f) = some (.lst ((folkB B f).map T.str)) := tgT_fam (F := fun f => .lst ((folkB B f).map T.str)) hf
theorem bar_eq {B : Bk} (h : BkOk B) {D : T} {cs : List Nm} (hc : ∀ n ∈ B.names, n ∈ cs) {f : List Nm} (hf : f ∈ B.unions) : m_Kin_bar (kinO B D) (famT f) (plT cs) = pu (.tup [.int (mnF B cs f), .int (mxF B cs f)]) := by
  have hs := sizeLine_eq
  have lf := fam_l h hf
  have l := folkB_len h lf
  have f1 : fldT "folk" (okL fc_folk) emp (kinO B D) = some (folkO B) := rfl
  have ne : kinL B cs f ≠ [] := fun z => folkB_ne lf (List.map_eq_nil_iff.mp z)
  have e : ((folkB B f).map fun n => T.int (cs.idxOf n : Nat)) = (kinL B cs f).map T.int := by
    unfold kinL
    rw [List.map_map]
    rfl
  unfold m_Kin_bar
  simp_arith [f1, folk_tg (D := D) hf]
  rw [gdc_b (by omega), compA_of (p := fun _ => true) (g := fun n => T.int (cs.idxOf n : Nat)) (folkB B f) fun n hn => ?_, pu_bd, List.filter_eq_self.mpr fun _ _ => rfl, e, min1F_l ne, ofO_some, pu_bd, max1F_l ne, ofO_some, pu_bd]
  · rfl
  · have := dgT_strs (F := fun n => T.int (cs.idxOf n : Nat)) (hc n (folkB_mem h hf hn))
    unfold plT
    rw [this]
    rfl
theorem leT_hg (p r : Int × Int) : leT emp (hgT p) (hgT r) = some (.bl (!ltt (hgT r) (hgT p))) := if_pos rfl
def endT (B : Bk) (r : Nm → Nat) (tr : List (List (List Nm))) (n : Nm) : T := .tup [hgT (topH B r tr n), hgT (botH B r tr n)]
def okC (B : Bk) (r : Nm → Nat) (tr : List (List (List Nm))) (f : List Nm) (n : Nm) : Bool := (!ltt (hgT (ht tr f)) (hgT (topH B r tr n)) && !ltt (hgT (botH B r tr n)) (hgT (ht tr f))) && decide (n ∉ folkB B f)
def betw (B : Bk) (cs : List Nm) (f : List Nm) (n : Nm) : Bool := decide (mnF B cs f < (cs.idxOf n : Nat)) && decide (((cs.idxOf n : Nat) : Int) < mxF B cs f)
def cntF (B : Bk) (r : Nm → Nat) (cs : List Nm) (tr : List (List (List Nm))) (f : List Nm) : Nat := ((cs.filter (betw B cs f)).filter (okC B r tr f)).length
theorem cnt_loop {κ α : Type} {F : α → T → PM κ T} {c : α → Bool} : ∀ (xs : List α) (k : Int), (∀ x ∈ xs, ∀ k, F x (.int k) = pu (.int (k + if c x = true then 1 else 0))) → forA F xs (.int k) = pu (.int (k + ((xs.filter c).length : Nat)))
  | [], k, _ => by
    show pu _ = pu _
    simp
  | x :: xs, k, h => by
    show bd (F x (.int k)) _ = _
    rw [h x (.head _), pu_bd, cnt_loop xs _ fun y hy => h y (.tail _ hy), List.filter_cons]
    by_cases z : c x = true
    · rw [if_pos z, if_pos z, List.length_cons]
      congr 2
      push_cast
      omega
    · rw [if_neg z, if_neg z, Int.add_zero]
def crossN (B : Bk) (r : Nm → Nat) (cs : List Nm) (tr : List (List (List Nm))) : List (List Nm) → Nat
  | [] => 0
  | f :: fs => cntF B r cs tr f + crossN B r cs tr fs
theorem cross_loop {κ : Type} {B : Bk} {r : Nm → Nat} {cs : List Nm} {tr : List (List (List Nm))} {F : List Nm → T → PM κ T} : ∀ (fs : List (List Nm)) (k : Int), (∀ f ∈ fs, ∀ k, F f (.int k) = pu (.int (k + (cntF B r cs tr f : Nat)))) → forA F fs (.int k) = pu (.int (k + (crossN B r cs tr fs : Nat)))
  | [], k, _ => by
    show pu _ = pu _
    unfold crossN
    simp
  | f :: fs, k, h => by
    show bd (F f (.int k)) _ = _
    rw [h f (.head _), pu_bd, cross_loop fs _ fun g hg => h g (.tail _ hg)]
    rw [show crossN B r cs tr (f :: fs) = cntF B r cs tr f + crossN B r cs tr fs from rfl, Int.natCast_add, Int.add_assoc]
def lnT (B : Bk) (r : Nm → Nat) (cs : List Nm) (tr : List (List (List Nm))) (n : Nm) : T := .tup [.str n, .int (cs.idxOf n : Nat), endT B r tr n]
theorem crossed_eq {B : Bk} (h : BkOk B) {r : Nm → Nat} {cs : List Nm} {tr : List (List (List Nm))} (nc : cs.Nodup) (l : cs.length ≤ 1000) (nd : tr.flatten.Nodup) (lt : tr.flatten.length ≤ 1000) (hu : ∀ f ∈ B.unions, f ∈ tr.flatten) (hc : ∀ n, n ∈ cs ↔ n ∈ B.names) : m_Kin_crossed (kinO B (rwD B r)) (.tup (cs.map T.str)) (.tup (tr.map trT)) = pu (.int (crossN B r cs tr B.unions : Nat)) := by
  have hs := sizeLine_eq
  have f1 : fldT "folk" (okL fc_folk) emp (kinO B (rwD B r)) = some (folkO B) := rfl
  have o1 : isOb "Kin" "span" (kinO B (rwD B r)) = true := rfl
  have o2 : isOb "Kin" "bar" (kinO B (rwD B r)) = true := rfl
  have wk : walkM (κ := Unit) false (folkO B) = pu (B.unions.map famT) := rfl
  unfold m_Kin_crossed
  simp_arith [heights_of_eq nd lt, f1, wk]
  rw [places_eq nc l]
  rw [gdc_b (by omega), compA_of (p := fun _ => true) (g := lnT B r cs tr) cs fun n hn => ?_, pu_bd, List.filter_eq_self.mpr fun _ _ => rfl]
  rotate_left
  · have hn' := (hc n).mp hn
    have d := dgT_strs (F := fun n => T.int (cs.idxOf n : Nat)) hn
    unfold plT
    rw [d, ofO_some, pu_bd, gdc_b o1, span_eq h nd hu hn', lft_pu, pu_bd]
    rfl
  have u2 : ∀ x y : T, un2 (.tup [x, y]) = some (x, y) := fun _ _ => rfl
  have u3 : ∀ n, un3 (lnT B r cs tr n) = some (.str n, .int (cs.idxOf n : Nat), endT B r tr n) := fun _ => rfl
  have z := cross_loop (κ := Unit) (B := B) (r := r) (cs := cs) (tr := tr) (F := fun f s30 => bd (gdc (isOb "Kin" "bar" (kinO B (rwD B r)) = true)) fun _ => bd (lft (m_Kin_bar (kinO B (rwD B r)) (famT f) (plT cs))) fun v35 => bd (ofO (un2 v35)) fun b36 => bd (ofO (tgT emp (htT tr) (famT f))) fun v39 => TL.forM (fun x42 s41 => bd (ofO (un3 x42)) fun b43 => bd (ofO (ltT emp b36.fst b43.snd.fst)) fun a => bd (tb a) fun a => bd (if a = true then ofO (ltT emp b43.snd.fst b36.snd) else pu (T.bl false)) fun a => bd (tb a) fun a => bd (if a = true then bd (ofO (ixT emp b43.snd.snd (T.int 0))) fun a => bd (ofO (leT emp a v39)) fun a => bd (tb a) fun a => bd (if a = true then bd (ofO (ixT emp b43.snd.snd (T.int 1))) fun v57 => ofO (leT emp v39 v57) else pu (T.bl false)) fun a => bd (tb a) fun v58 => if v58 = true then bd (ofO (tgT emp (folkO B) (famT f))) fun a => bd (ofO (ninT emp b43.fst a)) tb else pu false else pu false) fun v65 => if v65 = true then ofO (addT emp s41 (T.int 1)) else pu s41) (cs.map (lnT B r cs tr)) s30) B.unions 0 fun f hf k => by
    rw [gdc_b o2, bar_eq h (fun n hn => (hc n).mpr hn) hf, lft_pu, pu_bd, u2, ofO_some, pu_bd, tg_ht nd (hu f hf), ofO_some, pu_bd, forM_map]
    unfold cntF
    rw [List.filter_filter]
    refine cnt_loop cs k fun n hn k => ?_
    have ni : ninT emp (.str n) (.lst ((folkB B f).map T.str)) = some (.bl (decide (n ∉ folkB B f))) := by
      rw [(ke_str.ninT n (folkB B f)).2]
      congr 2
      by_cases z : n ∈ folkB B f <;> simp [z]
    have e0 : ∀ x y : T, ixT emp (.tup [x, y]) (.int 0) = some x := fun _ _ => rfl
    have e1 : ∀ x y : T, ixT emp (.tup [x, y]) (.int 1) = some y := fun _ _ => rfl
    have l1 : ∀ a b : Int, ltT emp (.int a) (.int b) = some (.bl (decide (a < b))) := fun _ _ => rfl
    rw [u3, ofO_some, pu_bd]
    dsimp only
    unfold endT
    rw [l1, ofO_some, pu_bd, tb_bl, pu_bd, l1]
    have le1 := leT_hg (topH B r tr n) (ht tr f)
    have le2 := leT_hg (ht tr f) (botH B r tr n)
    have tf := folk_tg (D := .non) hf
    unfold okC betw
    generalize decide (mnF B cs f < ((cs.idxOf n : Nat) : Int)) = b1
    generalize decide (((cs.idxOf n : Nat) : Int) < mxF B cs f) = b2
    generalize (!ltt (hgT (ht tr f)) (hgT (topH B r tr n))) = b3 at le1 ⊢
    generalize (!ltt (hgT (botH B r tr n)) (hgT (ht tr f))) = b4 at le2 ⊢
    generalize decide (n ∉ folkB B f) = b5 at ni ⊢
    have ad : ofO (κ := Unit) (addT emp (.int k) (.int 1)) = pu (.int (k + 1)) := rfl
    simp_arith [e0, e1, le1, le2, tf, ni, ad]
    cases b1 <;> cases b2 <;> cases b3 <;> cases b4 <;> cases b5 <;> first | rfl | (simp; rfl)
  rw [Int.zero_add] at z
  exact z
theorem least_le {B : Bk} {u v : Nm → Nat} (a : Rlx B (fun _ => 0) u) (g : Fit B v) (x : Nm) : u x ≤ v x := by
  obtain ⟨y, xs, p, e⟩ := a.up x
  have e : u x = 0 + chN xs := e
  have := g.pth p
  omega
theorem least_uniq {B : Bk} {u v : Nm → Nat} (a : Rlx B (fun _ => 0) u) (f : Fit B u) (b : Rlx B (fun _ => 0) v) (g : Fit B v) : u = v := funext fun x => Nat.le_antisymm (least_le a g x) (least_le b f x)
theorem row_by_name_eq {B : Bk} (h : BkOk B) {u : Nm → Nat} (rl : Rlx B (fun _ => 0) u) (f : Fit B u) : m_row_by_name (bkT B) = pu (rwD B u) := by
  have hs := sizeLine_eq
  have lf := h.lf
  have nr := f.no_ring h
  have i0 : ixT emp (bkT B) (.int 0) = some (.tup (B.folk.map fkT)) := rfl
  obtain ⟨r, rl2, f2, e⟩ : ∃ r, Rlx B (fun _ => 0) r ∧ Fit B r ∧ m_rows_of (bkT B) = pu (.tup (B.names.map fun n => T.int (r n : Nat))) := by
    rcases closed_steps_eq h with ⟨ring, e, ro⟩ | ⟨e, _⟩
    · exact absurd nr (ro.no h)
    · exact rows_of_eq h e nr
  obtain rfl := least_uniq rl2 f2 rl f
  have ez : zipL (B.folk.map fkT) (B.names.map fun n => T.int (r n : Nat)) = B.folk.map fun p => .tup [fkT p, .int (r p.1 : Nat)] := by
    unfold zipL Bk.names
    rw [List.map_map, List.zip_map', List.map_map]
    rfl
  have zm : zipM (κ := Unit) (.tup (B.folk.map fkT)) (.tup (B.names.map fun n => T.int (r n : Nat))) = pu (zipL (B.folk.map fkT) (B.names.map fun n => T.int (r n : Nat))) := zipM_tt
  unfold m_row_by_name
  simp_arith [i0, e, zm, ez]
  rw [gdc_b (by omega), compA_of (p := fun _ => true) (g := fun p => T.tup [.str p.1, .int (r p.1 : Nat)]) B.folk fun p hp => ?_, pu_bd, List.filter_eq_self.mpr fun _ _ => rfl]
  rotate_left
  · rfl
  rw [show (B.folk.map fun p => T.tup [.str p.1, .int (r p.1 : Nat)]) = B.names.map fun n => .tup [.str n, .int (r n : Nat)] from by unfold Bk.names; rw [List.map_map]; rfl, dict_strs (F := fun n => .int (r n : Nat)) h.nd]
  rfl
theorem crossings_eq {B : Bk} (h : BkOk B) {r : Nm → Nat} (rl : Rlx B (fun _ => 0) r) (f : Fit B r) {cs : List Nm} {tr : List (List (List Nm))} (nc : cs.Nodup) (l : cs.length ≤ 1000) (nd : tr.flatten.Nodup) (lt : tr.flatten.length ≤ 1000) (hu : ∀ f ∈ B.unions, f ∈ tr.flatten) (hc : ∀ n, n ∈ cs ↔ n ∈ B.names) : m_crossings (bkT B) (.tup [.tup (cs.map T.str), .tup (tr.map trT)]) = pu (.int (crossN B r cs tr B.unions : Nat)) := by
  have e0 : ∀ x y : T, ixT emp (.tup [x, y]) (.int 0) = some x := fun _ _ => rfl
  have e1 : ∀ x y : T, ixT emp (.tup [x, y]) (.int 1) = some y := fun _ _ => rfl
  have o : isOb "Kin" "crossed" (kinO B (rwD B r)) = true := rfl
  have k : m_Kin___init__ (bkT B) = pu (kinO B (rwD B r)) := kinM_eq h (row_by_name_eq h rl f)
  unfold m_crossings
  simp_arith [k, e0, e1, o, crossed_eq h nc l nd lt hu hc]
theorem betw_iff {B : Bk} {cs : List Nm} {f : List Nm} (ne : kinL B cs f ≠ []) {n : Nm} : betw B cs f n = true ↔ (∃ a ∈ folkB B f, cs.idxOf a < cs.idxOf n) ∧ ∃ b ∈ folkB B f, cs.idxOf n < cs.idxOf b := by
  obtain ⟨x, hx, e1⟩ := List.mem_map.mp (minI_mem ne)
  obtain ⟨y, hy, e2⟩ := List.mem_map.mp (maxI_mem ne)
  have m1 : mnF B cs f = ((cs.idxOf x : Nat) : Int) := e1.symm
  have m2 : mxF B cs f = ((cs.idxOf y : Nat) : Int) := e2.symm
  unfold betw
  rw [Bool.and_eq_true, decide_eq_true_eq, decide_eq_true_eq]
  constructor
  · rintro ⟨a, b⟩
    exact ⟨⟨x, hx, by omega⟩, y, hy, by omega⟩
  · rintro ⟨⟨a, ha, la⟩, b, hb, lb⟩
    have h1 : mnF B cs f ≤ ((cs.idxOf a : Nat) : Int) := minI_le (List.mem_map_of_mem ha)
    have h2 : ((cs.idxOf b : Nat) : Int) ≤ mxF B cs f := le_maxI (List.mem_map_of_mem hb)
    omega
def rowsN (B : Bk) (r : Nm → Nat) : Nat := (maxI ((0 : Int) :: B.names.map fun n => ((r n : Nat) : Int) + 1)).toNat
def unR (B : Bk) (r : Nm → Nat) (i : Nat) : List (List Nm) := B.unions.filter fun f => decide (r (hdF f) = i)
theorem rowsN_eq (B : Bk) (r : Nm → Nat) : maxI ((0 : Int) :: B.names.map fun n => ((r n : Nat) : Int) + 1) = (rowsN B r : Nat) := (Int.toNat_of_nonneg (le_maxI (.head _))).symm
theorem rowsN_lt {B : Bk} {r : Nm → Nat} {n : Nm} (h : n ∈ B.names) : r n < rowsN B r := by
  have := le_maxI (ns := (0 : Int) :: B.names.map fun n => ((r n : Nat) : Int) + 1) (.tail _ (List.mem_map_of_mem h))
  rw [rowsN_eq] at this
  omega
theorem rowsN_max {B : Bk} {r : Nm → Nat} (ne : B.names ≠ []) : maxI (B.names.map fun n => ((r n : Nat) : Int)) + 1 = (rowsN B r : Nat) := by
  have ne' : (B.names.map fun n => ((r n : Nat) : Int)) ≠ [] := fun z => ne (List.map_eq_nil_iff.mp z)
  obtain ⟨m, hm, e⟩ := List.mem_map.mp (maxI_mem ne')
  have a := rowsN_lt (r := r) hm
  have b : (rowsN B r : Int) ≤ maxI (B.names.map fun n => ((r n : Nat) : Int)) + 1 := by
    rw [← rowsN_eq]
    rcases List.mem_cons.mp (maxI_mem (List.cons_ne_nil (0 : Int) (B.names.map fun n => ((r n : Nat) : Int) + 1))) with z | z
    · rw [z]; omega
    · obtain ⟨n, hn, e2⟩ := List.mem_map.mp z
      rw [← e2]
      have := le_maxI (List.mem_map_of_mem (f := fun n => ((r n : Nat) : Int)) hn)
      omega
  omega
theorem rowsN_nil {B : Bk} {r : Nm → Nat} (e : B.names = []) : rowsN B r = 0 := by
  unfold rowsN
  rw [e]
  rfl
theorem rowsN_le {B : Bk} {r : Nm → Nat} {k : Nat} (h : ∀ n ∈ B.names, r n < k) : rowsN B r ≤ k := by
  by_cases ne : B.names = []
  · rw [rowsN_nil ne]; omega
  · have ne' : (B.names.map fun n => ((r n : Nat) : Int)) ≠ [] := fun z => ne (List.map_eq_nil_iff.mp z)
    obtain ⟨m, hm, e⟩ := List.mem_map.mp (maxI_mem ne')
    have := rowsN_max (r := r) ne
    have := h m hm
    omega
def urT (r : Nm → Nat) (n : Nat) (fs : List (List Nm)) : List (List T) := (List.range n).map fun i => (fs.filter fun f => decide (r (hdF f) = i)).map famT
theorem urT_len (r : Nm → Nat) (n : Nat) (fs : List (List Nm)) : (urT r n fs).length = n := by unfold urT; rw [List.length_map, List.length_range]
theorem urT_at {r : Nm → Nat} {n : Nat} {fs : List (List Nm)} {i : Nat} (h : i < n) : (urT r n fs)[i]? = some ((fs.filter fun f => decide (r (hdF f) = i)).map famT) := by
  unfold urT
  rw [List.getElem?_map, List.getElem?_range h]
  rfl
theorem ubr_step {B : Bk} (h : BkOk B) {r : Nm → Nat} {f : List Nm} (hf : f ∈ B.unions) (fs : List (List Nm)) {n : Nat} (hn : r (hdF f) < n) (l : fs.length < 1000000) : mF (rwD B r) (famT f) (urT r n fs) = pu (urT r n (fs ++ [f])) := by
  have hs := sizeLine_eq
  have lf := List.length_filter_le (fun f' => decide (r (hdF f') = r (hdF f))) fs
  have e : (urT r n fs).getD (r (hdF f)) [] = (fs.filter fun f' => decide (r (hdF f') = r (hdF f))).map famT := by
    rw [List.getD_eq_getElem?_getD, urT_at hn]
    rfl
  unfold mF
  rw [hd_ix (fam_l h hf), ofO_some, pu_bd, dgT_rw ((h.un f hf).mem _ (hd_mem (fam_l h hf))), ofO_some, pu_bd]
  unfold lolAp
  dsimp only
  rw [urT_len, ixN_nat hn]
  dsimp only
  rw [e, gd_true (by rw [List.length_map]; omega), pu_bd]
  congr 1
  refine List.ext_getElem? fun i => ?_
  rw [List.getElem?_set, urT_len]
  by_cases hi : r (hdF f) = i
  · subst hi
    rw [if_pos rfl, if_pos hn, urT_at hn, List.filter_append, List.map_append, List.filter_cons, if_pos (decide_eq_true rfl)]
    rfl
  · rw [if_neg hi]
    by_cases lt : i < n
    · rw [urT_at lt, urT_at lt, List.filter_append, List.filter_cons, if_neg (by simpa using hi), List.filter_nil, List.append_nil]
    · rw [List.getElem?_eq_none (by rw [urT_len]; omega), List.getElem?_eq_none (by rw [urT_len]; omega)]
theorem ubr_loop {B : Bk} (h : BkOk B) {r : Nm → Nat} {n : Nat} (hn : ∀ f ∈ B.unions, r (hdF f) < n) : ∀ (gs fs : List (List Nm)), (∀ f ∈ gs, f ∈ B.unions) → fs.length + gs.length < 1000000 → forA (fun f s => mF (rwD B r) (famT f) s) gs (urT r n fs) = pu (urT r n (fs ++ gs))
  | [], fs, _, _ => by
    rw [List.append_nil]
    rfl
  | g :: gs, fs, hg, l => by
    rw [List.length_cons] at l
    show bd (mF (rwD B r) (famT g) (urT r n fs)) _ = _
    rw [ubr_step h (hg g (.head _)) fs (hn g (hg g (.head _))) (by omega), pu_bd, ubr_loop h hn gs (fs ++ [g]) (fun f hf => hg f (.tail _ hf)) (by rw [List.length_append, List.length_singleton]; omega), List.append_assoc]
    rfl
def lrT (fs : List (List Nm)) : T := .lst (fs.map famT)
def ubrT (B : Bk) (r : Nm → Nat) : T := .lst (((List.range (rowsN B r)).map (unR B r)).map lrT)
theorem unions_by_rows_eq {B : Bk} (h : BkOk B) {r : Nm → Nat} (rl : Rlx B (fun _ => 0) r) (f : Fit B r) : m_unions_by_rows (bkT B) = pu (ubrT B r) := by
  have hs := sizeLine_eq
  have lu := h.lu
  have nl : B.names.length ≤ 16 := by unfold Bk.names; rw [List.length_map]; exact h.lf
  have i1 : ixT emp (bkT B) (.int 1) = some (.tup (B.unions.map famT)) := rfl
  have hr : ∀ n ∈ B.names, r n < 17 := fun n hn => by
    have := rl.le h (f.no_ring h) (m := 0) (fun _ => Nat.le_refl _) hn
    omega
  have le := rowsN_le hr
  have hn : ∀ f ∈ B.unions, r (hdF f) < rowsN B r := fun f hf => rowsN_lt ((h.un f hf).mem _ (hd_mem (fam_l h hf)))
  have dn : neD0 emp (rwD B r) (.dct false [] []) = some (.bl (!(B.names.map T.str).isEmpty)) := rfl
  have fin : (bd (bd (ofO (ixT emp (bkT B) (.int 1))) itemsM) fun fs => bd (TL.forM (mF (rwD B r)) fs (urT r (rowsN B r) [])) fun xss => pu (.lst (xss.map T.lst))) = (pu (ubrT B r) : PM Unit T) := by
    rw [i1, ofO_some, pu_bd, itemsM_tup, pu_bd, forM_map, ubr_loop h hn B.unions [] (fun _ h => h) (by rw [List.length_nil]; omega), pu_bd]
    unfold ubrT urT unR lrT
    rw [List.map_map, List.map_map]
    rfl
  unfold m_unions_by_rows
  rw [pu_bd, row_by_name_eq h rl f, lft_pu, pu_bd, pu_bd, pu_bd, dn, ofO_some, pu_bd, tb_bl, pu_bd, pu_bd, pu_bd]
  by_cases z : B.names = []
  · rw [z, List.map_nil, List.isEmpty_nil, Bool.not_true, if_neg (by decide), pu_bd]
    have e : urT r (rowsN B r) [] = [] := by rw [rowsN_nil z]; rfl
    rw [e] at fin
    exact fin
  · have e : (B.names.map T.str).isEmpty = false := by
      rw [List.isEmpty_eq_false_iff]
      exact fun y => z (List.map_eq_nil_iff.mp y)
    have mx : maxDT emp (rwD B r) = some (.int (maxI (B.names.map fun n => ((r n : Nat) : Int)))) := by
      show (intsT (B.names.map fun n => T.int (r n : Nat))).bind _ = _
      rw [intsT_map]
      show (if (B.names.map fun n => ((r n : Nat) : Int)).isEmpty = true then none else some _) = _
      rw [if_neg]
      rw [List.isEmpty_iff]
      exact fun y => z (List.map_eq_nil_iff.mp y)
    rw [e, Bool.not_false, if_pos rfl, pu_bd, mx, ofO_some, pu_bd, pu_bd, addT_int, ofO_some, pu_bd, rowsN_max z, rng1_int (by omega), pu_bd, gd_true (by rw [List.length_map, List.length_range]; omega), pu_bd, pu_bd]
    have e2 : (((List.range ((rowsN B r : Nat) : Int).toNat).map fun i => T.int (0 + (i : Nat))).map fun _ => ([] : List T)) = urT r (rowsN B r) [] := by
      rw [List.map_map, Int.toNat_natCast]
      rfl
    rw [e2]
    exact fin
def justB {α : Type} [DecidableEq α] (xs ys : List α) : Bool := decide (ys.length = xs.length) && xs.all fun x => decide (x ∈ ys)
theorem blsOf_map {α : Type} {b : α → Bool} : ∀ xs : List α, blsOf (xs.map fun x => T.bl (b x)) = some (xs.map b)
  | [] => rfl
  | x :: xs => by
    show (blsOf (xs.map fun x => T.bl (b x))).map _ = _
    rw [blsOf_map xs]
    rfl
theorem allF_map {α : Type} {b : α → Bool} (xs : List α) : allF emp [.lst (xs.map fun x => T.bl (b x))] = some (.bl (xs.all b)) := by
  show (blsOf (xs.map fun x => T.bl (b x))).map _ = _
  rw [blsOf_map]
  show some (T.bl ((xs.map b).all id)) = _
  rw [List.all_map]
  rfl
theorem are_just_eq {α : Type} [DecidableEq α] {e : α → T} (ke : KE e) {xs ys : List α} (l : xs.length ≤ 1000) : m_are_just (.lst (xs.map e)) (.tup (ys.map e)) = pu (.bl (justB xs ys)) := by
  have hs := sizeLine_eq
  have t1 : isiT [.tup] emp (.tup (ys.map e)) = some (.bl true) := rfl
  have l1 : lenF emp [.tup (ys.map e)] = some (.int (ys.length : Nat)) := by
    show some (T.int ((ys.map e).length : Nat)) = _
    rw [List.length_map]
  have l2 : lenF emp [.lst (xs.map e)] = some (.int (xs.length : Nat)) := by
    show some (T.int ((xs.map e).length : Nat)) = _
    rw [List.length_map]
  have ne : neT emp (.int (ys.length : Nat)) (.int (xs.length : Nat)) = some (.bl (!decide (ys.length = xs.length))) := by
    rw [neT_int]
    congr 3
    rw [decide_eq_decide]
    omega
  unfold m_are_just
  simp_arith [t1, l1, l2, ne]
  unfold justB
  by_cases z : ys.length = xs.length
  · rw [decide_eq_true z]
    simp_arith []
    rw [gdc_b (by omega), compA_of (p := fun _ => true) (g := fun x => T.bl (decide (x ∈ ys))) xs fun x _ => ?_, pu_bd, List.filter_eq_self.mpr fun _ _ => rfl, allF_map]
    · rfl
    · rw [(ke.inT x ys).1]
      rfl
  · rw [decide_eq_false z]
    rfl
def lookB (B : Bk) (r : Nm → Nat) (cs : List Nm) (tr : List (List (List Nm))) : Bool := (justB B.names cs && decide (tr.length = rowsN B r)) && (((List.range (rowsN B r)).map (unR B r)).zip tr).all fun p => justB p.1 p.2
theorem looked_drawing_eq {B : Bk} (h : BkOk B) {r : Nm → Nat} (rl : Rlx B (fun _ => 0) r) (f : Fit B r) {cs : List Nm} {tr : List (List (List Nm))} : m_looked_drawing (bkT B) (.tup [.tup (cs.map T.str), .tup (tr.map trT)]) = if lookB B r cs tr = true then pu (.bl true) else thr (.exc "NoDrawing" [] []) := by
  have hs := sizeLine_eq
  have lu := h.lu
  have nl : B.names.length ≤ 16 := by unfold Bk.names; rw [List.length_map]; exact h.lf
  have lf := h.lf
  have hr : ∀ n ∈ B.names, r n < 17 := fun n hn => by
    have := rl.le h (f.no_ring h) (m := 0) (fun _ => Nat.le_refl _) hn
    omega
  have le := rowsN_le hr
  have i0 : ixT emp (bkT B) (.int 0) = some (.tup (B.folk.map fkT)) := rfl
  have e0 : ∀ x y : T, ixT emp (.tup [x, y]) (.int 0) = some x := fun _ _ => rfl
  have e1 : ∀ x y : T, ixT emp (.tup [x, y]) (.int 1) = some y := fun _ _ => rfl
  have t1 : ∀ xs : List T, isiT [.tup] emp (.tup xs) = some (.bl true) := fun _ => rfl
  have l2 : ∀ x y : T, lenF emp [.tup [x, y]] = some (.int 2) := fun _ _ => rfl
  have l3 : lenF emp [.tup (tr.map trT)] = some (.int (tr.length : Nat)) := by
    show some (T.int ((tr.map trT).length : Nat)) = _
    rw [List.length_map]
  have l4 : lenF emp [ubrT B r] = some (.int (rowsN B r : Nat)) := by
    show some (T.int ((((List.range (rowsN B r)).map (unR B r)).map lrT).length : Nat)) = _
    rw [List.length_map, List.length_map, List.length_range]
  have u : ∀ p : Nm × Nm, un2 (fkT p) = some (.str p.1, .str p.2) := fun _ => rfl
  have n2 : neT emp (.int 2) (.int 2) = some (.bl false) := rfl
  have zm : zipM (κ := Unit) (ubrT B r) (.tup (tr.map trT)) = pu ((((List.range (rowsN B r)).map (unR B r)).zip tr).map fun p => .tup [lrT p.1, trT p.2]) := by
    show pu (zipL (((List.range (rowsN B r)).map (unR B r)).map lrT) (tr.map trT)) = _
    unfold zipL
    rw [List.zip_map, List.map_map]
    rfl
  have aj := are_just_eq ke_str (xs := B.names) (ys := cs) (by omega)
  have dl : decide (((tr.map trT).length : Int) = ((rowsN B r : Nat) : Int)) = decide (tr.length = rowsN B r) := by
    rw [List.length_map, decide_eq_decide]
    omega
  have en : (B.folk.map fun p => T.str p.1) = B.names.map T.str := by unfold Bk.names; rw [List.map_map]; rfl
  unfold m_looked_drawing
  simp_arith [unions_by_rows_eq h rl f, i0, e0, e1, t1, l2, n2, u]
  rw [gdc_b (by omega), en, aj]
  unfold lookB
  cases j : justB B.names cs with
  | false => simp_arith []; rfl
  | true =>
    simp_arith [l3, l4]
    rw [dl]
    by_cases z : tr.length = rowsN B r
    · rw [decide_eq_true z]
      simp_arith [zm]
      rw [gdc_b (by rw [List.length_zip, List.length_map, List.length_range]; omega), compA_of (p := fun _ => true) (g := fun p => T.bl (justB p.1 p.2)) _ fun p hp => ?_, pu_bd, List.filter_eq_self.mpr fun _ _ => rfl, allF_map]
      · generalize (((List.range (rowsN B r)).map (unR B r)).zip tr).all (fun p => justB p.1 p.2) = b
        cases b <;> rfl
      · have u2 : un2 (T.tup [lrT p.1, trT p.2]) = some (lrT p.1, trT p.2) := rfl
        have l : p.1.length ≤ 1000 := by
          obtain ⟨i, _, e⟩ := List.mem_map.mp (List.of_mem_zip hp).1
          rw [← e]
          have := List.length_filter_le (fun f => decide (r (hdF f) = i)) B.unions
          unfold unR
          omega
        unfold lrT trT
        rw [are_just_eq ke_fam l]
        rfl
    · rw [decide_eq_false z]
      rfl
/-- tracks in their rows -/
structure TrOk (B : Bk) (r : Nm → Nat) (tr : List (List (List Nm))) : Prop where
  pm : tr.flatten.Perm B.unions
  row : ∀ i t, tr[i]? = some t → ∀ f ∈ t, r (hdF f) = i
  len : tr.length = rowsN B r
theorem justB_of {α : Type} [DecidableEq α] {xs ys : List α} (p : ys.Perm xs) : justB xs ys = true := by
  unfold justB
  rw [Bool.and_eq_true, decide_eq_true_eq, List.all_eq_true]
  exact ⟨p.length_eq, fun x hx => decide_eq_true (p.mem_iff.mpr hx)⟩
theorem TrOk.rowp {B : Bk} (h : BkOk B) {r : Nm → Nat} {tr : List (List (List Nm))} (t : TrOk B r tr) {i : Nat} {us : List (List Nm)} (e : tr[i]? = some us) : us.Perm (unR B r i) := by
  have nu : B.unions.Nodup := ke_fam.rise_nodup (fun _ h => nomatch h) h.ru
  have nd : tr.flatten.Nodup := t.pm.nodup_iff.mpr nu
  have hm := List.mem_of_getElem? e
  refine (List.perm_ext_iff_of_nodup ((List.sublist_flatten_of_mem hm).nodup nd) (nu.filter _)).mpr fun f => ?_
  rw [List.mem_filter, decide_eq_true_eq]
  constructor
  · exact fun hf => ⟨t.pm.mem_iff.mp (List.mem_flatten_of_mem hm hf), t.row i us e f hf⟩
  · rintro ⟨hf, hr⟩
    obtain ⟨us', hu', hf'⟩ := List.mem_flatten.mp (t.pm.mem_iff.mpr hf)
    obtain ⟨j, hj⟩ := List.mem_iff_getElem?.mp hu'
    have := t.row j us' hj f hf'
    obtain rfl : i = j := by omega
    rw [e] at hj
    cases hj
    exact hf'
theorem lookB_of {B : Bk} (h : BkOk B) {r : Nm → Nat} {cs : List Nm} {tr : List (List (List Nm))} (p : cs.Perm B.names) (t : TrOk B r tr) : lookB B r cs tr = true := by
  unfold lookB
  rw [justB_of p, decide_eq_true t.len, Bool.true_and, Bool.true_and, List.all_eq_true]
  intro q hq
  obtain ⟨i, hi⟩ := List.mem_iff_getElem?.mp hq
  rw [List.getElem?_zip_eq_some, List.getElem?_map] at hi
  obtain ⟨h1, h2⟩ := hi
  obtain ⟨j, hj, e⟩ := Option.map_eq_some_iff.mp h1
  have : j = i := by
    have := List.getElem?_eq_some_iff.mp hj
    obtain ⟨_, e⟩ := this
    rw [List.getElem_range] at e
    exact e.symm
  subst this
  rw [← e]
  exact justB_of (t.rowp h h2)
abbrev IFam := List Nat
structure IBk where
  births : List (Nat × IFam)
  adopts : List (Nat × IFam)
def iG (F : Nat → Nm) (f : IFam) : List Nm := srt T.str (f.map F)
def iK (F : Nat → Nm) (b : Nat × IFam) : Nm × List Nm := (F b.1, iG F b.2)
def iB (A : IBk) (U : List IFam) (F mk : Nat → Nm) (n : Nat) : Bk := ⟨srt fkT ((List.range n).map fun i => (F i, mk i)), srt famT (U.map (iG F)), srt kinT (A.births.map (iK F)), srt kinT (A.adopts.map (iK F))⟩
/-- a row of places -/
def okF (n : Nat) (f : IFam) : Bool := decide (f ≠ []) && decide (f.length ≤ 2) && decide (f.Pairwise (· < ·)) && f.all fun p => decide (p < n)
def okA (A : IBk) (U : List IFam) (n : Nat) : Bool := decide (n ≤ 16) && decide (U.length ≤ 16) && decide (A.births.length ≤ 24) && decide (A.adopts.length ≤ 12) && decide U.Nodup && decide A.births.Nodup && decide A.adopts.Nodup && U.all (okF n) &&
  (A.births ++ A.adopts).all (fun b => decide (b.1 < n) && decide (b.2 ∈ U) && b.2.all fun p => decide (p < b.1)) && decide (A.births.map (·.1)).Nodup && A.births.all fun b => decide (b ∉ A.adopts)
structure OkA (A : IBk) (U : List IFam) (n : Nat) : Prop where
  n16 : n ≤ 16
  lu : U.length ≤ 16
  lb : A.births.length ≤ 24
  la : A.adopts.length ≤ 12
  nu : U.Nodup
  nb : A.births.Nodup
  na : A.adopts.Nodup
  fu : ∀ f ∈ U, f ≠ [] ∧ f.length ≤ 2 ∧ f.Pairwise (· < ·) ∧ ∀ p ∈ f, p < n
  kin : ∀ b ∈ A.births ++ A.adopts, b.1 < n ∧ b.2 ∈ U ∧ ∀ p ∈ b.2, p < b.1
  one : (A.births.map (·.1)).Nodup
  dj : ∀ b ∈ A.births, b ∉ A.adopts
theorem okA_of {A : IBk} {U : List IFam} {n : Nat} (h : okA A U n = true) : OkA A U n := by
  unfold okA okF at h
  simp only [Bool.and_eq_true, decide_eq_true_eq, List.all_eq_true] at h
  obtain ⟨⟨⟨⟨⟨⟨⟨⟨⟨⟨h1, h2⟩, h3⟩, h4⟩, h5⟩, h6⟩, h7⟩, h8⟩, h9⟩, h10⟩, h11⟩ := h
  exact ⟨h1, h2, h3, h4, h5, h6, h7, fun f hf => ⟨(h8 f hf).1.1.1, (h8 f hf).1.1.2, (h8 f hf).1.2, (h8 f hf).2⟩, fun b hb => ⟨(h9 b hb).1.1, (h9 b hb).1.2, (h9 b hb).2⟩, h10, h11⟩
section
variable {A : IBk} {U : List IFam} {F mk : Nat → Nm} {n : Nat}
theorem iG_mem {f : IFam} {x : Nm} : x ∈ iG F f ↔ ∃ p ∈ f, x = F p := by
  unfold iG
  rw [srt_mem, List.mem_map]
  exact ⟨fun ⟨p, h, e⟩ => ⟨p, h, e.symm⟩, fun ⟨p, h, e⟩ => ⟨p, h, e.symm⟩⟩
theorem lt_ext : ∀ {f g : List Nat}, f.Pairwise (· < ·) → g.Pairwise (· < ·) → (∀ x, x ∈ f ↔ x ∈ g) → f = g
  | [], [], _, _, _ => rfl
  | [], y :: g, _, _, h => by have := (h y).mpr (.head _); cases this
  | x :: f, [], _, _, h => by have := (h x).mp (.head _); cases this
  | x :: f, y :: g, h1, h2, h => by
    obtain ⟨a1, a2⟩ := List.pairwise_cons.mp h1
    obtain ⟨b1, b2⟩ := List.pairwise_cons.mp h2
    have e : x = y := by
      rcases List.mem_cons.mp ((h x).mp (.head _)) with z | z
      · exact z
      · rcases List.mem_cons.mp ((h y).mpr (.head _)) with w | w
        · exact w.symm
        · have := a1 y w; have := b1 x z; omega
    subst e
    rw [lt_ext a2 b2 fun z => ?_]
    constructor
    · intro hz
      rcases List.mem_cons.mp ((h z).mp (.tail _ hz)) with w | w
      · have := a1 z hz; omega
      · exact w
    · intro hz
      rcases List.mem_cons.mp ((h z).mpr (.tail _ hz)) with w | w
      · have := b1 z hz; omega
      · exact w
theorem iG_inj (inj : ∀ i j, i < n → j < n → F i = F j → i = j) {f g : IFam} (hf : f.Pairwise (· < ·)) (hg : g.Pairwise (· < ·)) (lf : ∀ p ∈ f, p < n) (lg : ∀ p ∈ g, p < n) (e : iG F f = iG F g) : f = g := by
  refine lt_ext hf hg fun p => ⟨fun h => ?_, fun h => ?_⟩
  · have : F p ∈ iG F g := by rw [← e]; exact iG_mem.mpr ⟨p, h, rfl⟩
    obtain ⟨r, hr, er⟩ := iG_mem.mp this
    rw [inj p r (lf p h) (lg r hr) er]
    exact hr
  · have : F p ∈ iG F f := by rw [e]; exact iG_mem.mpr ⟨p, h, rfl⟩
    obtain ⟨r, hr, er⟩ := iG_mem.mp this
    rw [inj p r (lg p h) (lf r hr) er]
    exact hr
theorem nodup_mapQ {α β : Type} {f : α → β} : ∀ {xs : List α}, (∀ a ∈ xs, ∀ b ∈ xs, f a = f b → a = b) → xs.Nodup → (xs.map f).Nodup
  | [], _, _ => List.nodup_nil
  | x :: xs, h, nd => by
    obtain ⟨n1, n2⟩ := List.nodup_cons.mp nd
    refine List.nodup_cons.mpr ⟨fun z => ?_, nodup_mapQ (fun a ha b hb => h a (.tail _ ha) b (.tail _ hb)) n2⟩
    obtain ⟨y, hy, e⟩ := List.mem_map.mp z
    have := h y (.tail _ hy) x (.head _) e
    subst this
    exact n1 hy
theorem iB_fam (ok : OkA A U n) (inj : ∀ i j, i < n → j < n → F i = F j → i = j) {f : IFam} (hf : f ∈ U) {names : List Nm} (hn : ∀ i, i < n → F i ∈ names) : FamOk names (iG F f) := by
  obtain ⟨h1, h2, h3, h4⟩ := ok.fu f hf
  have nd : (f.map F).Nodup := nodup_mapQ (fun a ha b hb e => inj a b (h4 a ha) (h4 b hb) e) (h3.imp fun h => Nat.ne_of_lt h)
  have l : (iG F f).length = f.length := by unfold iG; rw [srt_len, List.length_map]
  have l0 := List.length_pos_iff.mpr h1
  exact ⟨by omega, by omega, se_str.rise (fun _ _ => trivial) nd, (srt_perm _).nodup_iff.mpr nd, fun x hx => by
    obtain ⟨p, hp, rfl⟩ := iG_mem.mp hx
    exact hn p (h4 p hp)⟩
theorem iB_names (x : Nm) : x ∈ (iB A U F mk n).names ↔ ∃ i, i < n ∧ x = F i := by
  unfold Bk.names iB
  rw [List.mem_map]
  constructor
  · rintro ⟨p, hp, rfl⟩
    obtain ⟨i, hi, rfl⟩ := List.mem_map.mp (srt_mem.mp hp)
    exact ⟨i, List.mem_range.mp hi, rfl⟩
  · rintro ⟨i, hi, rfl⟩
    exact ⟨(F i, mk i), srt_mem.mpr (List.mem_map.mpr ⟨i, List.mem_range.mpr hi, rfl⟩), rfl⟩
theorem iK_inj (ok : OkA A U n) (inj : ∀ i j, i < n → j < n → F i = F j → i = j) {a b : Nat × IFam} (ha : a ∈ A.births ++ A.adopts) (hb : b ∈ A.births ++ A.adopts) (e : iK F a = iK F b) : a = b := by
  obtain ⟨a1, a2, _⟩ := ok.kin a ha
  obtain ⟨b1, b2, _⟩ := ok.kin b hb
  obtain ⟨_, _, f3, f4⟩ := ok.fu _ a2
  obtain ⟨_, _, g3, g4⟩ := ok.fu _ b2
  exact Prod.ext (inj _ _ a1 b1 (congrArg Prod.fst e)) (iG_inj inj f3 g3 f4 g4 (congrArg Prod.snd e))
theorem iB_ok (ok : OkA A U n) (inj : ∀ i j, i < n → j < n → F i = F j → i = j) (nm : ∀ i, i < n → NameOk (F i)) (mm : ∀ i, i < n → mk i ∈ MKS) : BkOk (iB A U F mk n) := by
  have hn : ∀ i, i < n → F i ∈ (iB A U F mk n).names := fun i hi => (iB_names (A := A) (U := U) (F := F) (mk := mk) _).mpr ⟨i, hi, rfl⟩
  have nd0 : (((List.range n).map fun i => (F i, mk i)).map (·.1)).Nodup := by
    rw [List.map_map]
    exact nodup_mapQ (fun a ha b hb e => inj a b (List.mem_range.mp ha) (List.mem_range.mp hb) e) List.nodup_range
  have nu : (U.map (iG F)).Nodup := nodup_mapQ (fun a ha b hb e => iG_inj inj (ok.fu a ha).2.2.1 (ok.fu b hb).2.2.1 (ok.fu a ha).2.2.2 (ok.fu b hb).2.2.2 e) ok.nu
  have nb : (A.births.map (iK F)).Nodup := nodup_mapQ (fun a ha b hb e => iK_inj ok inj (List.mem_append_left _ ha) (List.mem_append_left _ hb) e) ok.nb
  have na : (A.adopts.map (iK F)).Nodup := nodup_mapQ (fun a ha b hb e => iK_inj ok inj (List.mem_append_right _ ha) (List.mem_append_right _ hb) e) ok.na
  have kin : ∀ b ∈ A.births ++ A.adopts, KinOk (iB A U F mk n).names (iB A U F mk n).unions (iK F b) := fun b hb => by
    obtain ⟨h1, h2, h3⟩ := ok.kin b hb
    refine ⟨hn _ h1, srt_mem.mpr (List.mem_map_of_mem h2), fun z => ?_⟩
    obtain ⟨p, hp, e⟩ := iG_mem.mp z
    have lp := h3 p hp
    have := inj b.1 p h1 (by omega) e
    omega
  have hp : ∀ f ∈ U.map (iG F), f ≠ [] := fun f hf z => by
    obtain ⟨g, hg, rfl⟩ := List.mem_map.mp hf
    have := (iB_fam ok inj hg hn).lo
    rw [z] at this
    cases this
  refine ⟨fun x hx => ?_, ((srt_perm _).map _).nodup_iff.mpr nd0, se_fk.rise (fun _ _ => trivial) (TL.nodup_of_map nd0), ?_, fun f hf => ?_, se_fam.rise hp nu, ?_, fun b hb => ?_, se_kin.rise (fun _ _ => trivial) nb, ?_, fun b hb => ?_, se_kin.rise (fun _ _ => trivial) na, ?_⟩
  · obtain ⟨i, hi, rfl⟩ := List.mem_map.mp (srt_mem.mp hx)
    exact ⟨nm i (List.mem_range.mp hi), mm i (List.mem_range.mp hi)⟩
  · show (srt fkT _).length ≤ 16
    rw [srt_len, List.length_map, List.length_range]
    exact ok.n16
  · obtain ⟨g, hg, rfl⟩ := List.mem_map.mp (srt_mem.mp hf)
    exact iB_fam ok inj hg hn
  · show (srt famT _).length ≤ 16
    rw [srt_len, List.length_map]
    exact ok.lu
  · obtain ⟨c, hc, rfl⟩ := List.mem_map.mp (srt_mem.mp hb)
    exact kin c (List.mem_append_left _ hc)
  · show (srt kinT _).length ≤ 24
    rw [srt_len, List.length_map]
    exact ok.lb
  · obtain ⟨c, hc, rfl⟩ := List.mem_map.mp (srt_mem.mp hb)
    exact kin c (List.mem_append_right _ hc)
  · show (srt kinT _).length ≤ 12
    rw [srt_len, List.length_map]
    exact ok.la
end
def iKin (A : IBk) : List (Nat × IFam) := A.births ++ A.adopts
def iFolk (A : IBk) (f : IFam) : List Nat := f ++ ((iKin A).filter fun b => decide (b.2 = f)).map (·.1)
def iHts (ti : List (List IFam)) : List (IFam × (Int × Int)) := ti.zipIdx.flatMap fun p => p.1.zipIdx.map fun q => (q.1, ((p.2 : Int), (q.2 : Int) + 1))
def iHt (ti : List (List IFam)) (f : IFam) : Int × Int := ((iHts ti).lookup f).getD (0, 0)
def iBetw (A : IBk) (ci : List Nat) (f : IFam) (i : Nat) : Bool := ((iFolk A f).any fun a => decide (ci.idxOf a < ci.idxOf i)) && (iFolk A f).any fun b => decide (ci.idxOf i < ci.idxOf b)
def iOk (A : IBk) (U : List IFam) (rw : Nat → Nat) (ti : List (List IFam)) (f : IFam) (i : Nat) : Bool := ((!hlt (iHt ti f) ((rw i : Nat), 0) || (iKin A).any fun b => decide (b.1 = i) && !hlt (iHt ti f) (iHt ti b.2)) && (!hlt ((rw i : Nat), 0) (iHt ti f) || U.any fun g => decide (i ∈ g) && !hlt (iHt ti g) (iHt ti f))) && !decide (i ∈ iFolk A f)
def iCross (A : IBk) (U : List IFam) (rw : Nat → Nat) (ci : List Nat) (ti : List (List IFam)) : List IFam → Nat
  | [] => 0
  | f :: fs => ((ci.filter (iBetw A ci f)).filter (iOk A U rw ti f)).length + iCross A U rw ci ti fs
theorem ltt_hg (p q : Int × Int) : ltt (hgT p) (hgT q) = hlt p q := by
  rw [← hlt_dat]
  exact (ltt_dat (hgT p) (hgT q) rfl rfl rfl (fun h => nomatch h)).symm
theorem hlt_iff {p q : Int × Int} : hlt p q = true ↔ p.1 < q.1 ∨ (p.1 = q.1 ∧ p.2 < q.2) := by
  unfold hlt
  rw [Bool.or_eq_true, Bool.and_eq_true, decide_eq_true_eq, decide_eq_true_eq, decide_eq_true_eq]
theorem minH_le {h : Int × Int} : ∀ (ps : List (Int × Int)) (p : Int × Int), hlt h (minH p ps) = false ↔ hlt h p = false ∨ ∃ q ∈ ps, hlt h q = false
  | [], p => ⟨.inl, fun z => z.resolve_right fun ⟨_, y, _⟩ => nomatch y⟩
  | y :: ps, p => by
    show hlt h (minH (if hlt y p = true then y else p) ps) = false ↔ _
    rw [minH_le ps]
    have key : hlt h (if hlt y p = true then y else p) = false ↔ hlt h p = false ∨ hlt h y = false := by
      rw [← Bool.not_eq_true, ← Bool.not_eq_true, ← Bool.not_eq_true]
      split
      · rename_i z
        simp only [hlt_iff] at z ⊢
        omega
      · rename_i z
        simp only [hlt_iff] at z ⊢
        omega
    rw [key]
    constructor
    · rintro ((a | a) | ⟨q, hq, a⟩)
      · exact .inl a
      · exact .inr ⟨y, .head _, a⟩
      · exact .inr ⟨q, .tail _ hq, a⟩
    · rintro (a | ⟨q, hq, a⟩)
      · exact .inl (.inl a)
      · rcases List.mem_cons.mp hq with rfl | hq
        · exact .inl (.inr a)
        · exact .inr ⟨q, hq, a⟩
theorem maxH_le {h : Int × Int} : ∀ (ps : List (Int × Int)) (p : Int × Int), hlt (maxH p ps) h = false ↔ hlt p h = false ∨ ∃ q ∈ ps, hlt q h = false
  | [], p => ⟨.inl, fun z => z.resolve_right fun ⟨_, y, _⟩ => nomatch y⟩
  | y :: ps, p => by
    show hlt (maxH (if hlt p y = true then y else p) ps) h = false ↔ _
    rw [maxH_le ps]
    have key : hlt (if hlt p y = true then y else p) h = false ↔ hlt p h = false ∨ hlt y h = false := by
      rw [← Bool.not_eq_true, ← Bool.not_eq_true, ← Bool.not_eq_true]
      split
      · rename_i z
        simp only [hlt_iff] at z ⊢
        omega
      · rename_i z
        simp only [hlt_iff] at z ⊢
        omega
    rw [key]
    constructor
    · rintro ((a | a) | ⟨q, hq, a⟩)
      · exact .inl a
      · exact .inr ⟨y, .head _, a⟩
      · exact .inr ⟨q, .tail _ hq, a⟩
    · rintro (a | ⟨q, hq, a⟩)
      · exact .inl (.inl a)
      · rcases List.mem_cons.mp hq with rfl | hq
        · exact .inl (.inr a)
        · exact .inr ⟨q, hq, a⟩
theorem idx_map {F : Nat → Nm} {i : Nat} : ∀ {ci : List Nat}, (∀ j ∈ ci, F j = F i → j = i) → (ci.map F).idxOf (F i) = ci.idxOf i
  | [], _ => rfl
  | j :: ci, h => by
    rw [List.map_cons, List.idxOf_cons, List.idxOf_cons, idx_map fun k hk => h k (.tail _ hk)]
    by_cases z : j = i
    · subst z; rw [beq_self_eq_true, beq_self_eq_true]
    · rw [beq_eq_false_iff_ne.mpr z, beq_eq_false_iff_ne.mpr fun e => z (h j (.head _) e)]
theorem lookup_map {α β γ : Type} [BEq α] [LawfulBEq α] [BEq β] [LawfulBEq β] {g : α → β} {a : α} : ∀ {l : List (α × γ)}, (∀ p ∈ l, g p.1 = g a → p.1 = a) → (l.map fun p => (g p.1, p.2)).lookup (g a) = l.lookup a
  | [], _ => rfl
  | (x, y) :: l, h => by
    rw [List.map_cons, List.lookup_cons, List.lookup_cons, lookup_map fun k hk => h k (.tail _ hk)]
    by_cases z : x = a
    · subst z; rw [beq_self_eq_true, beq_self_eq_true]
    · rw [beq_eq_false_iff_ne.mpr fun e : a = x => z e.symm, beq_eq_false_iff_ne.mpr fun e : g a = g x => z (h (x, y) (.head _) e.symm)]
theorem iHts_fst (ti : List (List IFam)) : ∀ p ∈ iHts ti, p.1 ∈ ti.flatten := fun p hp => by
  unfold iHts at hp
  obtain ⟨q, hq, hp⟩ := List.mem_flatMap.mp hp
  obtain ⟨s, hs, rfl⟩ := List.mem_map.mp hp
  have h1 := List.fst_mem_of_mem_zipIdx hq
  exact List.mem_flatten_of_mem h1 (List.fst_mem_of_mem_zipIdx hs)
section
variable {A : IBk} {U : List IFam} {F mk : Nat → Nm} {n : Nat}
theorem hts_pl (g : IFam → List Nm) (ti : List (List IFam)) : hts (ti.map (·.map g)) 0 = (iHts ti).map fun p => (g p.1, p.2) := by
  unfold hts iHts rowH
  simp only [List.zipIdx_map, List.flatMap_map, List.map_flatMap, List.map_map, Function.comp_def, Prod.map_fst, Prod.map_snd, id]
theorem ht_pl {g : IFam → List Nm} {ti : List (List IFam)} {f : IFam} (inj : ∀ x ∈ ti.flatten, g x = g f → x = f) : ht (ti.map (·.map g)) (g f) = iHt ti f := by
  unfold ht iHt
  rw [hts_pl, lookup_map fun p hp e => inj _ (iHts_fst ti p hp) e]
theorem iG_injU (ok : OkA A U n) (inj : ∀ i j, i < n → j < n → F i = F j → i = j) {f g : IFam} (hf : f ∈ U) (hg : g ∈ U) (e : iG F f = iG F g) : f = g := iG_inj inj (ok.fu f hf).2.2.1 (ok.fu g hg).2.2.1 (ok.fu f hf).2.2.2 (ok.fu g hg).2.2.2 e
theorem kin_pl {b : Nm × List Nm} : b ∈ (iB A U F mk n).births ++ (iB A U F mk n).adopts ↔ ∃ k ∈ iKin A, iK F k = b := by
  show b ∈ srt kinT (A.births.map (iK F)) ++ srt kinT (A.adopts.map (iK F)) ↔ _
  rw [List.mem_append, srt_mem, srt_mem, List.mem_map, List.mem_map]
  unfold iKin
  constructor
  · rintro (⟨k, hk, e⟩ | ⟨k, hk, e⟩)
    · exact ⟨k, List.mem_append_left _ hk, e⟩
    · exact ⟨k, List.mem_append_right _ hk, e⟩
  · rintro ⟨k, hk, e⟩
    rcases List.mem_append.mp hk with hk | hk
    · exact .inl ⟨k, hk, e⟩
    · exact .inr ⟨k, hk, e⟩
theorem un_pl {f : List Nm} : f ∈ (iB A U F mk n).unions ↔ ∃ g ∈ U, iG F g = f := by
  show f ∈ srt famT (U.map (iG F)) ↔ _
  rw [srt_mem, List.mem_map]
theorem folk_pl (ok : OkA A U n) (inj : ∀ i j, i < n → j < n → F i = F j → i = j) {f : IFam} (hf : f ∈ U) {x : Nm} : x ∈ folkB (iB A U F mk n) (iG F f) ↔ ∃ p ∈ iFolk A f, F p = x := by
  unfold folkB kidsB iFolk
  rw [List.mem_append, iG_mem, List.mem_map]
  constructor
  · rintro (⟨p, hp, e⟩ | ⟨b, hb, e⟩)
    · exact ⟨p, List.mem_append_left _ hp, e.symm⟩
    · obtain ⟨hb, e2⟩ := List.mem_filter.mp hb
      obtain ⟨k, hk, rfl⟩ := kin_pl.mp hb
      have e3 := iG_injU ok inj (ok.kin k hk).2.1 hf (of_decide_eq_true e2)
      exact ⟨k.1, List.mem_append_right _ (List.mem_map.mpr ⟨k, List.mem_filter.mpr ⟨hk, decide_eq_true e3⟩, rfl⟩), e⟩
  · rintro ⟨p, hp, e⟩
    rcases List.mem_append.mp hp with hp | hp
    · exact .inl ⟨p, hp, e.symm⟩
    · obtain ⟨k, hk, rfl⟩ := List.mem_map.mp hp
      obtain ⟨hk, e2⟩ := List.mem_filter.mp hk
      refine .inr ⟨iK F k, List.mem_filter.mpr ⟨kin_pl.mpr ⟨k, hk, rfl⟩, ?_⟩, e⟩
      rw [← of_decide_eq_true e2]
      exact decide_eq_true rfl
theorem iFolk_lt (ok : OkA A U n) {f : IFam} (hf : f ∈ U) {p : Nat} (hp : p ∈ iFolk A f) : p < n := by
  unfold iFolk at hp
  rcases List.mem_append.mp hp with hp | hp
  · exact (ok.fu f hf).2.2.2 p hp
  · obtain ⟨k, hk, rfl⟩ := List.mem_map.mp hp
    exact (ok.kin k (List.mem_filter.mp hk).1).1
theorem betw_pl (ok : OkA A U n) (inj : ∀ i j, i < n → j < n → F i = F j → i = j) (h : BkOk (iB A U F mk n)) {ci : List Nat} (hc : ∀ i ∈ ci, i < n) {f : IFam} (hf : f ∈ U) {i : Nat} (hi : i < n) : betw (iB A U F mk n) (ci.map F) (iG F f) (F i) = iBetw A ci f i := by
  have ix : ∀ j, j < n → (ci.map F).idxOf (F j) = ci.idxOf j := fun j hj => idx_map fun k hk e => inj k j (hc k hk) hj e
  have ne : kinL (iB A U F mk n) (ci.map F) (iG F f) ≠ [] := fun z => folkB_ne (fam_l h (un_pl.mpr ⟨f, hf, rfl⟩)) (List.map_eq_nil_iff.mp z)
  rw [Bool.eq_iff_iff, betw_iff ne]
  unfold iBetw
  rw [Bool.and_eq_true, List.any_eq_true, List.any_eq_true]
  refine and_congr ⟨?_, ?_⟩ ⟨?_, ?_⟩
  · rintro ⟨a, ha, l⟩
    obtain ⟨p, hp, rfl⟩ := (folk_pl ok inj hf).mp ha
    rw [ix p (iFolk_lt ok hf hp), ix i hi] at l
    exact ⟨p, hp, decide_eq_true l⟩
  · rintro ⟨p, hp, l⟩
    exact ⟨F p, (folk_pl ok inj hf).mpr ⟨p, hp, rfl⟩, by rw [ix p (iFolk_lt ok hf hp), ix i hi]; exact of_decide_eq_true l⟩
  · rintro ⟨a, ha, l⟩
    obtain ⟨p, hp, rfl⟩ := (folk_pl ok inj hf).mp ha
    rw [ix p (iFolk_lt ok hf hp), ix i hi] at l
    exact ⟨p, hp, decide_eq_true l⟩
  · rintro ⟨p, hp, l⟩
    exact ⟨F p, (folk_pl ok inj hf).mpr ⟨p, hp, rfl⟩, by rw [ix p (iFolk_lt ok hf hp), ix i hi]; exact of_decide_eq_true l⟩
theorem ok_pl (ok : OkA A U n) (inj : ∀ i j, i < n → j < n → F i = F j → i = j) {r : Nm → Nat} {rw : Nat → Nat} (hr : ∀ i, i < n → r (F i) = rw i) {ti : List (List IFam)} (hti : ∀ f ∈ ti.flatten, f ∈ U) {f : IFam} (hf : f ∈ U) {i : Nat} (hi : i < n) : okC (iB A U F mk n) r (ti.map (·.map (iG F))) (iG F f) (F i) = iOk A U rw ti f i := by
  have hx : ∀ g ∈ U, ht (ti.map (·.map (iG F))) (iG F g) = iHt ti g := fun g hg => ht_pl fun x hx e => iG_injU ok inj (hti x hx) hg e
  unfold okC iOk topH botH
  rw [ltt_hg, ltt_hg, hx f hf, hr i hi]
  congr 1
  · congr 1
    · rw [Bool.eq_iff_iff, Bool.not_eq_true', minH_le, Bool.or_eq_true, Bool.not_eq_true', List.any_eq_true]
      refine or_congr Iff.rfl ⟨?_, ?_⟩
      · rintro ⟨q, hq, e⟩
        obtain ⟨g, hg, rfl⟩ := List.mem_map.mp hq
        obtain ⟨b, hb, rfl⟩ := List.mem_map.mp hg
        obtain ⟨hb, e2⟩ := List.mem_filter.mp hb
        obtain ⟨k, hk, rfl⟩ := kin_pl.mp hb
        refine ⟨k, hk, ?_⟩
        have e3 : iHt ti k.2 = ht (ti.map (·.map (iG F))) (iK F k).2 := (hx k.2 (ok.kin k hk).2.1).symm
        rw [e3, e, decide_eq_true (inj k.1 i (ok.kin k hk).1 hi (of_decide_eq_true e2))]
        rfl
      · rintro ⟨k, hk, e⟩
        rw [Bool.and_eq_true, Bool.not_eq_true'] at e
        refine ⟨iHt ti k.2, List.mem_map.mpr ⟨iG F k.2, List.mem_map.mpr ⟨iK F k, List.mem_filter.mpr ⟨kin_pl.mpr ⟨k, hk, rfl⟩, decide_eq_true (congrArg F (of_decide_eq_true e.1))⟩, rfl⟩, hx k.2 (ok.kin k hk).2.1⟩, e.2⟩
    · rw [Bool.eq_iff_iff, Bool.not_eq_true', maxH_le, Bool.or_eq_true, Bool.not_eq_true', List.any_eq_true]
      refine or_congr Iff.rfl ⟨?_, ?_⟩
      · rintro ⟨q, hq, e⟩
        obtain ⟨g, hg, rfl⟩ := List.mem_map.mp hq
        obtain ⟨hg, e2⟩ := List.mem_filter.mp hg
        obtain ⟨u, hu, rfl⟩ := un_pl.mp hg
        obtain ⟨p, hp, e3⟩ := iG_mem.mp (of_decide_eq_true e2)
        obtain rfl := inj i p hi ((ok.fu u hu).2.2.2 p hp) e3
        exact ⟨u, hu, by rw [← hx u hu, e, decide_eq_true hp]; rfl⟩
      · rintro ⟨u, hu, e⟩
        rw [Bool.and_eq_true, Bool.not_eq_true'] at e
        exact ⟨iHt ti u, List.mem_map.mpr ⟨iG F u, List.mem_filter.mpr ⟨un_pl.mpr ⟨u, hu, rfl⟩, decide_eq_true (iG_mem.mpr ⟨i, of_decide_eq_true e.1, rfl⟩)⟩, hx u hu⟩, e.2⟩
  · rw [Bool.eq_iff_iff, decide_eq_true_eq, Bool.not_eq_true', decide_eq_false_iff_not]
    refine not_congr ((folk_pl ok inj hf).trans ⟨?_, fun h => ⟨i, h, rfl⟩⟩)
    rintro ⟨p, hp, e⟩
    rw [← inj p i (iFolk_lt ok hf hp) hi e]
    exact hp
theorem crossN_perm {B : Bk} {r : Nm → Nat} {cs : List Nm} {tr : List (List (List Nm))} {fs gs : List (List Nm)} (p : fs.Perm gs) : crossN B r cs tr fs = crossN B r cs tr gs := by
  induction p with
  | nil => rfl
  | cons x _ ih =>
    show cntF B r cs tr x + _ = cntF B r cs tr x + _
    rw [ih]
  | swap x y l =>
    show cntF B r cs tr y + (cntF B r cs tr x + _) = cntF B r cs tr x + (cntF B r cs tr y + _)
    omega
  | trans _ _ h1 h2 => rw [h1, h2]
theorem cross_pl (ok : OkA A U n) (inj : ∀ i j, i < n → j < n → F i = F j → i = j) (h : BkOk (iB A U F mk n)) {r : Nm → Nat} {rw : Nat → Nat} (hr : ∀ i, i < n → r (F i) = rw i) {ci : List Nat} (hc : ∀ i ∈ ci, i < n) {ti : List (List IFam)} (ht : ∀ f ∈ ti.flatten, f ∈ U) : crossN (iB A U F mk n) r (ci.map F) (ti.map (·.map (iG F))) (iB A U F mk n).unions = iCross A U rw ci ti U := by
  rw [show (iB A U F mk n).unions = srt famT (U.map (iG F)) from rfl, crossN_perm (srt_perm _)]
  have : ∀ fs : List IFam, (∀ f ∈ fs, f ∈ U) → crossN (iB A U F mk n) r (ci.map F) (ti.map (·.map (iG F))) (fs.map (iG F)) = iCross A U rw ci ti fs := fun fs => by
    induction fs with
    | nil => exact fun _ => rfl
    | cons f fs ih =>
      intro hf
      rw [List.map_cons]
      show cntF _ _ _ _ _ + _ = _ + iCross A U rw ci ti fs
      rw [ih fun g hg => hf g (.tail _ hg)]
      congr 1
      unfold cntF
      rw [List.filter_map, List.filter_map, List.length_map]
      congr 1
      have e1 : ci.filter (betw (iB A U F mk n) (ci.map F) (iG F f) ∘ F) = ci.filter (iBetw A ci f) := List.filter_congr fun i hi => betw_pl ok inj h hc (hf f (.head _)) (hc i hi)
      rw [e1]
      exact List.filter_congr fun i hi => ok_pl ok inj hr ht (hf f (.head _)) (hc i (List.mem_filter.mp hi).1)
  exact this U fun _ h => h
/-- rows by places: right, and least -/
def rwB (A : IBk) (U : List IFam) (n : Nat) (rw : Nat → Nat) : Bool := ((iKin A).all fun b => b.2.all fun p => decide (rw p + 1 ≤ rw b.1)) && (U.all fun f => f.all fun p => f.all fun q => decide (rw p = rw q)) && (List.range n).all fun i => decide (rw i = 0) || (iKin A).any fun b => (decide (b.1 = i) || U.any fun f => decide (i ∈ f) && decide (b.1 ∈ f)) && b.2.any fun p => decide (rw p + 1 = rw i)
theorem rows_pl (ok : OkA A U n) (inj : ∀ i j, i < n → j < n → F i = F j → i = j) (h : BkOk (iB A U F mk n)) {rw : Nat → Nat} (hw : rwB A U n rw = true) : ∃ r, Rlx (iB A U F mk n) (fun _ => 0) r ∧ Fit (iB A U F mk n) r ∧ ∀ i, i < n → r (F i) = rw i := by
  unfold rwB at hw
  simp only [Bool.and_eq_true, List.all_eq_true, decide_eq_true_eq] at hw
  obtain ⟨⟨w1, w2⟩, w3⟩ := hw
  let v : Nm → Nat := fun x => ((List.range n).find? fun i => decide (F i = x)).elim 0 rw
  have hv : ∀ i, i < n → v (F i) = rw i := fun i hi => by
    show ((List.range n).find? fun j => decide (F j = F i)).elim 0 rw = _
    cases e : (List.range n).find? fun j => decide (F j = F i) with
    | none =>
      have := List.find?_eq_none.mp e i (List.mem_range.mpr hi)
      simp at this
    | some j =>
      have h1 := List.find?_some e
      have h2 := List.mem_range.mp (List.mem_of_find?_eq_some e)
      rw [inj j i h2 hi (of_decide_eq_true h1)]
      rfl
  have fv : Fit (iB A U F mk n) v := fun s hs => by
    obtain ⟨w, a, b⟩ := s
    rcases (mem_steps h).mp hs with ⟨rfl, f, hf, hb⟩ | ⟨rfl, _, f, hf, ha, hb⟩
    · obtain ⟨k, hk, e⟩ := kin_pl.mp hf
      obtain ⟨e1, rfl⟩ := Prod.mk.inj e
      obtain ⟨p, hp, rfl⟩ := iG_mem.mp hb
      have kk := ok.kin k hk
      have lp := (ok.fu _ kk.2.1).2.2.2 p hp
      have := w1 k hk p hp
      show v (F p) + 1 ≤ v a
      rw [← e1, hv p lp, hv _ kk.1]
      exact this
    · obtain ⟨u, hu, rfl⟩ := un_pl.mp hf
      obtain ⟨p, hp, rfl⟩ := iG_mem.mp ha
      obtain ⟨q, hq, rfl⟩ := iG_mem.mp hb
      have := w2 u hu p hp q hq
      show v (F q) + wt wU ≤ v (F p)
      rw [hv q ((ok.fu u hu).2.2.2 q hq), hv p ((ok.fu u hu).2.2.2 p hp), show wt wU = 0 from if_neg (by decide +kernel)]
      omega
  have nr := fv.no_ring h
  obtain ⟨r, rl, f, _⟩ : ∃ r, Rlx (iB A U F mk n) (fun _ => 0) r ∧ Fit (iB A U F mk n) r ∧ m_rows_of (bkT (iB A U F mk n)) = pu (.tup ((iB A U F mk n).names.map fun n => T.int (r n : Nat))) := by
    rcases closed_steps_eq h with ⟨ring, e, ro⟩ | ⟨e, _⟩
    · exact absurd nr (ro.no h)
    · exact rows_of_eq h e nr
  refine ⟨r, rl, f, ?_⟩
  have up : ∀ i, i < n → r (F i) ≤ rw i := fun i hi => by rw [← hv i hi]; exact least_le rl fv _
  have lo : ∀ k i, i < n → rw i = k → k ≤ r (F i) := fun k => by
    induction k with
    | zero => exact fun _ _ _ => Nat.zero_le _
    | succ k ih =>
      intro i hi e
      have z := w3 i (List.mem_range.mpr hi)
      rw [Bool.or_eq_true, decide_eq_true_eq, List.any_eq_true] at z
      obtain ⟨b, hb, z⟩ := z.resolve_left (by omega)
      rw [Bool.and_eq_true, Bool.or_eq_true, decide_eq_true_eq, List.any_eq_true, List.any_eq_true] at z
      obtain ⟨zc, p, hp, ep⟩ := z
      have ep := of_decide_eq_true ep
      have kk := ok.kin b hb
      have lp := (ok.fu _ kk.2.1).2.2.2 p hp
      have i1 := ih p lp (by omega)
      have st : r (F p) + 1 ≤ r (F b.1) := f (wC, F b.1, F p) ((mem_steps h).mpr (.inl ⟨rfl, iG F b.2, kin_pl.mpr ⟨b, hb, rfl⟩, iG_mem.mpr ⟨p, hp, rfl⟩⟩))
      rcases zc with zc | ⟨g, hg, zc⟩
      · rw [zc] at st; omega
      · rw [Bool.and_eq_true, decide_eq_true_eq, decide_eq_true_eq] at zc
        by_cases eq : i = b.1
        · rw [← eq] at st; omega
        · have ne : F i ≠ F b.1 := fun z => eq (inj i b.1 hi kk.1 z)
          have st2 : r (F b.1) + wt wU ≤ r (F i) := f (wU, F i, F b.1) ((mem_steps h).mpr (.inr ⟨rfl, ne, iG F g, un_pl.mpr ⟨g, hg, rfl⟩, iG_mem.mpr ⟨i, zc.1, rfl⟩, iG_mem.mpr ⟨b.1, zc.2, rfl⟩⟩))
          omega
  exact fun i hi => Nat.le_antisymm (up i hi) (lo _ i hi rfl)
/-- a drawing by places -/
def drB (U : List IFam) (n : Nat) (rw : Nat → Nat) (ci : List Nat) (ti : List (List IFam)) : Bool := (decide ci.Nodup && (ci.all fun i => decide (i < n)) && (List.range n).all fun i => decide (i ∈ ci)) && (decide ti.flatten.Nodup && (ti.flatten.all fun f => decide (f ∈ U)) && U.all fun f => decide (f ∈ ti.flatten)) && (ti.zipIdx.all fun p => p.1.all fun f => f.all fun i => decide (rw i = p.2)) && ((List.range n).all fun i => decide (rw i < ti.length)) && (decide (ti.length = 0) || (List.range n).any fun i => decide (rw i + 1 = ti.length))
def dwT (F : Nat → Nm) (ci : List Nat) (ti : List (List IFam)) : T := .tup [.tup ((ci.map F).map T.str), .tup ((ti.map (·.map (iG F))).map trT)]
theorem iB_nd (ok : OkA A U n) (inj : ∀ i j, i < n → j < n → F i = F j → i = j) : (iB A U F mk n).names.Perm ((List.range n).map F) := by
  have : (iB A U F mk n).names.Perm ((((List.range n).map fun i => (F i, mk i))).map (·.1)) := (srt_perm _).map _
  rwa [List.map_map] at this
theorem dr_pl (ok : OkA A U n) (inj : ∀ i j, i < n → j < n → F i = F j → i = j) (h : BkOk (iB A U F mk n)) {r : Nm → Nat} {rw : Nat → Nat} (hr : ∀ i, i < n → r (F i) = rw i) {ci : List Nat} {ti : List (List IFam)} (d : drB U n rw ci ti = true) : (ci.map F).Perm (iB A U F mk n).names ∧ TrOk (iB A U F mk n) r (ti.map (·.map (iG F))) ∧ (∀ i ∈ ci, i < n) ∧ ∀ f ∈ ti.flatten, f ∈ U := by
  unfold drB at d
  simp only [Bool.and_eq_true, List.all_eq_true, decide_eq_true_eq] at d
  obtain ⟨⟨⟨⟨⟨⟨d1, d2⟩, d3⟩, ⟨d4, d5⟩, d6⟩, d7⟩, d8⟩, d9⟩ := d
  have mn : ∀ x ∈ (iB A U F mk n).names, ∃ i, i < n ∧ x = F i := fun x hx => (iB_names x).mp hx
  refine ⟨?_, ⟨?_, fun i t e f hf => ?_, ?_⟩, d2, d5⟩
  · have p : ci.Perm (List.range n) := (List.perm_ext_iff_of_nodup d1 List.nodup_range).mpr fun i => ⟨fun hi => List.mem_range.mpr (d2 i hi), fun hi => d3 i hi⟩
    exact (p.map F).trans (iB_nd ok inj).symm
  · have p : ti.flatten.Perm U := (List.perm_ext_iff_of_nodup d4 ok.nu).mpr fun f => ⟨fun hf => d5 f hf, fun hf => d6 f hf⟩
    rw [← List.map_flatten]
    exact (p.map (iG F)).trans (srt_perm _).symm
  · rw [List.getElem?_map] at e
    obtain ⟨us, hu, rfl⟩ := Option.map_eq_some_iff.mp e
    obtain ⟨g, hg, rfl⟩ := List.mem_map.mp hf
    have hgU : g ∈ U := d5 g (List.mem_flatten_of_mem (List.mem_of_getElem? hu) hg)
    have hm := hd_mem (fam_l h (un_pl.mpr ⟨g, hgU, rfl⟩))
    obtain ⟨p, hp, e2⟩ := iG_mem.mp hm
    rw [e2, hr p ((ok.fu g hgU).2.2.2 p hp)]
    exact d7 (us, i) (by
      have : ti.zipIdx[i]? = some (us, i) := by rw [List.getElem?_zipIdx, hu]; simp
      exact List.mem_of_getElem? this) g hg p hp
  · rw [List.length_map]
    refine Nat.le_antisymm ?_ (rowsN_le fun x hx => ?_)
    · rw [Bool.or_eq_true, decide_eq_true_eq, List.any_eq_true] at d9
      rcases d9 with z | ⟨i, hi, z⟩
      · omega
      · have hi := List.mem_range.mp hi
        have := rowsN_lt (B := iB A U F mk n) (r := r) ((iB_names (F i)).mpr ⟨i, hi, rfl⟩)
        rw [hr i hi] at this
        have z := of_decide_eq_true z
        omega
    · obtain ⟨i, hi, rfl⟩ := mn x hx
      rw [hr i hi]
      exact d8 i (List.mem_range.mpr hi)
theorem drawing_pl (ok : OkA A U n) (inj : ∀ i j, i < n → j < n → F i = F j → i = j) (h : BkOk (iB A U F mk n)) {rw : Nat → Nat} (hw : rwB A U n rw = true) {ci : List Nat} {ti : List (List IFam)} (d : drB U n rw ci ti = true) : m_looked_drawing (bkT (iB A U F mk n)) (dwT F ci ti) = pu (.bl true) ∧ m_crossings (bkT (iB A U F mk n)) (dwT F ci ti) = pu (.int (iCross A U rw ci ti U : Nat)) := by
  obtain ⟨r, rl, f, hr⟩ := rows_pl ok inj h hw
  obtain ⟨pc, tk, hc, ht⟩ := dr_pl ok inj h hr d
  have nu : (iB A U F mk n).unions.Nodup := ke_fam.rise_nodup (fun _ h => nomatch h) h.ru
  have lc : (ci.map F).length ≤ 1000 := by rw [pc.length_eq]; unfold Bk.names; rw [List.length_map]; have := h.lf; omega
  have lt : (ti.map (·.map (iG F))).flatten.length ≤ 1000 := by rw [tk.pm.length_eq]; have := h.lu; omega
  constructor
  · unfold dwT
    rw [looked_drawing_eq h rl f, lookB_of h pc tk, if_pos rfl]
  · unfold dwT
    rw [crossings_eq h rl f (pc.nodup_iff.mpr h.nd) lc (tk.pm.nodup_iff.mpr nu) lt (fun f hf => tk.pm.mem_iff.mpr hf) fun n => pc.mem_iff, cross_pl ok inj h hr hc ht]
end
def A45 : IBk := ⟨[(4, [0, 1]), (5, [2, 3])], []⟩
def U45 : List IFam := [[0, 1], [2, 3]]
def R45 (i : Nat) : Nat := [0, 0, 0, 0, 1, 1].getD i 0
def B45 : IBk := ⟨[(1, [0]), (2, [0]), (3, [1])], []⟩
def V45 : List IFam := [[0], [1], [2, 3]]
def S45 (i : Nat) : Nat := [0, 1, 2, 2].getD i 0
theorem ok45 : OkA A45 U45 6 := okA_of (by decide)
theorem okb45 : OkA B45 V45 4 := okA_of (by decide)
theorem rw45 : rwB A45 U45 6 R45 = true ∧ rwB B45 V45 4 S45 = true := by decide
theorem mkm : q "m" ∈ MKS ∧ q "w" ∈ MKS := by decide +kernel
theorem nil_srt : srt kinT [] = [] := by unfold srt; exact List.mergeSort_nil
theorem srt1 (x : Nm) : srt T.str [x] = [x] := by unfold srt; rw [List.mergeSort_singleton]
theorem couples_eq {a b c d e f g h : Nm} {F : Nat → Nm} (hF : F = fun i => [a, b, c, d, e, f, g, h].getD i []) : m_law_two_couples (.lst ([a, b, c, d, e, f, g, h].map T.str)) = pu (.tup [bkT (iB A45 U45 F (fun _ => q "m") 6), .lst [famT (iG F [0, 1]), famT (iG F [2, 3])]]) := by
  have hs := sizeLine_eq
  subst hF
  have l : ∀ k, k ≤ 16 → k ≤ sizeLine := fun k h => by omega
  have s1 : slT emp (.lst ([a, b, c, d, e, f, g, h].map T.str)) none (some 2) = some (.lst ([a, b].map T.str)) := rfl
  have s2 : slT emp (.lst ([a, b, c, d, e, f, g, h].map T.str)) (some 2) (some 4) = some (.lst ([c, d].map T.str)) := rfl
  have s3 : slT emp (.lst ([a, b, c, d, e, f, g, h].map T.str)) none (some 6) = some (.lst ([a, b, c, d, e, f].map T.str)) := rfl
  have i4 : ixT emp (.lst ([a, b, c, d, e, f, g, h].map T.str)) (.int 4) = some (.str e) := rfl
  have i5 : ixT emp (.lst ([a, b, c, d, e, f, g, h].map T.str)) (.int 5) = some (.str f) := rfl
  have so : ∀ x y : Nm, sortedF emp [.lst ([x, y].map T.str)] = some (.lst ((srt T.str [x, y]).map T.str)) := fun x y => (se_str.sorted (xs := [x, y]) (fun _ _ => trivial) (l 2 (by omega))).1
  have t : ∀ xs : List T, tupleF emp [.lst xs] = some (.tup xs) := fun _ => rfl
  have x0 : ∀ x y : T, ixT emp (.lst [x, y]) (.int 0) = some x := fun _ _ => rfl
  have x1 : ∀ x y : T, ixT emp (.lst [x, y]) (.int 1) = some y := fun _ _ => rfl
  have sk := (se_kin.sorted (xs := [(e, srt T.str [a, b]), (f, srt T.str [c, d])]) (fun _ _ => trivial) (l 2 (by omega))).1
  have hl : ∀ u v : Nm, srt T.str [u, v] ≠ [] := fun u v z => by
    have := congrArg List.length z
    rw [srt_len] at this
    cases this
  have sf := (se_fam.sorted (xs := [srt T.str [a, b], srt T.str [c, d]]) (fun x hx => by
    rcases List.mem_cons.mp hx with rfl | hx
    · exact hl a b
    · rw [List.mem_singleton.mp hx]
      exact hl c d) (l 2 (by omega))).1
  have sn := (se_fk.sorted (xs := [(a, q "m"), (b, q "m"), (c, q "m"), (d, q "m"), (e, q "m"), (f, q "m")]) (fun _ _ => trivial) (l 6 (by omega))).1
  unfold m_law_two_couples
  simp_arith [s1, s2, s3, i4, i5, so, x0, x1]
  rw [gdc_b (show ([a, b, c, d, e, f] : List Nm).length ≤ sizeLine from l 6 (by omega)), show sortedF emp [T.lst (([a, b, c, d, e, f] : List Nm).map fun a => T.tup [T.str a, T.str (q "m")])] = _ from sn, ofO_some, pu_bd, t, ofO_some, pu_bd, show sortedF emp [T.lst [T.tup [T.str e, T.tup ((srt T.str [a, b]).map T.str)], T.tup [T.str f, T.tup ((srt T.str [c, d]).map T.str)]]] = _ from sk, ofO_some, pu_bd, t, ofO_some, pu_bd, show sortedF emp [T.lst [T.tup ((srt T.str [a, b]).map T.str), T.tup ((srt T.str [c, d]).map T.str)]] = _ from sf, ofO_some, pu_bd, t, ofO_some, pu_bd]
  show _ = pu (T.tup [T.tup [.tup _, .tup _, .tup _, .tup ((srt kinT []).map kinT)], _])
  rw [nil_srt]
  rfl
theorem niece_eq {a b c d e f g h : Nm} {F : Nat → Nm} (hF : F = fun i => [a, b, c, d, e, f, g, h].getD i []) : m_law_uncle_and_niece (.lst ([a, b, c, d, e, f, g, h].map T.str)) = pu (.tup [bkT (iB B45 V45 F (fun _ => q "w") 4), .tup [.tup [famT (iG F [0])], .tup [famT (iG F [1])], .tup [famT (iG F [2, 3])]]]) := by
  have hs := sizeLine_eq
  have l : ∀ k, k ≤ 16 → k ≤ sizeLine := fun k h => by omega
  have s2 : slT emp (.lst ([a, b, c, d, e, f, g, h].map T.str)) (some 2) (some 4) = some (.lst ([c, d].map T.str)) := rfl
  have s3 : slT emp (.lst ([a, b, c, d, e, f, g, h].map T.str)) none (some 4) = some (.lst ([a, b, c, d].map T.str)) := rfl
  have i0 : ixT emp (.lst ([a, b, c, d, e, f, g, h].map T.str)) (.int 0) = some (.str a) := rfl
  have i1 : ixT emp (.lst ([a, b, c, d, e, f, g, h].map T.str)) (.int 1) = some (.str b) := rfl
  have i2 : ixT emp (.lst ([a, b, c, d, e, f, g, h].map T.str)) (.int 2) = some (.str c) := rfl
  have i3 : ixT emp (.lst ([a, b, c, d, e, f, g, h].map T.str)) (.int 3) = some (.str d) := rfl
  have so : ∀ x y : Nm, sortedF emp [.lst ([x, y].map T.str)] = some (.lst ((srt T.str [x, y]).map T.str)) := fun x y => (se_str.sorted (xs := [x, y]) (fun _ _ => trivial) (l 2 (by omega))).1
  have t : ∀ xs : List T, tupleF emp [.lst xs] = some (.tup xs) := fun _ => rfl
  have sk := (se_kin.sorted (xs := [(b, [a]), (c, [a]), (d, [b])]) (fun _ _ => trivial) (l 3 (by omega))).1
  have hl : ∀ u v : Nm, srt T.str [u, v] ≠ [] := fun u v z => by
    have := congrArg List.length z
    rw [srt_len] at this
    cases this
  have sf := (se_fam.sorted (xs := [[a], [b], srt T.str [c, d]]) (fun x hx => by
    rcases List.mem_cons.mp hx with rfl | hx
    · exact nofun
    rcases List.mem_cons.mp hx with rfl | hx
    · exact nofun
    · rw [List.mem_singleton.mp hx]
      exact hl c d) (l 3 (by omega))).1
  have sn := (se_fk.sorted (xs := [(a, q "w"), (b, q "w"), (c, q "w"), (d, q "w")]) (fun _ _ => trivial) (l 4 (by omega))).1
  have g0 : iG F [0] = [a] := by rw [hF]; exact srt1 a
  have g1 : iG F [1] = [b] := by rw [hF]; exact srt1 b
  have g2 : iG F [2, 3] = srt T.str [c, d] := by rw [hF]; rfl
  have eB : bkT (iB B45 V45 F (fun _ => q "w") 4) = .tup [.tup ((srt fkT [(a, q "w"), (b, q "w"), (c, q "w"), (d, q "w")]).map fkT), .tup ((srt famT [[a], [b], srt T.str [c, d]]).map famT), .tup ((srt kinT [(b, [a]), (c, [a]), (d, [b])]).map kinT), .tup []] := by
    have u : V45.map (iG F) = [[a], [b], srt T.str [c, d]] := by show [iG F [0], iG F [1], iG F [2, 3]] = _; rw [g0, g1, g2]
    have k : B45.births.map (iK F) = [(b, [a]), (c, [a]), (d, [b])] := by show [(F 1, iG F [0]), (F 2, iG F [0]), (F 3, iG F [1])] = _; rw [g0, g1, hF]; rfl
    have f : ((List.range 4).map fun i => (F i, q "w")) = [(a, q "w"), (b, q "w"), (c, q "w"), (d, q "w")] := by rw [hF]; rfl
    unfold iB
    rw [u, k, f]
    show T.tup [.tup _, .tup _, .tup _, .tup ((srt kinT []).map kinT)] = _
    rw [nil_srt]
    rfl
  rw [eB, g0, g1, g2]
  unfold m_law_uncle_and_niece
  simp_arith [s2, s3, i0, i1, i2, i3, so]
  rw [gdc_b (show ([a, b, c, d] : List Nm).length ≤ sizeLine from l 4 (by omega)), show sortedF emp [T.lst (([a, b, c, d] : List Nm).map fun a => T.tup [T.str a, T.str (q "w")])] = _ from sn, ofO_some, pu_bd, t, ofO_some, pu_bd, show sortedF emp [T.lst [T.tup [T.str a], T.tup [T.str b], T.tup ((srt T.str [c, d]).map T.str)]] = _ from sf, ofO_some, pu_bd, t, ofO_some, pu_bd, show sortedF emp [T.lst [T.tup [T.str b, T.tup [T.str a]], T.tup [T.str c, T.tup [T.str a]], T.tup [T.str d, T.tup [T.str b]]]] = _ from sk, ofO_some, pu_bd, t, ofO_some, pu_bd]
  rfl
theorem forR_all {κ σ : Type} {f : T → σ → PM κ (Fl σ)} {s : σ} : ∀ xs : List T, (∀ x ∈ xs, f x s = pu (.nx s)) → forR f xs s = pu (.inl s)
  | [], _ => rfl
  | x :: xs, h => by
    show bd (f x s) _ = _
    rw [h x (.head _), pu_bd]
    exact forR_all xs fun y hy => h y (.tail _ hy)
def dg (i : Nat) : Sg := ⟨48 + i % 10, by omega⟩
theorem itx_dg : ∀ i, i < 8 → itxF emp [.str [dg i]] = some (.int (i : Nat)) := fun i hi => by
  match i, hi with
  | 0, _ => rfl
  | 1, _ => rfl
  | 2, _ => rfl
  | 3, _ => rfl
  | 4, _ => rfl
  | 5, _ => rfl
  | 6, _ => rfl
  | 7, _ => rfl
theorem cols_eq {β : Type} {F : Nat → Nm} {L : T} (ix : ∀ i, i < 8 → ixT emp L (.int (i : Nat)) = some (.str (F i))) {ci : List Nat} (hc : ∀ i ∈ ci, i < 8) (lc : ci.length ≤ 100) {X : List T → PM Cell β} : (bd (itemsM (.str (ci.map dg))) fun a => bd (compG (fun x49 => bd (ofO (itxF emp [x49])) fun a_4 => bd (ofO (ixT emp L a_4)) fun v53 => pu (some v53)) a) X) = X ((ci.map F).map T.str) := by
  have hs := sizeLine_eq
  rw [itemsM_str, pu_bd, List.map_map, compG_map, bd_bd, gdc_b (by omega), compA_of (p := fun _ => true) (g := fun i => T.str (F i)) ci fun i hi => ?_, pu_bd, List.filter_eq_self.mpr fun _ _ => rfl, List.map_map]
  · rfl
  · show bd (ofO (itxF emp [.str [dg i]])) _ = _
    rw [itx_dg i (hc i hi), ofO_some, pu_bd, ix i (hc i hi)]
    rfl
theorem chk_eq {B D : T} {n : Nat} {m : Int} (h : m_looked_drawing B D = pu (.bl true) ∧ m_crossings B D = pu (.int (n : Nat))) (e : (n : Int) = m) : (bd (lft (m_looked_drawing B D)) fun a_6 => bd (ofO (isnbT emp a_6 (.bl true))) fun a_7 => bd (tb a_7) fun a_8 => bd (if a_8 = true then pu true else bd (lft (m_crossings B D)) fun a => bd (ofO (TL.neT emp a (.int m))) tb) fun v73 => pu (if v73 = true then Fl.rt (T.bl false) else Fl.nx ())) = (pu (Fl.nx ()) : PM Cell (Fl Unit)) := by
  have ne : TL.neT emp (.int (n : Nat)) (.int m) = some (.bl false) := by
    rw [neT_int, decide_eq_true e]
    rfl
  rw [h.1, lft_pu, pu_bd, isnbT_bl, ofO_some, pu_bd, tb_bl, pu_bd, if_neg (by decide), h.2, lft_pu, pu_bd, ne]
  rfl
theorem law_true : ∀ c, PenC 0 c → ∃ k, m_the_law c = .ok (.bl true) k := HT.law (d := 100) (by
  have hs := sizeLine_eq
  unfold m_the_law
  simp_arith []
  refine HT.le (HT.bd (d1 := 100) (d2 := 0) (drawn_names_ht (many := 8) (by omega)) ?_) (by omega)
  rintro v ⟨xs, rfl, nd, ok, ln⟩
  obtain ⟨a, b, c, d, e, f, g, h, rfl⟩ : ∃ a b c d e f g h, xs = [a, b, c, d, e, f, g, h] := by
    match xs, ln with
    | [a, b, c, d, e, f, g, h], _ => exact ⟨a, b, c, d, e, f, g, h, rfl⟩
  obtain ⟨F, hF⟩ : ∃ F : Nat → Nm, F = fun i => [a, b, c, d, e, f, g, h].getD i [] := ⟨_, rfl⟩
  have cp := couples_eq hF
  have inj : ∀ i j, i < 8 → j < 8 → F i = F j → i = j := fun i j hi hj e => by
    rw [hF] at e
    dsimp only at e
    have := List.pairwise_iff_getElem.mp nd
    rw [List.getD_eq_getElem?_getD, List.getElem?_eq_getElem (by show i < 8; exact hi), List.getD_eq_getElem?_getD, List.getElem?_eq_getElem (by show j < 8; exact hj)] at e
    rcases Nat.lt_trichotomy i j with z | z | z
    · exact absurd e (this i j (by show i < 8; exact hi) (by show j < 8; exact hj) z)
    · exact z
    · exact absurd e.symm (this j i (by show j < 8; exact hj) (by show i < 8; exact hi) z)
  have nmo : ∀ i, i < 8 → NameOk (F i) := fun i hi => by
    rw [hF]
    show NameOk (([a, b, c, d, e, f, g, h] : List Nm).getD i [])
    rw [List.getD_eq_getElem?_getD, List.getElem?_eq_getElem (by show i < 8; exact hi)]
    exact ok _ (List.getElem_mem _)
  have hB := iB_ok (mk := fun _ => q "m") ok45 (fun i j hi hj => inj i j (by omega) (by omega)) (fun i hi => nmo i (by omega)) fun _ _ => mkm.1
  have hC := iB_ok (mk := fun _ => q "w") okb45 (fun i j hi hj => inj i j (by omega) (by omega)) (fun i hi => nmo i (by omega)) fun _ _ => mkm.2
  have dB := fun {ci ti} => drawing_pl (mk := fun _ => q "m") (ci := ci) (ti := ti) ok45 (fun i j hi hj => inj i j (by omega) (by omega)) hB rw45.1
  have dC := fun {ci ti} => drawing_pl (mk := fun _ => q "w") (ci := ci) (ti := ti) okb45 (fun i j hi hj => inj i j (by omega) (by omega)) hC rw45.2
  have ix : ∀ i, i < 8 → ixT emp (.lst ([a, b, c, d, e, f, g, h].map T.str)) (.int (i : Nat)) = some (.str (F i)) := fun i hi => by
    rw [hF]
    match i, hi with
    | 0, _ => rfl
    | 1, _ => rfl
    | 2, _ => rfl
    | 3, _ => rfl
    | 4, _ => rfl
    | 5, _ => rfl
    | 6, _ => rfl
    | 7, _ => rfl
  simp_arith [cp, niece_eq hF]
  have stp : stepT emp (T.lst [famT (iG F [0, 1]), famT (iG F [2, 3])]) (T.int (-1)) = some (T.lst [famT (iG F [2, 3]), famT (iG F [0, 1])]) := rfl
  rw [gdc_b (by show 3 + 3 ≤ sizeLine; omega), forR_all, pu_bd]
  rotate_left
  · intro x hx
    rcases List.mem_cons.mp hx with rfl | hx
    · rw [show un3 (T.tup [T.str (q "041253"), T.int 0, T.int 0]) = some (T.str ([0, 4, 1, 2, 5, 3].map dg), T.int 0, T.int 0) by rw [show [0, 4, 1, 2, 5, 3].map dg = q "041253" by decide +kernel]; rfl, ofO_some, pu_bd]
      dsimp only
      rw [stp, ofO_some, pu_bd, show ixT emp (T.lst [T.lst [famT (iG F [0, 1]), famT (iG F [2, 3])], T.lst [famT (iG F [2, 3]), famT (iG F [0, 1])]]) (T.int 0) = some (T.lst [famT (iG F [0, 1]), famT (iG F [2, 3])]) from rfl, ofO_some, pu_bd, cols_eq ix (by decide) (by decide), show tupleF emp [T.lst [famT (iG F [0, 1]), famT (iG F [2, 3])]] = some (T.tup [famT (iG F [0, 1]), famT (iG F [2, 3])]) from rfl, ofO_some, pu_bd]
      exact chk_eq (dB (ci := [0, 4, 1, 2, 5, 3]) (ti := [[[0, 1], [2, 3]], []]) (by decide)) (by decide)
    rcases List.mem_cons.mp hx with rfl | hx
    · rw [show un3 (T.tup [T.str (q "041253"), T.int 1, T.int 0]) = some (T.str ([0, 4, 1, 2, 5, 3].map dg), T.int 1, T.int 0) by rw [show [0, 4, 1, 2, 5, 3].map dg = q "041253" by decide +kernel]; rfl, ofO_some, pu_bd]
      dsimp only
      rw [stp, ofO_some, pu_bd, show ixT emp (T.lst [T.lst [famT (iG F [0, 1]), famT (iG F [2, 3])], T.lst [famT (iG F [2, 3]), famT (iG F [0, 1])]]) (T.int 1) = some (T.lst [famT (iG F [2, 3]), famT (iG F [0, 1])]) from rfl, ofO_some, pu_bd, cols_eq ix (by decide) (by decide), show tupleF emp [T.lst [famT (iG F [2, 3]), famT (iG F [0, 1])]] = some (T.tup [famT (iG F [2, 3]), famT (iG F [0, 1])]) from rfl, ofO_some, pu_bd]
      exact chk_eq (dB (ci := [0, 4, 1, 2, 5, 3]) (ti := [[[2, 3], [0, 1]], []]) (by decide)) (by decide)
    rcases List.mem_cons.mp hx with rfl | hx
    · rw [show un3 (T.tup [T.str (q "023154"), T.int 0, T.int 2]) = some (T.str ([0, 2, 3, 1, 5, 4].map dg), T.int 0, T.int 2) by rw [show [0, 2, 3, 1, 5, 4].map dg = q "023154" by decide +kernel]; rfl, ofO_some, pu_bd]
      dsimp only
      rw [stp, ofO_some, pu_bd, show ixT emp (T.lst [T.lst [famT (iG F [0, 1]), famT (iG F [2, 3])], T.lst [famT (iG F [2, 3]), famT (iG F [0, 1])]]) (T.int 0) = some (T.lst [famT (iG F [0, 1]), famT (iG F [2, 3])]) from rfl, ofO_some, pu_bd, cols_eq ix (by decide) (by decide), show tupleF emp [T.lst [famT (iG F [0, 1]), famT (iG F [2, 3])]] = some (T.tup [famT (iG F [0, 1]), famT (iG F [2, 3])]) from rfl, ofO_some, pu_bd]
      exact chk_eq (dB (ci := [0, 2, 3, 1, 5, 4]) (ti := [[[0, 1], [2, 3]], []]) (by decide)) (by decide)
    rcases List.mem_cons.mp hx with rfl | hx
    · rw [show un3 (T.tup [T.str (q "023154"), T.int 1, T.int 2]) = some (T.str ([0, 2, 3, 1, 5, 4].map dg), T.int 1, T.int 2) by rw [show [0, 2, 3, 1, 5, 4].map dg = q "023154" by decide +kernel]; rfl, ofO_some, pu_bd]
      dsimp only
      rw [stp, ofO_some, pu_bd, show ixT emp (T.lst [T.lst [famT (iG F [0, 1]), famT (iG F [2, 3])], T.lst [famT (iG F [2, 3]), famT (iG F [0, 1])]]) (T.int 1) = some (T.lst [famT (iG F [2, 3]), famT (iG F [0, 1])]) from rfl, ofO_some, pu_bd, cols_eq ix (by decide) (by decide), show tupleF emp [T.lst [famT (iG F [2, 3]), famT (iG F [0, 1])]] = some (T.tup [famT (iG F [2, 3]), famT (iG F [0, 1])]) from rfl, ofO_some, pu_bd]
      exact chk_eq (dB (ci := [0, 2, 3, 1, 5, 4]) (ti := [[[2, 3], [0, 1]], []]) (by decide)) (by decide)
    rcases List.mem_cons.mp hx with rfl | hx
    · rw [show un3 (T.tup [T.str (q "012345"), T.int 0, T.int 3]) = some (T.str ([0, 1, 2, 3, 4, 5].map dg), T.int 0, T.int 3) by rw [show [0, 1, 2, 3, 4, 5].map dg = q "012345" by decide +kernel]; rfl, ofO_some, pu_bd]
      dsimp only
      rw [stp, ofO_some, pu_bd, show ixT emp (T.lst [T.lst [famT (iG F [0, 1]), famT (iG F [2, 3])], T.lst [famT (iG F [2, 3]), famT (iG F [0, 1])]]) (T.int 0) = some (T.lst [famT (iG F [0, 1]), famT (iG F [2, 3])]) from rfl, ofO_some, pu_bd, cols_eq ix (by decide) (by decide), show tupleF emp [T.lst [famT (iG F [0, 1]), famT (iG F [2, 3])]] = some (T.tup [famT (iG F [0, 1]), famT (iG F [2, 3])]) from rfl, ofO_some, pu_bd]
      exact chk_eq (dB (ci := [0, 1, 2, 3, 4, 5]) (ti := [[[0, 1], [2, 3]], []]) (by decide)) (by decide)
    · obtain rfl := List.mem_singleton.mp hx
      rw [show un3 (T.tup [T.str (q "012345"), T.int 1, T.int 0]) = some (T.str ([0, 1, 2, 3, 4, 5].map dg), T.int 1, T.int 0) by rw [show [0, 1, 2, 3, 4, 5].map dg = q "012345" by decide +kernel]; rfl, ofO_some, pu_bd]
      dsimp only
      rw [stp, ofO_some, pu_bd, show ixT emp (T.lst [T.lst [famT (iG F [0, 1]), famT (iG F [2, 3])], T.lst [famT (iG F [2, 3]), famT (iG F [0, 1])]]) (T.int 1) = some (T.lst [famT (iG F [2, 3]), famT (iG F [0, 1])]) from rfl, ofO_some, pu_bd, cols_eq ix (by decide) (by decide), show tupleF emp [T.lst [famT (iG F [2, 3]), famT (iG F [0, 1])]] = some (T.tup [famT (iG F [2, 3]), famT (iG F [0, 1])]) from rfl, ofO_some, pu_bd]
      exact chk_eq (dB (ci := [0, 1, 2, 3, 4, 5]) (ti := [[[2, 3], [0, 1]], []]) (by decide)) (by decide)
  show HT 0 (bd (forR _ _ ()) _) _
  rw [forR_all, pu_bd]
  rotate_left
  · intro x hx
    rcases List.mem_cons.mp hx with rfl | hx
    · rw [show un2 (T.tup [T.str (q "0132"), T.int 0]) = some (T.str ([0, 1, 3, 2].map dg), T.int 0) by rw [show [0, 1, 3, 2].map dg = q "0132" by decide +kernel]; rfl, ofO_some, pu_bd]
      dsimp only
      rw [cols_eq ix (by decide) (by decide)]
      exact chk_eq (dC (ci := [0, 1, 3, 2]) (ti := [[[0]], [[1]], [[2, 3]]]) (by decide)) (by decide)
    rcases List.mem_cons.mp hx with rfl | hx
    · rw [show un2 (T.tup [T.str (q "1320"), T.int 0]) = some (T.str ([1, 3, 2, 0].map dg), T.int 0) by rw [show [1, 3, 2, 0].map dg = q "1320" by decide +kernel]; rfl, ofO_some, pu_bd]
      dsimp only
      rw [cols_eq ix (by decide) (by decide)]
      exact chk_eq (dC (ci := [1, 3, 2, 0]) (ti := [[[0]], [[1]], [[2, 3]]]) (by decide)) (by decide)
    rcases List.mem_cons.mp hx with rfl | hx
    · rw [show un2 (T.tup [T.str (q "1203"), T.int 1]) = some (T.str ([1, 2, 0, 3].map dg), T.int 1) by rw [show [1, 2, 0, 3].map dg = q "1203" by decide +kernel]; rfl, ofO_some, pu_bd]
      dsimp only
      rw [cols_eq ix (by decide) (by decide)]
      exact chk_eq (dC (ci := [1, 2, 0, 3]) (ti := [[[0]], [[1]], [[2, 3]]]) (by decide)) (by decide)
    rcases List.mem_cons.mp hx with rfl | hx
    · rw [show un2 (T.tup [T.str (q "3201"), T.int 1]) = some (T.str ([3, 2, 0, 1].map dg), T.int 1) by rw [show [3, 2, 0, 1].map dg = q "3201" by decide +kernel]; rfl, ofO_some, pu_bd]
      dsimp only
      rw [cols_eq ix (by decide) (by decide)]
      exact chk_eq (dC (ci := [3, 2, 0, 1]) (ti := [[[0]], [[1]], [[2, 3]]]) (by decide)) (by decide)
    rcases List.mem_cons.mp hx with rfl | hx
    · rw [show un2 (T.tup [T.str (q "0213"), T.int 0]) = some (T.str ([0, 2, 1, 3].map dg), T.int 0) by rw [show [0, 2, 1, 3].map dg = q "0213" by decide +kernel]; rfl, ofO_some, pu_bd]
      dsimp only
      rw [cols_eq ix (by decide) (by decide)]
      exact chk_eq (dC (ci := [0, 2, 1, 3]) (ti := [[[0]], [[1]], [[2, 3]]]) (by decide)) (by decide)
    rcases List.mem_cons.mp hx with rfl | hx
    · rw [show un2 (T.tup [T.str (q "2310"), T.int 0]) = some (T.str ([2, 3, 1, 0].map dg), T.int 0) by rw [show [2, 3, 1, 0].map dg = q "2310" by decide +kernel]; rfl, ofO_some, pu_bd]
      dsimp only
      rw [cols_eq ix (by decide) (by decide)]
      exact chk_eq (dC (ci := [2, 3, 1, 0]) (ti := [[[0]], [[1]], [[2, 3]]]) (by decide)) (by decide)
    · obtain rfl := List.mem_singleton.mp hx
      rw [show un2 (T.tup [T.str (q "3021"), T.int 1]) = some (T.str ([3, 0, 2, 1].map dg), T.int 1) by rw [show [3, 0, 2, 1].map dg = q "3021" by decide +kernel]; rfl, ofO_some, pu_bd]
      dsimp only
      rw [cols_eq ix (by decide) (by decide)]
      exact chk_eq (dC (ci := [3, 0, 2, 1]) (ti := [[[0]], [[1]], [[2, 3]]]) (by decide)) (by decide)
  exact HT.pu rfl) (by decide)

end K45
namespace K45
open PySem PySem.Spec PyProof.Rows TL
open L2 hiding putF
/-- what the head tells -/
structure Zx (K : PySem.W.Frag) (mg : Str → Option Value) : Prop where
  b_abs : mg "abs" = none
  b_all : mg "all" = none
  b_dict : mg "dict" = none
  b_enumerate : mg "enumerate" = none
  b_int : mg "int" = none
  b_isinstance : mg "isinstance" = none
  b_len : mg "len" = none
  b_list : mg "list" = none
  b_max : mg "max" = none
  b_min : mg "min" = none
  b_range : mg "range" = none
  b_sorted : mg "sorted" = none
  b_tuple : mg "tuple" = none
  b_zip : mg "zip" = none
  f_names_of : ∃ fd, FunD K "names_of" "names_of" (defArgs s_names_of) (defBody s_names_of) (defScope s_names_of) [] [] (He.ga K "names_of") fd
  g_names_of : mg "names_of" = some (.ref (He.ga K "names_of"))
  f_steps_from : ∃ fd, FunD K "steps_from" "steps_from" (defArgs s_steps_from) (defBody s_steps_from) (defScope s_steps_from) [] [] (He.ga K "steps_from") fd
  g_steps_from : mg "steps_from" = some (.ref (He.ga K "steps_from"))
  f_steps_between : ∃ fd, FunD K "steps_between" "steps_between" (defArgs s_steps_between) (defBody s_steps_between) (defScope s_steps_between) [] [] (He.ga K "steps_between") fd
  g_steps_between : mg "steps_between" = some (.ref (He.ga K "steps_between"))
  f_closed_steps : ∃ fd, FunD K "closed_steps" "closed_steps" (defArgs s_closed_steps) (defBody s_closed_steps) (defScope s_closed_steps) [] [] (He.ga K "closed_steps") fd
  g_closed_steps : mg "closed_steps" = some (.ref (He.ga K "closed_steps"))
  f_lowered : ∃ fd, FunD K "lowered" "lowered" (defArgs s_lowered) (defBody s_lowered) (defScope s_lowered) [] [] (He.ga K "lowered") fd
  g_lowered : mg "lowered" = some (.ref (He.ga K "lowered"))
  f_rows_of : ∃ fd, FunD K "rows_of" "rows_of" (defArgs s_rows_of) (defBody s_rows_of) (defScope s_rows_of) [] [] (He.ga K "rows_of") fd
  g_rows_of : mg "rows_of" = some (.ref (He.ga K "rows_of"))
  f_row_by_name : ∃ fd, FunD K "row_by_name" "row_by_name" (defArgs s_row_by_name) (defBody s_row_by_name) (defScope s_row_by_name) [] [] (He.ga K "row_by_name") fd
  g_row_by_name : mg "row_by_name" = some (.ref (He.ga K "row_by_name"))
  f_unions_by_rows : ∃ fd, FunD K "unions_by_rows" "unions_by_rows" (defArgs s_unions_by_rows) (defBody s_unions_by_rows) (defScope s_unions_by_rows) [] [] (He.ga K "unions_by_rows") fd
  g_unions_by_rows : mg "unions_by_rows" = some (.ref (He.ga K "unions_by_rows"))
  f_are_just : ∃ fd, FunD K "are_just" "are_just" (defArgs s_are_just) (defBody s_are_just) (defScope s_are_just) [] [] (He.ga K "are_just") fd
  g_are_just : mg "are_just" = some (.ref (He.ga K "are_just"))
  f_looked_drawing : ∃ fd, FunD K "looked_drawing" "looked_drawing" (defArgs s_looked_drawing) (defBody s_looked_drawing) (defScope s_looked_drawing) [] [] (He.ga K "looked_drawing") fd
  g_looked_drawing : mg "looked_drawing" = some (.ref (He.ga K "looked_drawing"))
  f_heights_of : ∃ fd, FunD K "heights_of" "heights_of" (defArgs s_heights_of) (defBody s_heights_of) (defScope s_heights_of) [] [] (He.ga K "heights_of") fd
  g_heights_of : mg "heights_of" = some (.ref (He.ga K "heights_of"))
  f_Kin_bar : ∃ fd, FunD K "bar" "Kin.bar" (defArgs s_Kin_bar) (defBody s_Kin_bar) (defScope s_Kin_bar) [] [] (He.ma K (He.ga K "Kin") "bar") fd
  f_Kin_span : ∃ fd, FunD K "span" "Kin.span" (defArgs s_Kin_span) (defBody s_Kin_span) (defScope s_Kin_span) [] [] (He.ma K (He.ga K "Kin") "span") fd
  f_Kin_crossed : ∃ fd, FunD K "crossed" "Kin.crossed" (defArgs s_Kin_crossed) (defBody s_Kin_crossed) (defScope s_Kin_crossed) [] [] (He.ma K (He.ga K "Kin") "crossed") fd
  f_Kin___init__ : ∃ fd, FunD K "__init__" "Kin.__init__" (defArgs s_Kin___init__) (defBody s_Kin___init__) (defScope s_Kin___init__) [] [] (He.ma K (He.ga K "Kin") "__init__") fd
  f_crossings : ∃ fd, FunD K "crossings" "crossings" (defArgs s_crossings) (defBody s_crossings) (defScope s_crossings) [] [] (He.ga K "crossings") fd
  g_crossings : mg "crossings" = some (.ref (He.ga K "crossings"))
  f_law_pen_of : ∃ fd, FunD K "_law_pen_of" "_law_pen_of" (defArgs s_law_pen_of) (defBody s_law_pen_of) (defScope s_law_pen_of) [] [] (He.ga K "_law_pen_of") fd
  g_law_pen_of : mg "_law_pen_of" = some (.ref (He.ga K "_law_pen_of"))
  f_law_draw : ∃ fd, FunD K "_law_draw" "_law_draw" (defArgs s_law_draw) (defBody s_law_draw) (defScope s_law_draw) [] [] (He.ga K "_law_draw") fd
  g_law_draw : mg "_law_draw" = some (.ref (He.ga K "_law_draw"))
  f_law_drawn_names : ∃ fd, FunD K "_law_drawn_names" "_law_drawn_names" (defArgs s_law_drawn_names) (defBody s_law_drawn_names) (defScope s_law_drawn_names) [] [] (He.ga K "_law_drawn_names") fd
  g_law_drawn_names : mg "_law_drawn_names" = some (.ref (He.ga K "_law_drawn_names"))
  f_law_two_couples : ∃ fd, FunD K "_law_two_couples" "_law_two_couples" (defArgs s_law_two_couples) (defBody s_law_two_couples) (defScope s_law_two_couples) [] [] (He.ga K "_law_two_couples") fd
  g_law_two_couples : mg "_law_two_couples" = some (.ref (He.ga K "_law_two_couples"))
  f_law_uncle_and_niece : ∃ fd, FunD K "_law_uncle_and_niece" "_law_uncle_and_niece" (defArgs s_law_uncle_and_niece) (defBody s_law_uncle_and_niece) (defScope s_law_uncle_and_niece) [] [] (He.ga K "_law_uncle_and_niece") fd
  g_law_uncle_and_niece : mg "_law_uncle_and_niece" = some (.ref (He.ga K "_law_uncle_and_niece"))
  f_the_law : ∃ fd, FunD K "law" "law" (defArgs s_the_law) (defBody s_the_law) (defScope s_the_law) [] [] (He.ga K "law") fd
  g_the_law : mg "law" = some (.ref (He.ga K "law"))
  c_Kin : Cls K (He.ga K "Kin")
  na_Kin_book : NoAttr K (He.ga K "Kin") "book"
  na_Kin_rows : NoAttr K (He.ga K "Kin") "rows"
  na_Kin_folk : NoAttr K (He.ga K "Kin") "folk"
  na_Kin_child_in : NoAttr K (He.ga K "Kin") "child_in"
  na_Kin_parent_in : NoAttr K (He.ga K "Kin") "parent_in"
  mk_Kin : Mk K (He.ga K "Kin") (He.ma K (He.ga K "Kin") "__init__")
  gm_Kin : mg "Kin" = some (.ref (He.ga K "Kin"))
  me_Kin_bar : Meth K (He.ga K "Kin") "bar" (He.ma K (He.ga K "Kin") "bar")
  me_Kin_span : Meth K (He.ga K "Kin") "span" (He.ma K (He.ga K "Kin") "span")
  me_Kin_crossed : Meth K (He.ga K "Kin") "crossed" (He.ma K (He.ga K "Kin") "crossed")
  ke : KeB K (He.ga K "KinError")
  gm_KinError : mg "KinError" = some (.ref (He.ga K "KinError"))
  gm_NoRows : mg "NoRows" = some (.ref (He.ga K "NoRows"))
  gm_NoDrawing : mg "NoDrawing" = some (.ref (He.ga K "NoDrawing"))
  x_NoRows : XC K (He.ga K "NoRows")
  xi_NoRows : XIn K (He.ga K "NoRows") (He.fAd K ("NoRows", some "__init__")) ["ring"]
  fi_NoRows : ∃ fd, FunD K "__init__" "NoRows.__init__" (defArgs si_NoRows) (defBody si_NoRows) (defScope si_NoRows) [] [] (He.fAd K ("NoRows", some "__init__")) fd
  x_NoDrawing : XC K (He.ga K "NoDrawing")
  xi_NoDrawing : XIn K (He.ga K "NoDrawing") (He.fAd K ("NoDrawing", some "__init__")) []
  fi_NoDrawing : ∃ fd, FunD K "__init__" "NoDrawing.__init__" (defArgs si_NoDrawing) (defBody si_NoDrawing) (defScope si_NoDrawing) [] [] (He.fAd K ("NoDrawing", some "__init__")) fd
theorem vc_the_law : VC N_the_law sp_the_law c_the_law := vc_law x_the_law law_true
section
variable {P : Program} {w : World} {K : PySem.W.Frag} {mg : Str → Option Value} {base : Heap}
theorem sci_NoRows : FnScope (["self", "ring"] : List Str) (["self", "ring"] : List Str) (defScope si_NoRows) := ⟨rfl, rfl, rfl, by decide +kernel, rfl, by decide +kernel, by decide +kernel⟩
theorem xok_NoRows (Z : Zx K mg) : XOk P w K mg base "NoRows" ["ring"] := by
  obtain ⟨fd, F⟩ := Z.fi_NoRows
  exact ⟨Z.x_NoRows, Z.gm_NoRows, _, fd, (["self", "ring"] : List Str), Z.xi_NoRows, init1 F sci_NoRows Z.x_NoRows.oex (Z.xi_NoRows.no _ (by simp)) (fun cdv A outer s H E => (pss_cons (ps_expr (pe_keinit Z.ke rfl Z.gm_KinError (pa_cons (pe_var (i := 0) rfl (.inl rfl)) (pa_cons pe_str pa_nil)))) (pss_cons (ps_ost (pe_var (i := 0) rfl (.inl rfl)) (pe_var (i := 1) rfl (.inl rfl))) pss_nil))), F.bindsN fun _ _ _ _ _ _ us hl => match us, hl with | [_, _], _ => rfl⟩
theorem sci_NoDrawing : FnScope (["self"] : List Str) (["self"] : List Str) (defScope si_NoDrawing) := ⟨rfl, rfl, rfl, by decide +kernel, rfl, by decide +kernel, by decide +kernel⟩
theorem xok_NoDrawing (Z : Zx K mg) : XOk P w K mg base "NoDrawing" [] := by
  obtain ⟨fd, F⟩ := Z.fi_NoDrawing
  exact ⟨Z.x_NoDrawing, Z.gm_NoDrawing, _, fd, (["self"] : List Str), Z.xi_NoDrawing, init0 F sci_NoDrawing Z.x_NoDrawing.oex  (fun cdv A outer s H E => (pss_cons (ps_expr (pe_keinit Z.ke rfl Z.gm_KinError (pa_cons (pe_var (i := 0) rfl (.inl rfl)) (pa_cons pe_str pa_nil)))) pss_nil)), F.bindsN fun _ _ _ _ _ _ us hl => match us, hl with | [_], _ => rfl⟩
theorem sc_names_of : FnScope N_names_of (["book"] : List Str) (defScope s_names_of) := ⟨rfl, rfl, rfl, by decide +kernel, rfl, by decide +kernel, by decide +kernel⟩
theorem ok_names_of (Z : Zx K mg) : Okf P w K mg base 1 "names_of" (["book"] : List Str) sp_names_of := by
  obtain ⟨fd, F⟩ := Z.f_names_of
  have hb : ∀ (cdv : Value) (A : Around) (outer : List Env) (s : Shared) (H : Hp) (E : XK), Room 0 (A.deeper (envOfC "names_of" (defScope s_names_of) s.heap.objs.size (He.ga K "names_of") cdv)) → TSs (cxOf (L2N.CX P w) P w K mg base N_names_of "names_of" (defScope s_names_of) (He.ga K "names_of") cdv A outer s H E) (defBody s_names_of) c_names_of := fun cdv A outer s H E hr =>
    (tss_cons (ts_ret (te_comp rfl sc_names_of.nd (ti_seq (te_ix (te_var (i := 0) rfl (.inl rfl)) te_int)) (ow := [("name", 1), ("mark", 2)]) (blkOk_by (by kernel_rfl)) (fun _ _ _ _ _ => (tg_tup rfl (n := 2) (tgs_cons (tg_name (i := 1) (by decide) sc_names_of.nd rfl (.inl rfl)) (tgs_cons (tg_name (i := 2) (by decide) sc_names_of.nd rfl (.inl rfl)) tgs_nil)) rfl rfl (takes_c (takes_c takes_z)))) (fun _ _ _ _ _ => tbs_nil) (fun _ _ _ _ _ => (te_var (i := 1) rfl (.inl rfl)))))
      tss_nil)
  exact ⟨fd, fn_t F sc_names_of len_names_of hb vc_names_of, Z.g_names_of, F.kp, F.bindsN fun _ _ _ _ _ _ us hl => match us, hl with | [_], _ => rfl⟩
theorem sc_steps_from : FnScope N_steps_from (["book", "name"] : List Str) (defScope s_steps_from) := ⟨rfl, rfl, rfl, by decide +kernel, rfl, by decide +kernel, by decide +kernel⟩
theorem ok_steps_from (Z : Zx K mg) : Okf P w K mg base 1 "steps_from" (["book", "name"] : List Str) sp_steps_from := by
  obtain ⟨fd, F⟩ := Z.f_steps_from
  have hb : ∀ (cdv : Value) (A : Around) (outer : List Env) (s : Shared) (H : Hp) (E : XK), Room 0 (A.deeper (envOfC "steps_from" (defScope s_steps_from) s.heap.objs.size (He.ga K "steps_from") cdv)) → TSs (cxOf (L2N.CX P w) P w K mg base N_steps_from "steps_from" (defScope s_steps_from) (He.ga K "steps_from") cdv A outer s H E) (defBody s_steps_from) c_steps_from := fun cdv A outer s H E hr =>
    (tss_cons (ts_set (i := 2) sc_steps_from.nd rfl (.inl rfl) (te_lstM ta_nil))
      (tss_cons (ts_for (vs := [3, 4]) (passes_of rfl) rfl (ti_seq (te_bin op_addT (te_ix (te_var (i := 0) rfl (.inl rfl)) te_int) (te_ix (te_var (i := 0) rfl (.inl rfl)) te_int))) (tg_tup rfl (n := 2) (tgs_cons (tg_name (i := 3) (by decide) sc_steps_from.nd rfl (.inl rfl)) (tgs_cons (tg_name (i := 4) (by decide) sc_steps_from.nd rfl (.inl rfl)) tgs_nil)) rfl rfl (takes_c (takes_c takes_z))) (tss_cons (ts_if (tb_cmp (op_eqT (u64 hr)) (te_var (i := 3) rfl (.inl rfl)) (te_var (i := 1) rfl (.inr (.inl rfl))) rfl) (tss_cons (ts_do (te_ext (te_var (i := 2) rfl (.inl rfl)) (te_comp rfl sc_steps_from.nd (ti_seq (te_var (i := 4) rfl (.inl rfl))) (ow := [("parent", 5)]) (blkOk_by (by kernel_rfl)) (fun _ _ _ _ _ => (tg_name (i := 5) (by decide) sc_steps_from.nd rfl (.inl rfl))) (fun _ _ _ _ _ => tbs_nil) (fun _ _ _ _ _ => (te_tup (ta_cons te_str (ta_cons (te_var (i := 1) rfl (.inr (.inl rfl))) (ta_cons (te_var (i := 5) rfl (.inl rfl)) ta_nil))))))))
      tss_nil) tss_nil)
      tss_nil))
      (tss_cons (ts_for (vs := [4]) (passes_of rfl) rfl (ti_seq (te_ix (te_var (i := 0) rfl (.inl rfl)) te_int)) (tg_name (i := 4) (by decide) sc_steps_from.nd rfl (.inl rfl)) (tss_cons (ts_if (tb_cmp (op_inT (u65 hr)) (te_var (i := 1) rfl (.inr (.inl rfl))) (te_var (i := 4) rfl (.inl rfl)) rfl) (tss_cons (ts_do (te_ext (te_var (i := 2) rfl (.inl rfl)) (te_comp rfl sc_steps_from.nd (ti_seq (te_var (i := 4) rfl (.inl rfl))) (ow := [("other", 6)]) (blkOk_by (by kernel_rfl)) (fun _ _ _ _ _ => (tg_name (i := 6) (by decide) sc_steps_from.nd rfl (.inl rfl))) (fun _ _ _ _ _ => (tbs_one (tb_cmp (op_neT (u64 hr)) (te_var (i := 6) rfl (.inl rfl)) (te_var (i := 1) rfl (.inr (.inl rfl))) rfl))) (fun _ _ _ _ _ => (te_tup (ta_cons te_str (ta_cons (te_var (i := 1) rfl (.inr (.inl rfl))) (ta_cons (te_var (i := 6) rfl (.inl rfl)) ta_nil))))))))
      tss_nil) tss_nil)
      tss_nil))
      (tss_cons (ts_ret (te_var (i := 2) rfl (.inl rfl)))
      tss_nil))))
  exact ⟨fd, fn_t F sc_steps_from len_steps_from hb vc_steps_from, Z.g_steps_from, F.kp, F.bindsN fun _ _ _ _ _ _ us hl => match us, hl with | [_, _], _ => rfl⟩
theorem sc_steps_between : FnScope N_steps_between (["book", "begin", "end"] : List Str) (defScope s_steps_between) := ⟨rfl, rfl, rfl, by decide +kernel, rfl, by decide +kernel, by decide +kernel⟩
theorem ok_steps_between (Z : Zx K mg) : Okf P w K mg base 2 "steps_between" (["book", "begin", "end"] : List Str) sp_steps_between := by
  have O_steps_from : Okf P w K mg base 1 "steps_from" (["book", "name"] : List Str) sp_steps_from := ok_steps_from Z
  obtain ⟨fd, F⟩ := Z.f_steps_between
  have hb : ∀ (cdv : Value) (A : Around) (outer : List Env) (s : Shared) (H : Hp) (E : XK), Room 1 (A.deeper (envOfC "steps_between" (defScope s_steps_between) s.heap.objs.size (He.ga K "steps_between") cdv)) → TSs (cxOf (L2N.CX P w) P w K mg base N_steps_between "steps_between" (defScope s_steps_between) (He.ga K "steps_between") cdv A outer s H E) (defBody s_steps_between) c_steps_between := fun cdv A outer s H E hr =>
    (tss_cons (ts_set (i := 3) sc_steps_between.nd rfl (.inl rfl) (te_disp1 (te_var (i := 1) rfl (.inl rfl)) (te_lst ta_nil)))
      (tss_cons (ts_set (i := 4) sc_steps_between.nd rfl (.inl rfl) (te_lstM (ta_cons (te_var (i := 1) rfl (.inl rfl)) ta_nil)))
      (tss_cons (ts_set (i := 5) sc_steps_between.nd rfl (.inl rfl) te_int)
      (tss_cons (ts_while (passes_of rfl) (tb_cmp (op_ltT (u64 hr)) (te_var (i := 5) rfl (.inl rfl)) (te_fnB fn_len rfl Z.b_len boot_len (ta_cons (te_var (i := 4) rfl (.inl rfl)) ta_nil)) rfl) (tss_cons (ts_for (vs := [6]) (passes_of rfl) rfl (ti_seq (te_callO O_steps_from hr (by decide) rfl (ta_cons (te_var (i := 0) rfl (.inl rfl)) (ta_cons (te_ix (te_var (i := 4) rfl (.inl rfl)) (te_var (i := 5) rfl (.inl rfl))) ta_nil)))) (tg_name (i := 6) (by decide) sc_steps_between.nd rfl (.inl rfl)) (tss_cons (ts_if (tb_cmp (op_dninT (u65 hr)) (te_ix (te_var (i := 6) rfl (.inl rfl)) te_int) (te_var (i := 3) rfl (.inl rfl)) rfl) (tss_cons (ts_dput (u64 hr) (te_var (i := 3) rfl (.inl rfl)) (te_ix (te_var (i := 6) rfl (.inl rfl)) te_int) (te_bin op_addT (te_dg (u64 hr) (te_var (i := 3) rfl (.inl rfl)) (te_ix (te_var (i := 4) rfl (.inl rfl)) (te_var (i := 5) rfl (.inl rfl)))) (te_lst (ta_cons (te_var (i := 6) rfl (.inl rfl)) ta_nil))))
      (tss_cons (ts_do (te_app (te_var (i := 4) rfl (.inl rfl)) (te_ix (te_var (i := 6) rfl (.inl rfl)) te_int)))
      tss_nil)) tss_nil)
      tss_nil))
      (tss_cons (ts_set (i := 5) sc_steps_between.nd rfl (.inl rfl) (te_bin op_addT (te_var (i := 5) rfl (.inl rfl)) te_int))
      tss_nil)))
      (tss_drop (tss_cons (ts_ret (te_get2 (u64 hr) (te_var (i := 3) rfl (.inl rfl)) (te_var (i := 2) rfl (.inl rfl)) te_non))
      tss_nil))))))
  exact ⟨fd, fn_t F sc_steps_between len_steps_between hb vc_steps_between, Z.g_steps_between, F.kp, F.bindsN fun _ _ _ _ _ _ us hl => match us, hl with | [_, _, _], _ => rfl⟩
theorem sc_closed_steps : FnScope N_closed_steps (["book"] : List Str) (defScope s_closed_steps) := ⟨rfl, rfl, rfl, by decide +kernel, rfl, by decide +kernel, by decide +kernel⟩
theorem ok_closed_steps (Z : Zx K mg) : Okf P w K mg base 3 "closed_steps" (["book"] : List Str) sp_closed_steps := by
  have O_steps_between : Okf P w K mg base 2 "steps_between" (["book", "begin", "end"] : List Str) sp_steps_between := ok_steps_between Z
  obtain ⟨fd, F⟩ := Z.f_closed_steps
  have hb : ∀ (cdv : Value) (A : Around) (outer : List Env) (s : Shared) (H : Hp) (E : XK), Room 2 (A.deeper (envOfC "closed_steps" (defScope s_closed_steps) s.heap.objs.size (He.ga K "closed_steps") cdv)) → TSs (cxOf (L2N.CX P w) P w K mg base N_closed_steps "closed_steps" (defScope s_closed_steps) (He.ga K "closed_steps") cdv A outer s H E) (defBody s_closed_steps) c_closed_steps := fun cdv A outer s H E hr =>
    (tss_cons (ts_for (vs := [1, 2]) (passes_of rfl) rfl (ti_seq (te_bin op_addT (te_ix (te_var (i := 0) rfl (.inl rfl)) te_int) (te_ix (te_var (i := 0) rfl (.inl rfl)) te_int))) (tg_tup rfl (n := 2) (tgs_cons (tg_name (i := 1) (by decide) sc_closed_steps.nd rfl (.inl rfl)) (tgs_cons (tg_name (i := 2) (by decide) sc_closed_steps.nd rfl (.inl rfl)) tgs_nil)) rfl rfl (takes_c (takes_c takes_z))) (tss_cons (ts_for (vs := [3]) (passes_of rfl) rfl (ti_seq (te_var (i := 2) rfl (.inl rfl))) (tg_name (i := 3) (by decide) sc_closed_steps.nd rfl (.inl rfl)) (tss_cons (ts_set (i := 4) sc_closed_steps.nd rfl (.inl rfl) (te_callO O_steps_between hr (by decide) rfl (ta_cons (te_var (i := 0) rfl (.inl rfl)) (ta_cons (te_var (i := 3) rfl (.inl rfl)) (ta_cons (te_var (i := 1) rfl (.inl rfl)) ta_nil)))))
      (tss_cons (ts_if (tb_cmp op_isnT (te_var (i := 4) rfl (.inl rfl)) te_non rfl) (tss_cons (ts_ret (te_fnT fn_tuple rfl Z.b_tuple boot_tuple (ta_cons (te_bin op_addT (te_lst (ta_cons (te_tup (ta_cons te_str (ta_cons (te_var (i := 1) rfl (.inl rfl)) (ta_cons (te_var (i := 3) rfl (.inl rfl)) ta_nil)))) ta_nil)) (te_var (i := 4) rfl (.inl rfl))) ta_nil)))
      tss_nil) tss_nil)
      tss_nil)))
      tss_nil))
      (tss_cons (ts_ret te_non)
      tss_nil))
  exact ⟨fd, fn_t F sc_closed_steps len_closed_steps hb vc_closed_steps, Z.g_closed_steps, F.kp, F.bindsN fun _ _ _ _ _ _ us hl => match us, hl with | [_], _ => rfl⟩
theorem sc_lowered : FnScope N_lowered (["book", "rows"] : List Str) (defScope s_lowered) := ⟨rfl, rfl, rfl, by decide +kernel, rfl, by decide +kernel, by decide +kernel⟩
theorem ok_lowered (Z : Zx K mg) : Okf P w K mg base 1 "lowered" (["book", "rows"] : List Str) sp_lowered := by
  obtain ⟨fd, F⟩ := Z.f_lowered
  have hb : ∀ (cdv : Value) (A : Around) (outer : List Env) (s : Shared) (H : Hp) (E : XK), Room 0 (A.deeper (envOfC "lowered" (defScope s_lowered) s.heap.objs.size (He.ga K "lowered") cdv)) → TSs (cxOf (L2N.CX P w) P w K mg base N_lowered "lowered" (defScope s_lowered) (He.ga K "lowered") cdv A outer s H E) (defBody s_lowered) c_lowered := fun cdv A outer s H E hr =>
    (tss_cons (ts_set (i := 2) sc_lowered.nd rfl (.inl rfl) te_bl)
      (tss_cons (ts_for (vs := [3]) (passes_of rfl) rfl (ti_seq (te_ix (te_var (i := 0) rfl (.inl rfl)) te_int)) (tg_name (i := 3) (by decide) sc_lowered.nd rfl (.inl rfl)) (tss_cons (ts_set (i := 4) sc_lowered.nd rfl (.inl rfl) (te_fnB (fn_max1 rfl) rfl Z.b_max boot_max (ta_cons (te_comp rfl sc_lowered.nd (ti_seq (te_var (i := 3) rfl (.inl rfl))) (ow := [("name", 5)]) (blkOk_by (by kernel_rfl)) (fun _ _ _ _ _ => (tg_name (i := 5) (by decide) sc_lowered.nd rfl (.inl rfl))) (fun _ _ _ _ _ => tbs_nil) (fun _ _ _ _ _ => (te_dg (u64 hr) (te_var (i := 1) rfl (.inr (.inl rfl))) (te_var (i := 5) rfl (.inl rfl))))) ta_nil)))
      (tss_cons (ts_for (vs := [5]) (passes_of rfl) rfl (ti_seq (te_var (i := 3) rfl (.inl rfl))) (tg_name (i := 5) (by decide) sc_lowered.nd rfl (.inl rfl)) (tss_cons (ts_if (tb_cmp (op_ltT (u64 hr)) (te_dg (u64 hr) (te_var (i := 1) rfl (.inr (.inl rfl))) (te_var (i := 5) rfl (.inl rfl))) (te_var (i := 4) rfl (.inl rfl)) rfl) (tss_cons (ts_dput (u64 hr) (te_var (i := 1) rfl (.inr (.inl rfl))) (te_var (i := 5) rfl (.inl rfl)) (te_var (i := 4) rfl (.inl rfl)))
      (tss_cons (ts_set (i := 2) sc_lowered.nd rfl (.inl rfl) te_bl)
      tss_nil)) tss_nil)
      tss_nil))
      tss_nil)))
      (tss_cons (ts_for (vs := [6, 3]) (passes_of rfl) rfl (ti_seq (te_bin op_addT (te_ix (te_var (i := 0) rfl (.inl rfl)) te_int) (te_ix (te_var (i := 0) rfl (.inl rfl)) te_int))) (tg_tup rfl (n := 2) (tgs_cons (tg_name (i := 6) (by decide) sc_lowered.nd rfl (.inl rfl)) (tgs_cons (tg_name (i := 3) (by decide) sc_lowered.nd rfl (.inl rfl)) tgs_nil)) rfl rfl (takes_c (takes_c takes_z))) (tss_cons (ts_set (i := 7) sc_lowered.nd rfl (.inl rfl) (te_bin op_addT te_int (te_fnB (fn_max1 rfl) rfl Z.b_max boot_max (ta_cons (te_comp rfl sc_lowered.nd (ti_seq (te_var (i := 3) rfl (.inl rfl))) (ow := [("name", 5)]) (blkOk_by (by kernel_rfl)) (fun _ _ _ _ _ => (tg_name (i := 5) (by decide) sc_lowered.nd rfl (.inl rfl))) (fun _ _ _ _ _ => tbs_nil) (fun _ _ _ _ _ => (te_dg (u64 hr) (te_var (i := 1) rfl (.inr (.inl rfl))) (te_var (i := 5) rfl (.inl rfl))))) ta_nil))))
      (tss_cons (ts_if (tb_cmp (op_ltT (u64 hr)) (te_dg (u64 hr) (te_var (i := 1) rfl (.inr (.inl rfl))) (te_var (i := 6) rfl (.inl rfl))) (te_var (i := 7) rfl (.inl rfl)) rfl) (tss_cons (ts_dput (u64 hr) (te_var (i := 1) rfl (.inr (.inl rfl))) (te_var (i := 6) rfl (.inl rfl)) (te_var (i := 7) rfl (.inl rfl)))
      (tss_cons (ts_set (i := 2) sc_lowered.nd rfl (.inl rfl) te_bl)
      tss_nil)) tss_nil)
      tss_nil)))
      (tss_cons (ts_ret (te_var (i := 2) rfl (.inl rfl)))
      tss_nil))))
  exact ⟨fd, fn_t F sc_lowered len_lowered hb vc_lowered, Z.g_lowered, F.kp, F.bindsN fun _ _ _ _ _ _ us hl => match us, hl with | [_, _], _ => rfl⟩
theorem sc_rows_of : FnScope N_rows_of (["book"] : List Str) (defScope s_rows_of) := ⟨rfl, rfl, rfl, by decide +kernel, rfl, by decide +kernel, by decide +kernel⟩
theorem ok_rows_of (Z : Zx K mg) : Okf P w K mg base 4 "rows_of" (["book"] : List Str) sp_rows_of := by
  have O_closed_steps : Okf P w K mg base 3 "closed_steps" (["book"] : List Str) sp_closed_steps := ok_closed_steps Z
  have O_names_of : Okf P w K mg base 1 "names_of" (["book"] : List Str) sp_names_of := ok_names_of Z
  have O_lowered : Okf P w K mg base 1 "lowered" (["book", "rows"] : List Str) sp_lowered := ok_lowered Z
  have X_NoRows : XOk P w K mg base "NoRows" ["ring"] := xok_NoRows Z
  obtain ⟨fd, F⟩ := Z.f_rows_of
  have hb : ∀ (cdv : Value) (A : Around) (outer : List Env) (s : Shared) (H : Hp) (E : XK), Room 3 (A.deeper (envOfC "rows_of" (defScope s_rows_of) s.heap.objs.size (He.ga K "rows_of") cdv)) → TSs (cxOf (L2N.CX P w) P w K mg base N_rows_of "rows_of" (defScope s_rows_of) (He.ga K "rows_of") cdv A outer s H E) (defBody s_rows_of) c_rows_of := fun cdv A outer s H E hr =>
    (tss_cons (ts_set (i := 1) sc_rows_of.nd rfl (.inl rfl) (te_callO O_closed_steps hr (by decide) rfl (ta_cons (te_var (i := 0) rfl (.inl rfl)) ta_nil)))
      (tss_cons (ts_if (tb_cmp op_isnT (te_var (i := 1) rfl (.inl rfl)) te_non rfl) (tss_cons (ts_raise X_NoRows rfl hr (by decide) rfl (ta_cons (te_var (i := 1) rfl (.inl rfl)) ta_nil))
      tss_nil) tss_nil)
      (tss_cons (ts_set (i := 2) sc_rows_of.nd rfl (.inr rfl) (te_dictM rfl (te_comp rfl sc_rows_of.nd (ti_seq (te_callO O_names_of hr (by decide) rfl (ta_cons (te_var (i := 0) rfl (.inl rfl)) ta_nil))) (ow := [("name", 3)]) (blkOk_by (by kernel_rfl)) (fun _ _ _ _ _ => (tg_name (i := 3) (by decide) sc_rows_of.nd rfl (.inl rfl))) (fun _ _ _ _ _ => tbs_nil) (fun _ _ _ _ _ => (te_tup (ta_cons (te_var (i := 3) rfl (.inl rfl)) (ta_cons te_int ta_nil))))) rfl Z.b_dict))
      (tss_cons (ts_while (passes_of rfl) (tb_val (te_callO O_lowered hr (by decide) rfl (ta_cons (te_var (i := 0) rfl (.inl rfl)) (ta_cons (te_var (i := 2) rfl (.inr (.inl rfl))) ta_nil)))) (tss_cons ts_pass
      tss_nil))
      (tss_drop (tss_cons (ts_ret (te_fnT fn_tuple rfl Z.b_tuple boot_tuple (ta_cons (te_comp rfl sc_rows_of.nd (ti_seq (te_callO O_names_of hr (by decide) rfl (ta_cons (te_var (i := 0) rfl (.inl rfl)) ta_nil))) (ow := [("name", 3)]) (blkOk_by (by kernel_rfl)) (fun _ _ _ _ _ => (tg_name (i := 3) (by decide) sc_rows_of.nd rfl (.inl rfl))) (fun _ _ _ _ _ => tbs_nil) (fun _ _ _ _ _ => (te_dg (u64 hr) (te_var (i := 2) rfl (.inr (.inl rfl))) (te_var (i := 3) rfl (.inl rfl))))) ta_nil)))
      tss_nil))))))
  exact ⟨fd, fn_t F sc_rows_of len_rows_of hb vc_rows_of, Z.g_rows_of, F.kp, F.bindsN fun _ _ _ _ _ _ us hl => match us, hl with | [_], _ => rfl⟩
theorem sc_row_by_name : FnScope N_row_by_name (["book"] : List Str) (defScope s_row_by_name) := ⟨rfl, rfl, rfl, by decide +kernel, rfl, by decide +kernel, by decide +kernel⟩
theorem ok_row_by_name (Z : Zx K mg) : Okf P w K mg base 5 "row_by_name" (["book"] : List Str) sp_row_by_name := by
  have O_rows_of : Okf P w K mg base 4 "rows_of" (["book"] : List Str) sp_rows_of := ok_rows_of Z
  obtain ⟨fd, F⟩ := Z.f_row_by_name
  have hb : ∀ (cdv : Value) (A : Around) (outer : List Env) (s : Shared) (H : Hp) (E : XK), Room 4 (A.deeper (envOfC "row_by_name" (defScope s_row_by_name) s.heap.objs.size (He.ga K "row_by_name") cdv)) → TSs (cxOf (L2N.CX P w) P w K mg base N_row_by_name "row_by_name" (defScope s_row_by_name) (He.ga K "row_by_name") cdv A outer s H E) (defBody s_row_by_name) c_row_by_name := fun cdv A outer s H E hr =>
    (tss_cons (ts_ret (te_fnT (fn_dict rfl) rfl Z.b_dict boot_dict (ta_cons (te_comp rfl sc_row_by_name.nd (ti_zip rfl Z.b_zip (te_ix (te_var (i := 0) rfl (.inl rfl)) te_int) (te_callO O_rows_of hr (by decide) rfl (ta_cons (te_var (i := 0) rfl (.inl rfl)) ta_nil))) (ow := [("person", 1), ("row", 2)]) (blkOk_by (by kernel_rfl)) (fun _ _ _ _ _ => (tg_tup rfl (n := 2) (tgs_cons (tg_name (i := 1) (by decide) sc_row_by_name.nd rfl (.inl rfl)) (tgs_cons (tg_name (i := 2) (by decide) sc_row_by_name.nd rfl (.inl rfl)) tgs_nil)) rfl rfl (takes_c (takes_c takes_z)))) (fun _ _ _ _ _ => tbs_nil) (fun _ _ _ _ _ => (te_tup (ta_cons (te_ix (te_var (i := 1) rfl (.inl rfl)) te_int) (ta_cons (te_var (i := 2) rfl (.inl rfl)) ta_nil))))) ta_nil)))
      tss_nil)
  exact ⟨fd, fn_t F sc_row_by_name len_row_by_name hb vc_row_by_name, Z.g_row_by_name, F.kp, F.bindsN fun _ _ _ _ _ _ us hl => match us, hl with | [_], _ => rfl⟩
theorem sc_unions_by_rows : FnScope N_unions_by_rows (["book"] : List Str) (defScope s_unions_by_rows) := ⟨rfl, rfl, rfl, by decide +kernel, rfl, by decide +kernel, by decide +kernel⟩
theorem ok_unions_by_rows (Z : Zx K mg) : Okf P w K mg base 6 "unions_by_rows" (["book"] : List Str) sp_unions_by_rows := by
  have O_row_by_name : Okf P w K mg base 5 "row_by_name" (["book"] : List Str) sp_row_by_name := ok_row_by_name Z
  obtain ⟨fd, F⟩ := Z.f_unions_by_rows
  have hb : ∀ (cdv : Value) (A : Around) (outer : List Env) (s : Shared) (H : Hp) (E : XK), Room 5 (A.deeper (envOfC "unions_by_rows" (defScope s_unions_by_rows) s.heap.objs.size (He.ga K "unions_by_rows") cdv)) → TSs (cxOf (L2N.CX P w) P w K mg base N_unions_by_rows "unions_by_rows" (defScope s_unions_by_rows) (He.ga K "unions_by_rows") cdv A outer s H E) (defBody s_unions_by_rows) c_unions_by_rows := fun cdv A outer s H E hr =>
    (tss_cons (ts_set (i := 1) sc_unions_by_rows.nd rfl (.inl rfl) (te_callO O_row_by_name hr (by decide) rfl (ta_cons (te_var (i := 0) rfl (.inl rfl)) ta_nil)))
      (tss_cons (ts_set (i := 2) sc_unions_by_rows.nd rfl (.inl rfl) (te_lst ta_nil))
      (tss_cons (ts_if (tb_cmp (op_neD0 (u64 hr)) (te_var (i := 1) rfl (.inl rfl)) te_dnew rfl) (tss_cons (ts_setComp (i := 2) rfl sc_unions_by_rows.nd rfl rfl rfl (ti_range1 rfl Z.b_range (te_bin op_addT (te_maxVals rfl (u64 hr) (te_var (i := 1) rfl (.inl rfl)) rfl Z.b_max) te_int)) (ow := [("row", 4)]) (blkOk_by (by kernel_rfl)) (fun _ _ _ _ _ => (tg_name (i := 4) (by decide) sc_unions_by_rows.nd rfl (.inl rfl))) (fun _ _ _ _ _ => tbs_nil) (fun _ _ _ _ _ => (te_lstM ta_nil)))
      tss_nil) tss_nil)
      (tss_cons (ts_for (vs := [3]) (passes_of rfl) rfl (ti_seq (te_ix (te_var (i := 0) rfl (.inl rfl)) te_int)) (tg_name (i := 3) (by decide) sc_unions_by_rows.nd rfl (.inl rfl)) (tss_cons (ts_do (te_app (te_ix (te_var (i := 2) rfl (.inl rfl)) (te_dg (u64 hr) (te_var (i := 1) rfl (.inl rfl)) (te_ix (te_var (i := 3) rfl (.inl rfl)) te_int))) (te_var (i := 3) rfl (.inl rfl))))
      tss_nil))
      (tss_drop (tss_cons (ts_ret (te_var (i := 2) rfl (.inl rfl)))
      tss_nil))))))
  exact ⟨fd, fn_t F sc_unions_by_rows len_unions_by_rows hb vc_unions_by_rows, Z.g_unions_by_rows, F.kp, F.bindsN fun _ _ _ _ _ _ us hl => match us, hl with | [_], _ => rfl⟩
theorem sc_are_just : FnScope N_are_just (["things", "thing"] : List Str) (defScope s_are_just) := ⟨rfl, rfl, rfl, by decide +kernel, rfl, by decide +kernel, by decide +kernel⟩
theorem ok_are_just (Z : Zx K mg) : Okf P w K mg base 1 "are_just" (["things", "thing"] : List Str) sp_are_just := by
  obtain ⟨fd, F⟩ := Z.f_are_just
  have hb : ∀ (cdv : Value) (A : Around) (outer : List Env) (s : Shared) (H : Hp) (E : XK), Room 0 (A.deeper (envOfC "are_just" (defScope s_are_just) s.heap.objs.size (He.ga K "are_just") cdv)) → TSs (cxOf (L2N.CX P w) P w K mg base N_are_just "are_just" (defScope s_are_just) (He.ga K "are_just") cdv A outer s H E) (defBody s_are_just) c_are_just := fun cdv A outer s H E hr =>
    (tss_cons (ts_if (TW.toB (tw_or (tb_not (tb_val (te_isi .tup (te_var (i := 1) rfl (.inr (.inl rfl))) rfl Z.b_isinstance rfl Z.b_tuple))) (tw_or1 (tb_cmp (op_neT (u64 hr)) (te_fnB fn_len rfl Z.b_len boot_len (ta_cons (te_var (i := 1) rfl (.inr (.inl rfl))) ta_nil)) (te_fnB fn_len rfl Z.b_len boot_len (ta_cons (te_var (i := 0) rfl (.inl rfl)) ta_nil)) rfl)))) (tss_cons (ts_ret te_bl)
      tss_nil) tss_nil)
      (tss_cons (ts_ret (te_fnB (fn_all rfl) rfl Z.b_all boot_all (ta_cons (te_comp rfl sc_are_just.nd (ti_seq (te_var (i := 0) rfl (.inl rfl))) (ow := [("one", 2)]) (blkOk_by (by kernel_rfl)) (fun _ _ _ _ _ => (tg_name (i := 2) (by decide) sc_are_just.nd rfl (.inl rfl))) (fun _ _ _ _ _ => tbs_nil) (fun _ _ _ _ _ => (te_cmp (op_inT (u65 hr)) (te_var (i := 2) rfl (.inl rfl)) (te_var (i := 1) rfl (.inr (.inl rfl))) rfl))) ta_nil)))
      tss_nil))
  exact ⟨fd, fn_t F sc_are_just len_are_just hb vc_are_just, Z.g_are_just, F.kp, F.bindsN fun _ _ _ _ _ _ us hl => match us, hl with | [_, _], _ => rfl⟩
theorem sc_looked_drawing : FnScope N_looked_drawing (["book", "thing"] : List Str) (defScope s_looked_drawing) := ⟨rfl, rfl, rfl, by decide +kernel, rfl, by decide +kernel, by decide +kernel⟩
theorem ok_looked_drawing (Z : Zx K mg) : Okf P w K mg base 7 "looked_drawing" (["book", "thing"] : List Str) sp_looked_drawing := by
  have O_unions_by_rows : Okf P w K mg base 6 "unions_by_rows" (["book"] : List Str) sp_unions_by_rows := ok_unions_by_rows Z
  have O_are_just : Okf P w K mg base 1 "are_just" (["things", "thing"] : List Str) sp_are_just := ok_are_just Z
  have X_NoDrawing : XOk P w K mg base "NoDrawing" [] := xok_NoDrawing Z
  obtain ⟨fd, F⟩ := Z.f_looked_drawing
  have hb : ∀ (cdv : Value) (A : Around) (outer : List Env) (s : Shared) (H : Hp) (E : XK), Room 6 (A.deeper (envOfC "looked_drawing" (defScope s_looked_drawing) s.heap.objs.size (He.ga K "looked_drawing") cdv)) → TSs (cxOf (L2N.CX P w) P w K mg base N_looked_drawing "looked_drawing" (defScope s_looked_drawing) (He.ga K "looked_drawing") cdv A outer s H E) (defBody s_looked_drawing) c_looked_drawing := fun cdv A outer s H E hr =>
    (tss_cons (ts_set (i := 2) sc_looked_drawing.nd rfl (.inl rfl) (te_callO O_unions_by_rows hr (by decide) rfl (ta_cons (te_var (i := 0) rfl (.inl rfl)) ta_nil)))
      (tss_cons (ts_if (TW.toB (tw_or (tb_not (tb_val (te_isi .tup (te_var (i := 1) rfl (.inl rfl)) rfl Z.b_isinstance rfl Z.b_tuple))) (tw_or (tb_cmp (op_neT (u64 hr)) (te_fnB fn_len rfl Z.b_len boot_len (ta_cons (te_var (i := 1) rfl (.inl rfl)) ta_nil)) te_int rfl) (tw_or1 (tb_not (tb_val (te_isi .tup (te_ix (te_var (i := 1) rfl (.inl rfl)) te_int) rfl Z.b_isinstance rfl Z.b_tuple))))))) (tss_cons (ts_raise0 X_NoDrawing rfl hr (by decide) rfl)
      tss_nil) tss_nil)
      (tss_cons (ts_if (TW.toB (tw_or (tb_not (tb_val (te_callO O_are_just hr (by decide) rfl (ta_cons (te_comp rfl sc_looked_drawing.nd (ti_seq (te_ix (te_var (i := 0) rfl (.inl rfl)) te_int)) (ow := [("name", 3), ("mark", 4)]) (blkOk_by (by kernel_rfl)) (fun _ _ _ _ _ => (tg_tup rfl (n := 2) (tgs_cons (tg_name (i := 3) (by decide) sc_looked_drawing.nd rfl (.inl rfl)) (tgs_cons (tg_name (i := 4) (by decide) sc_looked_drawing.nd rfl (.inl rfl)) tgs_nil)) rfl rfl (takes_c (takes_c takes_z)))) (fun _ _ _ _ _ => tbs_nil) (fun _ _ _ _ _ => (te_var (i := 3) rfl (.inl rfl)))) (ta_cons (te_ix (te_var (i := 1) rfl (.inl rfl)) te_int) ta_nil))))) (tw_or1 (tb_cmp (op_neT (u64 hr)) (te_fnB fn_len rfl Z.b_len boot_len (ta_cons (te_ix (te_var (i := 1) rfl (.inl rfl)) te_int) ta_nil)) (te_fnB fn_len rfl Z.b_len boot_len (ta_cons (te_var (i := 2) rfl (.inl rfl)) ta_nil)) rfl)))) (tss_cons (ts_raise0 X_NoDrawing rfl hr (by decide) rfl)
      tss_nil) tss_nil)
      (tss_cons (ts_if (tb_not (tb_val (te_fnB (fn_all rfl) rfl Z.b_all boot_all (ta_cons (te_comp rfl sc_looked_drawing.nd (ti_zip rfl Z.b_zip (te_var (i := 2) rfl (.inl rfl)) (te_ix (te_var (i := 1) rfl (.inl rfl)) te_int)) (ow := [("unions", 5), ("tracks", 6)]) (blkOk_by (by kernel_rfl)) (fun _ _ _ _ _ => (tg_tup rfl (n := 2) (tgs_cons (tg_name (i := 5) (by decide) sc_looked_drawing.nd rfl (.inl rfl)) (tgs_cons (tg_name (i := 6) (by decide) sc_looked_drawing.nd rfl (.inl rfl)) tgs_nil)) rfl rfl (takes_c (takes_c takes_z)))) (fun _ _ _ _ _ => tbs_nil) (fun _ _ _ _ _ => (te_callO O_are_just hr (by decide) rfl (ta_cons (te_var (i := 5) rfl (.inl rfl)) (ta_cons (te_var (i := 6) rfl (.inl rfl)) ta_nil))))) ta_nil)))) (tss_cons (ts_raise0 X_NoDrawing rfl hr (by decide) rfl)
      tss_nil) tss_nil)
      (tss_cons (ts_ret te_bl)
      tss_nil)))))
  exact ⟨fd, fn_t F sc_looked_drawing len_looked_drawing hb vc_looked_drawing, Z.g_looked_drawing, F.kp, F.bindsN fun _ _ _ _ _ _ us hl => match us, hl with | [_, _], _ => rfl⟩
theorem sc_heights_of : FnScope N_heights_of (["tracks"] : List Str) (defScope s_heights_of) := ⟨rfl, rfl, rfl, by decide +kernel, rfl, by decide +kernel, by decide +kernel⟩
theorem ok_heights_of (Z : Zx K mg) : Okf P w K mg base 1 "heights_of" (["tracks"] : List Str) sp_heights_of := by
  obtain ⟨fd, F⟩ := Z.f_heights_of
  have hb : ∀ (cdv : Value) (A : Around) (outer : List Env) (s : Shared) (H : Hp) (E : XK), Room 0 (A.deeper (envOfC "heights_of" (defScope s_heights_of) s.heap.objs.size (He.ga K "heights_of") cdv)) → TSs (cxOf (L2N.CX P w) P w K mg base N_heights_of "heights_of" (defScope s_heights_of) (He.ga K "heights_of") cdv A outer s H E) (defBody s_heights_of) c_heights_of := fun cdv A outer s H E hr =>
    (tss_cons (ts_set (i := 1) sc_heights_of.nd rfl (.inl rfl) te_dnewM)
      (tss_cons (ts_for (vs := [2, 3]) (passes_of rfl) rfl (ti_enum rfl Z.b_enumerate (te_var (i := 0) rfl (.inl rfl))) (tg_tup rfl (n := 2) (tgs_cons (tg_name (i := 2) (by decide) sc_heights_of.nd rfl (.inl rfl)) (tgs_cons (tg_name (i := 3) (by decide) sc_heights_of.nd rfl (.inl rfl)) tgs_nil)) rfl rfl (takes_c (takes_c takes_z))) (tss_cons (ts_for (vs := [4, 5]) (passes_of rfl) rfl (ti_enum rfl Z.b_enumerate (te_var (i := 3) rfl (.inl rfl))) (tg_tup rfl (n := 2) (tgs_cons (tg_name (i := 4) (by decide) sc_heights_of.nd rfl (.inl rfl)) (tgs_cons (tg_name (i := 5) (by decide) sc_heights_of.nd rfl (.inl rfl)) tgs_nil)) rfl rfl (takes_c (takes_c takes_z))) (tss_cons (ts_tput (u64 hr) (te_var (i := 1) rfl (.inl rfl)) (te_var (i := 5) rfl (.inl rfl)) (te_tup (ta_cons (te_var (i := 2) rfl (.inl rfl)) (ta_cons (te_bin op_addT (te_var (i := 4) rfl (.inl rfl)) te_int) ta_nil))))
      tss_nil))
      tss_nil))
      (tss_cons (ts_ret (te_var (i := 1) rfl (.inl rfl)))
      tss_nil)))
  exact ⟨fd, fn_t F sc_heights_of len_heights_of hb vc_heights_of, Z.g_heights_of, F.kp, F.bindsN fun _ _ _ _ _ _ us hl => match us, hl with | [_], _ => rfl⟩
theorem sc_Kin_bar : FnScope N_Kin_bar (["self", "family", "places"] : List Str) (defScope s_Kin_bar) := ⟨rfl, rfl, rfl, by decide +kernel, rfl, by decide +kernel, by decide +kernel⟩
theorem ok_Kin_bar (Z : Zx K mg) : Okm P w K mg base 1 "Kin" "bar" (["self", "family", "places"] : List Str) sp_Kin_bar := by
  obtain ⟨fd, F⟩ := Z.f_Kin_bar
  have hb : ∀ (cdv : Value) (A : Around) (outer : List Env) (s : Shared) (H : Hp) (E : XK), Room 0 (A.deeper (envOfC "Kin.bar" (defScope s_Kin_bar) s.heap.objs.size (He.ma K (He.ga K "Kin") "bar") cdv)) → TSs (cxOf (L2N.CX P w) P w K mg base N_Kin_bar "Kin.bar" (defScope s_Kin_bar) (He.ma K (He.ga K "Kin") "bar") cdv A outer s H E) (defBody s_Kin_bar) c_Kin_bar := fun cdv A outer s H E hr =>
    (tss_cons (ts_setComp (i := 3) rfl sc_Kin_bar.nd rfl rfl rfl (ti_seq (te_tg (u64 hr) (te_fld (fld_ok (.cons ⟨Z.c_Kin, Z.na_Kin_folk⟩ .nil)) (te_var (i := 0) rfl (.inl rfl))) (te_var (i := 1) rfl (.inl rfl)))) (ow := [("name", 4)]) (blkOk_by (by kernel_rfl)) (fun _ _ _ _ _ => (tg_name (i := 4) (by decide) sc_Kin_bar.nd rfl (.inl rfl))) (fun _ _ _ _ _ => tbs_nil) (fun _ _ _ _ _ => (te_dg (u64 hr) (te_var (i := 2) rfl (.inr (.inl rfl))) (te_var (i := 4) rfl (.inl rfl)))))
      (tss_cons (ts_ret (te_tup (ta_cons (te_fnB (fn_min1 rfl (u64 hr)) rfl Z.b_min boot_min (ta_cons (te_var (i := 3) rfl (.inl rfl)) ta_nil)) (ta_cons (te_fnB (fn_max1 rfl) rfl Z.b_max boot_max (ta_cons (te_var (i := 3) rfl (.inl rfl)) ta_nil)) ta_nil))))
      tss_nil))
  exact ⟨fd, fn_t F sc_Kin_bar len_Kin_bar hb vc_Kin_bar, Z.c_Kin, Z.me_Kin_bar, F.bindsN fun _ _ _ _ _ _ us hl => match us, hl with | [_, _, _], _ => rfl⟩
theorem sc_Kin_span : FnScope N_Kin_span (["self", "name", "heights"] : List Str) (defScope s_Kin_span) := ⟨rfl, rfl, rfl, by decide +kernel, rfl, by decide +kernel, by decide +kernel⟩
theorem ok_Kin_span (Z : Zx K mg) : Okm P w K mg base 1 "Kin" "span" (["self", "name", "heights"] : List Str) sp_Kin_span := by
  obtain ⟨fd, F⟩ := Z.f_Kin_span
  have hb : ∀ (cdv : Value) (A : Around) (outer : List Env) (s : Shared) (H : Hp) (E : XK), Room 0 (A.deeper (envOfC "Kin.span" (defScope s_Kin_span) s.heap.objs.size (He.ma K (He.ga K "Kin") "span") cdv)) → TSs (cxOf (L2N.CX P w) P w K mg base N_Kin_span "Kin.span" (defScope s_Kin_span) (He.ma K (He.ga K "Kin") "span") cdv A outer s H E) (defBody s_Kin_span) c_Kin_span := fun cdv A outer s H E hr =>
    (tss_cons (ts_set (i := 3) sc_Kin_span.nd rfl (.inl rfl) (te_tup (ta_cons (te_dg (u64 hr) (te_fld (fld_ok (.cons ⟨Z.c_Kin, Z.na_Kin_rows⟩ .nil)) (te_var (i := 0) rfl (.inl rfl))) (te_var (i := 1) rfl (.inl rfl))) (ta_cons te_int ta_nil))))
      (tss_cons (ts_set (i := 4) sc_Kin_span.nd rfl (.inl rfl) (te_fnB (fn_min1H rfl (u64 hr)) rfl Z.b_min boot_min (ta_cons (te_bin op_addT (te_lst (ta_cons (te_var (i := 3) rfl (.inl rfl)) ta_nil)) (te_comp rfl sc_Kin_span.nd (ti_seq (te_dg (u64 hr) (te_fld (fld_ok (.cons ⟨Z.c_Kin, Z.na_Kin_child_in⟩ .nil)) (te_var (i := 0) rfl (.inl rfl))) (te_var (i := 1) rfl (.inl rfl)))) (ow := [("family", 5)]) (blkOk_by (by kernel_rfl)) (fun _ _ _ _ _ => (tg_name (i := 5) (by decide) sc_Kin_span.nd rfl (.inl rfl))) (fun _ _ _ _ _ => tbs_nil) (fun _ _ _ _ _ => (te_tg (u64 hr) (te_var (i := 2) rfl (.inr (.inl rfl))) (te_var (i := 5) rfl (.inl rfl)))))) ta_nil)))
      (tss_cons (ts_ret (te_tup (ta_cons (te_var (i := 4) rfl (.inl rfl)) (ta_cons (te_fnB (fn_max1H rfl (u64 hr)) rfl Z.b_max boot_max (ta_cons (te_bin op_addT (te_lst (ta_cons (te_var (i := 3) rfl (.inl rfl)) ta_nil)) (te_comp rfl sc_Kin_span.nd (ti_seq (te_dg (u64 hr) (te_fld (fld_ok (.cons ⟨Z.c_Kin, Z.na_Kin_parent_in⟩ .nil)) (te_var (i := 0) rfl (.inl rfl))) (te_var (i := 1) rfl (.inl rfl)))) (ow := [("family", 5)]) (blkOk_by (by kernel_rfl)) (fun _ _ _ _ _ => (tg_name (i := 5) (by decide) sc_Kin_span.nd rfl (.inl rfl))) (fun _ _ _ _ _ => tbs_nil) (fun _ _ _ _ _ => (te_tg (u64 hr) (te_var (i := 2) rfl (.inr (.inl rfl))) (te_var (i := 5) rfl (.inl rfl)))))) ta_nil)) ta_nil))))
      tss_nil)))
  exact ⟨fd, fn_t F sc_Kin_span len_Kin_span hb vc_Kin_span, Z.c_Kin, Z.me_Kin_span, F.bindsN fun _ _ _ _ _ _ us hl => match us, hl with | [_, _, _], _ => rfl⟩
theorem sc_Kin_crossed : FnScope N_Kin_crossed (["self", "columns", "tracks"] : List Str) (defScope s_Kin_crossed) := ⟨rfl, rfl, rfl, by decide +kernel, rfl, by decide +kernel, by decide +kernel⟩
theorem ok_Kin_crossed (Z : Zx K mg) : Okm P w K mg base 2 "Kin" "crossed" (["self", "columns", "tracks"] : List Str) sp_Kin_crossed := by
  have O_heights_of : Okf P w K mg base 1 "heights_of" (["tracks"] : List Str) sp_heights_of := ok_heights_of Z
  have O_Kin_span : Okm P w K mg base 1 "Kin" "span" (["self", "name", "heights"] : List Str) sp_Kin_span := ok_Kin_span Z
  have O_Kin_bar : Okm P w K mg base 1 "Kin" "bar" (["self", "family", "places"] : List Str) sp_Kin_bar := ok_Kin_bar Z
  obtain ⟨fd, F⟩ := Z.f_Kin_crossed
  have hb : ∀ (cdv : Value) (A : Around) (outer : List Env) (s : Shared) (H : Hp) (E : XK), Room 1 (A.deeper (envOfC "Kin.crossed" (defScope s_Kin_crossed) s.heap.objs.size (He.ma K (He.ga K "Kin") "crossed") cdv)) → TSs (cxOf (L2N.CX P w) P w K mg base N_Kin_crossed "Kin.crossed" (defScope s_Kin_crossed) (He.ma K (He.ga K "Kin") "crossed") cdv A outer s H E) (defBody s_Kin_crossed) c_Kin_crossed := fun cdv A outer s H E hr =>
    (tss_cons (ts_set (i := 3) sc_Kin_crossed.nd rfl (.inr rfl) (te_fnT (fn_dict rfl) rfl Z.b_dict boot_dict (ta_cons (te_comp rfl sc_Kin_crossed.nd (ti_enum rfl Z.b_enumerate (te_var (i := 1) rfl (.inl rfl))) (ow := [("column", 12), ("name", 11)]) (blkOk_by (by kernel_rfl)) (fun _ _ _ _ _ => (tg_tup rfl (n := 2) (tgs_cons (tg_name (i := 12) (by decide) sc_Kin_crossed.nd rfl (.inl rfl)) (tgs_cons (tg_name (i := 11) (by decide) sc_Kin_crossed.nd rfl (.inl rfl)) tgs_nil)) rfl rfl (takes_c (takes_c takes_z)))) (fun _ _ _ _ _ => tbs_nil) (fun _ _ _ _ _ => (te_tup (ta_cons (te_var (i := 11) rfl (.inl rfl)) (ta_cons (te_var (i := 12) rfl (.inl rfl)) ta_nil))))) ta_nil)))
      (tss_cons (ts_set (i := 4) sc_Kin_crossed.nd rfl (.inr rfl) (te_callO O_heights_of hr (by decide) rfl (ta_cons (te_var (i := 2) rfl (.inl rfl)) ta_nil)))
      (tss_cons (ts_setComp (i := 5) rfl sc_Kin_crossed.nd rfl rfl rfl (ti_seq (te_var (i := 1) rfl (.inl rfl))) (ow := [("name", 11)]) (blkOk_by (by kernel_rfl)) (fun _ _ _ _ _ => (tg_name (i := 11) (by decide) sc_Kin_crossed.nd rfl (.inl rfl))) (fun _ _ _ _ _ => tbs_nil) (fun _ _ _ _ _ => (te_tup (ta_cons (te_var (i := 11) rfl (.inl rfl)) (ta_cons (te_dg (u64 hr) (te_var (i := 3) rfl (.inr (.inl rfl))) (te_var (i := 11) rfl (.inl rfl))) (ta_cons (te_meth O_Kin_span hr (by decide) (te_var (i := 0) rfl (.inr (.inl rfl))) (ta_cons (te_var (i := 11) rfl (.inl rfl)) (ta_cons (te_var (i := 4) rfl (.inr (.inl rfl))) ta_nil))) ta_nil))))))
      (tss_cons (ts_set (i := 6) sc_Kin_crossed.nd rfl (.inl rfl) te_int)
      (tss_cons (ts_forWK (vs := [7]) (pth_fld (pth_var (i := 0) rfl (.inr (.inl rfl))) (fld_ok (.cons ⟨Z.c_Kin, Z.na_Kin_folk⟩ .nil))) (passes_of rfl) rfl (tg_name (i := 7) (by decide) sc_Kin_crossed.nd rfl (.inl rfl)) (tss_cons (ts_asg (vs := [8, 9]) (te_meth O_Kin_bar hr (by decide) (te_var (i := 0) rfl (.inr (.inl rfl))) (ta_cons (te_var (i := 7) rfl (.inl rfl)) (ta_cons (te_var (i := 3) rfl (.inr (.inl rfl))) ta_nil))) (tg_tup rfl (n := 2) (tgs_cons (tg_name (i := 8) (by decide) sc_Kin_crossed.nd rfl (.inl rfl)) (tgs_cons (tg_name (i := 9) (by decide) sc_Kin_crossed.nd rfl (.inl rfl)) tgs_nil)) rfl rfl (takes_c (takes_c takes_z))))
      (tss_cons (ts_set (i := 10) sc_Kin_crossed.nd rfl (.inl rfl) (te_tg (u64 hr) (te_var (i := 4) rfl (.inr (.inl rfl))) (te_var (i := 7) rfl (.inl rfl))))
      (tss_cons (ts_for (vs := [11, 12, 13]) (passes_of rfl) rfl (ti_seq (te_var (i := 5) rfl (.inl rfl))) (tg_tup rfl (n := 3) (tgs_cons (tg_name (i := 11) (by decide) sc_Kin_crossed.nd rfl (.inl rfl)) (tgs_cons (tg_name (i := 12) (by decide) sc_Kin_crossed.nd rfl (.inl rfl)) (tgs_cons (tg_name (i := 13) (by decide) sc_Kin_crossed.nd rfl (.inl rfl)) tgs_nil))) rfl rfl (takes_c (takes_c (takes_c takes_z)))) (tss_cons (ts_if (TW.toB (tw_and (tb_chain (op_ltT (u64 hr)) (op_ltT (u64 hr)) (te_var (i := 8) rfl (.inl rfl)) (te_var (i := 12) rfl (.inl rfl)) (te_var (i := 9) rfl (.inl rfl))) (tw_and (tb_chain (op_leT (u64 hr)) (op_leT (u64 hr)) (te_ix (te_var (i := 13) rfl (.inl rfl)) te_int) (te_var (i := 10) rfl (.inl rfl)) (te_ix (te_var (i := 13) rfl (.inl rfl)) te_int)) (tw_and1 (tb_cmp (op_ninT (u65 hr)) (te_var (i := 11) rfl (.inl rfl)) (te_tg (u64 hr) (te_fld (fld_ok (.cons ⟨Z.c_Kin, Z.na_Kin_folk⟩ .nil)) (te_var (i := 0) rfl (.inr (.inl rfl)))) (te_var (i := 7) rfl (.inl rfl))) rfl))))) (tss_cons (ts_set (i := 6) sc_Kin_crossed.nd rfl (.inl rfl) (te_bin op_addT (te_var (i := 6) rfl (.inl rfl)) te_int))
      tss_nil) tss_nil)
      tss_nil))
      tss_nil))))
      (tss_cons (ts_ret (te_var (i := 6) rfl (.inl rfl)))
      tss_nil))))))
  exact ⟨fd, fn_t F sc_Kin_crossed len_Kin_crossed hb vc_Kin_crossed, Z.c_Kin, Z.me_Kin_crossed, F.bindsN fun _ _ _ _ _ _ us hl => match us, hl with | [_, _, _], _ => rfl⟩
theorem sc_Kin___init__ : FnScope N_Kin___init__ (["self", "book"] : List Str) (defScope s_Kin___init__) := ⟨rfl, rfl, rfl, by decide +kernel, rfl, by decide +kernel, by decide +kernel⟩
theorem ok_Kin___init__ (Z : Zx K mg) : Okc P w K mg base 6 "Kin" (["self", "book"] : List Str) sp_Kin___init__ := by
  have O_row_by_name : Okf P w K mg base 5 "row_by_name" (["book"] : List Str) sp_row_by_name := ok_row_by_name Z
  obtain ⟨fd, F⟩ := Z.f_Kin___init__
  have hb : ∀ (cdv : Value) (A : Around) (outer : List Env) (s : Shared) (H : Hp) (E : XK), Room 5 (A.deeper (envOfC "Kin.__init__" (defScope s_Kin___init__) s.heap.objs.size (He.ma K (He.ga K "Kin") "__init__") cdv)) → TSs (cxOf (L2N.CX P w) P w K mg base N_Kin___init__ "Kin.__init__" (defScope s_Kin___init__) (He.ma K (He.ga K "Kin") "__init__") cdv A outer s H E) (defBody s_Kin___init__) c_Kin___init__ := fun cdv A outer s H E hr =>
    (tss_cons (ts_fput (fld_ok (.cons ⟨Z.c_Kin, Z.na_Kin_book⟩ .nil)) (te_var (i := 0) rfl (.inl rfl)) (te_var (i := 1) rfl (.inl rfl)))
      (tss_cons (ts_fput (fld_ok (.cons ⟨Z.c_Kin, Z.na_Kin_rows⟩ .nil)) (te_var (i := 0) rfl (.inl rfl)) (te_callO O_row_by_name hr (by decide) rfl (ta_cons (te_var (i := 1) rfl (.inl rfl)) ta_nil)))
      (tss_cons (ts_fput (fld_ok (.cons ⟨Z.c_Kin, Z.na_Kin_folk⟩ .nil)) (te_var (i := 0) rfl (.inl rfl)) te_dnewM)
      (tss_cons (ts_for (vs := [2]) (passes_of rfl) rfl (ti_seq (te_ix (te_var (i := 1) rfl (.inl rfl)) te_int)) (tg_name (i := 2) (by decide) sc_Kin___init__.nd rfl (.inl rfl)) (tss_cons (ts_tput (u64 hr) (te_fld (fld_ok (.cons ⟨Z.c_Kin, Z.na_Kin_folk⟩ .nil)) (te_var (i := 0) rfl (.inl rfl))) (te_var (i := 2) rfl (.inl rfl)) (te_listM (te_var (i := 2) rfl (.inl rfl)) rfl Z.b_list))
      tss_nil))
      (tss_cons (ts_fput (fld_ok (.cons ⟨Z.c_Kin, Z.na_Kin_child_in⟩ .nil)) (te_var (i := 0) rfl (.inl rfl)) (te_dictM rfl (te_compWK (pth_fld (pth_var (i := 0) rfl (.inl rfl)) (fld_ok (.cons ⟨Z.c_Kin, Z.na_Kin_rows⟩ .nil))) rfl sc_Kin___init__.nd (ow := [("name", 4)]) (blkOk_by (by kernel_rfl)) (fun _ _ _ _ _ => (tg_name (i := 4) (by decide) sc_Kin___init__.nd rfl (.inl rfl))) (fun _ _ _ _ _ => tbs_nil) (fun _ _ _ _ _ => (te_tup (ta_cons (te_var (i := 4) rfl (.inl rfl)) (ta_cons (te_lstM ta_nil) ta_nil))))) rfl Z.b_dict))
      (tss_cons (ts_fput (fld_ok (.cons ⟨Z.c_Kin, Z.na_Kin_parent_in⟩ .nil)) (te_var (i := 0) rfl (.inl rfl)) (te_dictM rfl (te_compWK (pth_fld (pth_var (i := 0) rfl (.inl rfl)) (fld_ok (.cons ⟨Z.c_Kin, Z.na_Kin_rows⟩ .nil))) rfl sc_Kin___init__.nd (ow := [("name", 4)]) (blkOk_by (by kernel_rfl)) (fun _ _ _ _ _ => (tg_name (i := 4) (by decide) sc_Kin___init__.nd rfl (.inl rfl))) (fun _ _ _ _ _ => tbs_nil) (fun _ _ _ _ _ => (te_tup (ta_cons (te_var (i := 4) rfl (.inl rfl)) (ta_cons (te_lstM ta_nil) ta_nil))))) rfl Z.b_dict))
      (tss_cons (ts_for (vs := [3, 2]) (passes_of rfl) rfl (ti_seq (te_bin op_addT (te_ix (te_var (i := 1) rfl (.inl rfl)) te_int) (te_ix (te_var (i := 1) rfl (.inl rfl)) te_int))) (tg_tup rfl (n := 2) (tgs_cons (tg_name (i := 3) (by decide) sc_Kin___init__.nd rfl (.inl rfl)) (tgs_cons (tg_name (i := 2) (by decide) sc_Kin___init__.nd rfl (.inl rfl)) tgs_nil)) rfl rfl (takes_c (takes_c takes_z))) (tss_cons (ts_do (te_app (te_tg (u64 hr) (te_fld (fld_ok (.cons ⟨Z.c_Kin, Z.na_Kin_folk⟩ .nil)) (te_var (i := 0) rfl (.inl rfl))) (te_var (i := 2) rfl (.inl rfl))) (te_var (i := 3) rfl (.inl rfl))))
      (tss_cons (ts_do (te_app (te_dg (u64 hr) (te_fld (fld_ok (.cons ⟨Z.c_Kin, Z.na_Kin_child_in⟩ .nil)) (te_var (i := 0) rfl (.inl rfl))) (te_var (i := 3) rfl (.inl rfl))) (te_var (i := 2) rfl (.inl rfl))))
      tss_nil)))
      (tss_cons (ts_for (vs := [2]) (passes_of rfl) rfl (ti_seq (te_ix (te_var (i := 1) rfl (.inl rfl)) te_int)) (tg_name (i := 2) (by decide) sc_Kin___init__.nd rfl (.inl rfl)) (tss_cons (ts_for (vs := [4]) (passes_of rfl) rfl (ti_seq (te_var (i := 2) rfl (.inl rfl))) (tg_name (i := 4) (by decide) sc_Kin___init__.nd rfl (.inl rfl)) (tss_cons (ts_do (te_app (te_dg (u64 hr) (te_fld (fld_ok (.cons ⟨Z.c_Kin, Z.na_Kin_parent_in⟩ .nil)) (te_var (i := 0) rfl (.inl rfl))) (te_var (i := 4) rfl (.inl rfl))) (te_var (i := 2) rfl (.inl rfl))))
      tss_nil))
      tss_nil))
      tss_nil))))))))
  exact ⟨fd, fn_t F sc_Kin___init__ len_Kin___init__ hb vc_Kin___init__, Z.mk_Kin, Z.gm_Kin, F.bindsN fun _ _ _ _ _ _ us hl => match us, hl with | [_, _], _ => rfl⟩
theorem sc_crossings : FnScope N_crossings (["book", "drawing"] : List Str) (defScope s_crossings) := ⟨rfl, rfl, rfl, by decide +kernel, rfl, by decide +kernel, by decide +kernel⟩
theorem ok_crossings (Z : Zx K mg) : Okf P w K mg base 8 "crossings" (["book", "drawing"] : List Str) sp_crossings := by
  have O_Kin_crossed : Okm P w K mg base 2 "Kin" "crossed" (["self", "columns", "tracks"] : List Str) sp_Kin_crossed := ok_Kin_crossed Z
  have O_Kin___init__ : Okc P w K mg base 6 "Kin" (["self", "book"] : List Str) sp_Kin___init__ := ok_Kin___init__ Z
  obtain ⟨fd, F⟩ := Z.f_crossings
  have hb : ∀ (cdv : Value) (A : Around) (outer : List Env) (s : Shared) (H : Hp) (E : XK), Room 7 (A.deeper (envOfC "crossings" (defScope s_crossings) s.heap.objs.size (He.ga K "crossings") cdv)) → TSs (cxOf (L2N.CX P w) P w K mg base N_crossings "crossings" (defScope s_crossings) (He.ga K "crossings") cdv A outer s H E) (defBody s_crossings) c_crossings := fun cdv A outer s H E hr =>
    (tss_cons (ts_ret (te_meth O_Kin_crossed hr (by decide) (te_make O_Kin___init__ hr (by decide) rfl (ta_cons (te_var (i := 0) rfl (.inl rfl)) ta_nil)) (ta_cons (te_ix (te_var (i := 1) rfl (.inl rfl)) te_int) (ta_cons (te_ix (te_var (i := 1) rfl (.inl rfl)) te_int) ta_nil))))
      tss_nil)
  exact ⟨fd, fn_t F sc_crossings len_crossings hb vc_crossings, Z.g_crossings, F.kp, F.bindsN fun _ _ _ _ _ _ us hl => match us, hl with | [_, _], _ => rfl⟩
theorem sc_law_pen_of : FnScope N_law_pen_of (["_law_script"] : List Str) (defScope s_law_pen_of) := ⟨rfl, rfl, rfl, by decide +kernel, rfl, by decide +kernel, by decide +kernel⟩
theorem ok_law_pen_of (Z : Zx K mg) : Okf P w K mg base 1 "_law_pen_of" (["_law_script"] : List Str) sp_law_pen_of := by
  obtain ⟨fd, F⟩ := Z.f_law_pen_of
  have hb : ∀ (cdv : Value) (A : Around) (outer : List Env) (s : Shared) (H : Hp) (E : XK), Room 0 (A.deeper (envOfC "_law_pen_of" (defScope s_law_pen_of) s.heap.objs.size (He.ga K "_law_pen_of") cdv)) → TSs (cxOf (L2N.CX P w) P w K mg base N_law_pen_of "_law_pen_of" (defScope s_law_pen_of) (He.ga K "_law_pen_of") cdv A outer s H E) (defBody s_law_pen_of) c_law_pen_of := fun cdv A outer s H E hr =>
    (tss_cons (ts_ret (te_lstM (ta_cons (te_comp rfl sc_law_pen_of.nd (ti_seq (te_slice (te_var (i := 0) rfl (.inl rfl)) to_no (to_some te_int))) (ow := [("_law_cell", 1)]) (blkOk_by (by kernel_rfl)) (fun _ _ _ _ _ => (tg_name (i := 1) (by decide) sc_law_pen_of.nd rfl (.inl rfl))) (fun _ _ _ _ _ => tbs_nil) (fun _ _ _ _ _ => (te_var (i := 1) rfl (.inl rfl)))) (ta_cons te_int (ta_cons te_int ta_nil)))))
      tss_nil)
  exact ⟨fd, fn_t F sc_law_pen_of len_law_pen_of hb vc_law_pen_of, Z.g_law_pen_of, F.kp, F.bindsN fun _ _ _ _ _ _ us hl => match us, hl with | [_], _ => rfl⟩
theorem sc_law_draw : FnScope N_law_draw (["_law_pen", "_law_many"] : List Str) (defScope s_law_draw) := ⟨rfl, rfl, rfl, by decide +kernel, rfl, by decide +kernel, by decide +kernel⟩
theorem ok_law_draw (Z : Zx K mg) : Okf P w K mg base 1 "_law_draw" (["_law_pen", "_law_many"] : List Str) sp_law_draw := by
  obtain ⟨fd, F⟩ := Z.f_law_draw
  have hb : ∀ (cdv : Value) (A : Around) (outer : List Env) (s : Shared) (H : Hp) (E : XK), Room 0 (A.deeper (envOfC "_law_draw" (defScope s_law_draw) s.heap.objs.size (He.ga K "_law_draw") cdv)) → TSs (cxOf (L2N.CX P w) P w K mg base N_law_draw "_law_draw" (defScope s_law_draw) (He.ga K "_law_draw") cdv A outer s H E) (defBody s_law_draw) c_law_draw := fun cdv A outer s H E hr =>
    (tss_cons (ts_if (tb_cmp (op_gtT (u64 hr)) (te_ix (te_var (i := 0) rfl (.inl rfl)) te_int) te_int rfl) (tss_cons (ts_set (i := 2) sc_law_draw.nd rfl (.inl rfl) (te_bin op_modT (te_ix (te_var (i := 0) rfl (.inl rfl)) te_int) (te_var (i := 1) rfl (.inl rfl))))
      (tss_cons (ts_asg (vs := []) (te_bin op_fdivT (te_ix (te_var (i := 0) rfl (.inl rfl)) te_int) (te_var (i := 1) rfl (.inl rfl))) (tg_ix (te_var (i := 0) rfl (.inl rfl)) te_int))
      (tss_cons (ts_ret (te_var (i := 2) rfl (.inl rfl)))
      tss_nil))) tss_nil)
      (tss_cons (ts_set (i := 3) sc_law_draw.nd rfl (.inl rfl) (te_ix (te_var (i := 0) rfl (.inl rfl)) te_int))
      (tss_cons (ts_asg (vs := []) (te_bin op_addT (te_var (i := 3) rfl (.inl rfl)) te_int) (tg_ix (te_var (i := 0) rfl (.inl rfl)) te_int))
      (tss_cons (ts_set (i := 4) sc_law_draw.nd rfl (.inl rfl) te_int)
      (tss_cons (ts_if (tb_cmp (op_gtT (u64 hr)) (te_fnB fn_len rfl Z.b_len boot_len (ta_cons (te_ix (te_var (i := 0) rfl (.inl rfl)) te_int) ta_nil)) te_int rfl) (tss_cons (ts_set (i := 4) sc_law_draw.nd rfl (.inl rfl) (te_ix (te_ix (te_var (i := 0) rfl (.inl rfl)) te_int) (te_bin op_modT (te_var (i := 3) rfl (.inl rfl)) (te_fnB fn_len rfl Z.b_len boot_len (ta_cons (te_ix (te_var (i := 0) rfl (.inl rfl)) te_int) ta_nil)))))
      tss_nil) tss_nil)
      (tss_cons (ts_if (TW.toB (tw_and (tb_cmp (op_ltT (u64 hr)) (te_var (i := 3) rfl (.inl rfl)) (te_fnB fn_len rfl Z.b_len boot_len (ta_cons (te_ix (te_var (i := 0) rfl (.inl rfl)) te_int) ta_nil)) rfl) (tw_and1 (tb_cmp (op_geT (u64 hr)) (te_fnB fn_abs rfl Z.b_abs boot_abs (ta_cons (te_var (i := 4) rfl (.inl rfl)) ta_nil)) (te_bin op_powT te_int te_int) rfl)))) (tss_cons (ts_asg (vs := []) (te_bin op_fdivT (te_fnB fn_abs rfl Z.b_abs boot_abs (ta_cons (te_var (i := 4) rfl (.inl rfl)) ta_nil)) (te_var (i := 1) rfl (.inl rfl))) (tg_ix (te_var (i := 0) rfl (.inl rfl)) te_int))
      (tss_cons (ts_ret (te_bin op_modT (te_fnB fn_abs rfl Z.b_abs boot_abs (ta_cons (te_var (i := 4) rfl (.inl rfl)) ta_nil)) (te_var (i := 1) rfl (.inl rfl))))
      tss_nil)) tss_nil)
      (tss_cons (ts_set (i := 5) sc_law_draw.nd rfl (.inl rfl) (te_bin op_modT (te_bin op_mulT2 (te_bin op_addT (te_bin op_addT (te_bin op_modT (te_var (i := 4) rfl (.inl rfl)) te_int) (te_bin op_mulT2 te_int (te_var (i := 3) rfl (.inl rfl)))) te_int) te_int) te_int))
      (tss_cons (ts_set (i := 5) sc_law_draw.nd rfl (.inl rfl) (te_bin op_modT (te_bin op_mulT2 (te_bin op_modT (te_bin op_mulT2 (te_var (i := 5) rfl (.inl rfl)) (te_var (i := 5) rfl (.inl rfl))) te_int) (te_bin op_addT (te_bin op_addT (te_bin op_modT (te_var (i := 5) rfl (.inl rfl)) te_int) (te_bin op_mulT2 te_int (te_var (i := 3) rfl (.inl rfl)))) te_int)) te_int))
      (tss_cons (ts_ret (te_bin op_modT (te_bin op_fdivT (te_var (i := 5) rfl (.inl rfl)) te_int) (te_var (i := 1) rfl (.inl rfl))))
      tss_nil)))))))))
  exact ⟨fd, fn_t F sc_law_draw len_law_draw hb vc_law_draw, Z.g_law_draw, F.kp, F.bindsN fun _ _ _ _ _ _ us hl => match us, hl with | [_, _], _ => rfl⟩
theorem sc_law_drawn_names : FnScope N_law_drawn_names (["_law_pen", "_law_many"] : List Str) (defScope s_law_drawn_names) := ⟨rfl, rfl, rfl, by decide +kernel, rfl, by decide +kernel, by decide +kernel⟩
theorem ok_law_drawn_names (Z : Zx K mg) : Okf P w K mg base 2 "_law_drawn_names" (["_law_pen", "_law_many"] : List Str) sp_law_drawn_names := by
  have O_law_draw : Okf P w K mg base 1 "_law_draw" (["_law_pen", "_law_many"] : List Str) sp_law_draw := ok_law_draw Z
  obtain ⟨fd, F⟩ := Z.f_law_drawn_names
  have hb : ∀ (cdv : Value) (A : Around) (outer : List Env) (s : Shared) (H : Hp) (E : XK), Room 1 (A.deeper (envOfC "_law_drawn_names" (defScope s_law_drawn_names) s.heap.objs.size (He.ga K "_law_drawn_names") cdv)) → TSs (cxOf (L2N.CX P w) P w K mg base N_law_drawn_names "_law_drawn_names" (defScope s_law_drawn_names) (He.ga K "_law_drawn_names") cdv A outer s H E) (defBody s_law_drawn_names) c_law_drawn_names := fun cdv A outer s H E hr =>
    (tss_cons (ts_set (i := 2) sc_law_drawn_names.nd rfl (.inr rfl) te_str)
      (tss_cons (ts_set (i := 3) sc_law_drawn_names.nd rfl (.inl rfl) (te_callO O_law_draw hr (by decide) rfl (ta_cons (te_var (i := 0) rfl (.inr (.inl rfl))) (ta_cons te_int ta_nil))))
      (tss_cons (ts_set (i := 4) sc_law_drawn_names.nd rfl (.inr rfl) (te_bin op_addT te_int (te_callO O_law_draw hr (by decide) rfl (ta_cons (te_var (i := 0) rfl (.inr (.inl rfl))) (ta_cons te_int ta_nil)))))
      (tss_cons (ts_set (i := 5) sc_law_drawn_names.nd rfl (.inr rfl) (te_callO O_law_draw hr (by decide) rfl (ta_cons (te_var (i := 0) rfl (.inr (.inl rfl))) (ta_cons (te_var (i := 4) rfl (.inr (.inl rfl))) ta_nil))))
      (tss_cons (ts_set (i := 6) sc_law_drawn_names.nd rfl (.inl rfl) (te_sm1 PySem.F.slot_str_join PySem.F.type_str_join mt_joinT te_str (te_comp rfl sc_law_drawn_names.nd (ti_range1 rfl Z.b_range (te_var (i := 4) rfl (.inr (.inl rfl)))) (ow := [("_law_k", 9)]) (blkOk_by (by kernel_rfl)) (fun _ _ _ _ _ => (tg_name (i := 9) (by decide) sc_law_drawn_names.nd rfl (.inl rfl))) (fun _ _ _ _ _ => tbs_nil) (fun _ _ _ _ _ => (te_ix (te_var (i := 2) rfl (.inr (.inl rfl))) (te_callO O_law_draw hr (by decide) rfl (ta_cons (te_var (i := 0) rfl (.inr (.inl rfl))) (ta_cons te_int ta_nil))))))))
      (tss_cons (ts_set (i := 7) sc_law_drawn_names.nd rfl (.inl rfl) (te_ix (te_lst (ta_cons te_int (ta_cons te_int (ta_cons te_int (ta_cons te_int ta_nil))))) (te_callO O_law_draw hr (by decide) rfl (ta_cons (te_var (i := 0) rfl (.inr (.inl rfl))) (ta_cons te_int ta_nil)))))
      (tss_cons (ts_set (i := 8) sc_law_drawn_names.nd rfl (.inl rfl) (te_lstM ta_nil))
      (tss_cons (ts_for (vs := [9]) (passes_of rfl) rfl (ti_range1 rfl Z.b_range (te_var (i := 1) rfl (.inl rfl))) (tg_name (i := 9) (by decide) sc_law_drawn_names.nd rfl (.inl rfl)) (tss_cons (ts_set (i := 10) sc_law_drawn_names.nd rfl (.inl rfl) (te_ix (te_var (i := 2) rfl (.inr (.inl rfl))) (te_bin op_modT (te_bin op_addT (te_var (i := 3) rfl (.inl rfl)) (te_bin op_mulT2 (te_var (i := 7) rfl (.inl rfl)) (te_var (i := 9) rfl (.inl rfl)))) te_int)))
      (tss_cons (ts_do (te_app (te_var (i := 8) rfl (.inl rfl)) (te_bin op_addT (te_bin op_addT (te_slice (te_var (i := 6) rfl (.inl rfl)) to_no (to_some (te_var (i := 5) rfl (.inr (.inl rfl))))) (te_var (i := 10) rfl (.inl rfl))) (te_slice (te_var (i := 6) rfl (.inl rfl)) (to_some (te_bin op_addT (te_var (i := 5) rfl (.inr (.inl rfl))) te_int)) to_no))))
      tss_nil)))
      (tss_drop (tss_cons (ts_if (TW.toB (tw_and (tb_cmp (op_gtT (u64 hr)) (te_var (i := 4) rfl (.inr (.inl rfl))) te_int rfl) (tw_and1 (tb_cmp (op_eqT (u64 hr)) (te_callO O_law_draw hr (by decide) rfl (ta_cons (te_var (i := 0) rfl (.inr (.inl rfl))) (ta_cons te_int ta_nil))) te_int rfl)))) (tss_cons (ts_setComp (i := 8) rfl sc_law_drawn_names.nd rfl rfl rfl (ti_enum rfl Z.b_enumerate (te_var (i := 8) rfl (.inl rfl))) (ow := [("_law_k", 9), ("_law_name", 11)]) (blkOk_by (by kernel_rfl)) (fun _ _ _ _ _ => (tg_tup rfl (n := 2) (tgs_cons (tg_name (i := 9) (by decide) sc_law_drawn_names.nd rfl (.inl rfl)) (tgs_cons (tg_name (i := 11) (by decide) sc_law_drawn_names.nd rfl (.inl rfl)) tgs_nil)) rfl rfl (takes_c (takes_c takes_z)))) (fun _ _ _ _ _ => tbs_nil) (fun _ _ _ _ _ => (te_slice (te_var (i := 11) rfl (.inl rfl)) to_no (to_some (te_fnB (fn_max2 rfl) rfl Z.b_max boot_max (ta_cons (te_bin op_addT (te_var (i := 5) rfl (.inr (.inl rfl))) te_int) (ta_cons (te_bin op_subT (te_var (i := 4) rfl (.inr (.inl rfl))) (te_bin op_modT (te_var (i := 9) rfl (.inl rfl)) te_int)) ta_nil)))))))
      tss_nil) tss_nil)
      (tss_cons (ts_ret (te_var (i := 8) rfl (.inl rfl)))
      tss_nil)))))))))))
  exact ⟨fd, fn_t F sc_law_drawn_names len_law_drawn_names hb vc_law_drawn_names, Z.g_law_drawn_names, F.kp, F.bindsN fun _ _ _ _ _ _ us hl => match us, hl with | [_, _], _ => rfl⟩
theorem sc_law_two_couples : FnScope N_law_two_couples (["_law_names"] : List Str) (defScope s_law_two_couples) := ⟨rfl, rfl, rfl, by decide +kernel, rfl, by decide +kernel, by decide +kernel⟩
theorem ok_law_two_couples (Z : Zx K mg) : Okf P w K mg base 1 "_law_two_couples" (["_law_names"] : List Str) sp_law_two_couples := by
  obtain ⟨fd, F⟩ := Z.f_law_two_couples
  have hb : ∀ (cdv : Value) (A : Around) (outer : List Env) (s : Shared) (H : Hp) (E : XK), Room 0 (A.deeper (envOfC "_law_two_couples" (defScope s_law_two_couples) s.heap.objs.size (He.ga K "_law_two_couples") cdv)) → TSs (cxOf (L2N.CX P w) P w K mg base N_law_two_couples "_law_two_couples" (defScope s_law_two_couples) (He.ga K "_law_two_couples") cdv A outer s H E) (defBody s_law_two_couples) c_law_two_couples := fun cdv A outer s H E hr =>
    (tss_cons (ts_set (i := 1) sc_law_two_couples.nd rfl (.inl rfl) (te_lst (ta_cons (te_fnT fn_tuple rfl Z.b_tuple boot_tuple (ta_cons (te_fnB (fn_sorted (u70 hr)) rfl Z.b_sorted boot_sorted (ta_cons (te_slice (te_var (i := 0) rfl (.inl rfl)) to_no (to_some te_int)) ta_nil)) ta_nil)) (ta_cons (te_fnT fn_tuple rfl Z.b_tuple boot_tuple (ta_cons (te_fnB (fn_sorted (u70 hr)) rfl Z.b_sorted boot_sorted (ta_cons (te_slice (te_var (i := 0) rfl (.inl rfl)) (to_some te_int) (to_some te_int)) ta_nil)) ta_nil)) ta_nil))))
      (tss_cons (ts_set (i := 2) sc_law_two_couples.nd rfl (.inl rfl) (te_fnT fn_tuple rfl Z.b_tuple boot_tuple (ta_cons (te_fnB (fn_sorted (u70 hr)) rfl Z.b_sorted boot_sorted (ta_cons (te_comp rfl sc_law_two_couples.nd (ti_seq (te_slice (te_var (i := 0) rfl (.inl rfl)) to_no (to_some te_int))) (ow := [("_law_name", 4)]) (blkOk_by (by kernel_rfl)) (fun _ _ _ _ _ => (tg_name (i := 4) (by decide) sc_law_two_couples.nd rfl (.inl rfl))) (fun _ _ _ _ _ => tbs_nil) (fun _ _ _ _ _ => (te_tup (ta_cons (te_var (i := 4) rfl (.inl rfl)) (ta_cons te_str ta_nil))))) ta_nil)) ta_nil)))
      (tss_cons (ts_set (i := 3) sc_law_two_couples.nd rfl (.inl rfl) (te_fnT fn_tuple rfl Z.b_tuple boot_tuple (ta_cons (te_fnB (fn_sorted (u70 hr)) rfl Z.b_sorted boot_sorted (ta_cons (te_lst (ta_cons (te_tup (ta_cons (te_ix (te_var (i := 0) rfl (.inl rfl)) te_int) (ta_cons (te_ix (te_var (i := 1) rfl (.inl rfl)) te_int) ta_nil))) (ta_cons (te_tup (ta_cons (te_ix (te_var (i := 0) rfl (.inl rfl)) te_int) (ta_cons (te_ix (te_var (i := 1) rfl (.inl rfl)) te_int) ta_nil))) ta_nil))) ta_nil)) ta_nil)))
      (tss_cons (ts_ret (te_tup (ta_cons (te_tup (ta_cons (te_var (i := 2) rfl (.inl rfl)) (ta_cons (te_fnT fn_tuple rfl Z.b_tuple boot_tuple (ta_cons (te_fnB (fn_sorted (u70 hr)) rfl Z.b_sorted boot_sorted (ta_cons (te_var (i := 1) rfl (.inl rfl)) ta_nil)) ta_nil)) (ta_cons (te_var (i := 3) rfl (.inl rfl)) (ta_cons (te_tup ta_nil) ta_nil))))) (ta_cons (te_var (i := 1) rfl (.inl rfl)) ta_nil))))
      tss_nil))))
  exact ⟨fd, fn_t F sc_law_two_couples len_law_two_couples hb vc_law_two_couples, Z.g_law_two_couples, F.kp, F.bindsN fun _ _ _ _ _ _ us hl => match us, hl with | [_], _ => rfl⟩
theorem sc_law_uncle_and_niece : FnScope N_law_uncle_and_niece (["_law_names"] : List Str) (defScope s_law_uncle_and_niece) := ⟨rfl, rfl, rfl, by decide +kernel, rfl, by decide +kernel, by decide +kernel⟩
theorem ok_law_uncle_and_niece (Z : Zx K mg) : Okf P w K mg base 1 "_law_uncle_and_niece" (["_law_names"] : List Str) sp_law_uncle_and_niece := by
  obtain ⟨fd, F⟩ := Z.f_law_uncle_and_niece
  have hb : ∀ (cdv : Value) (A : Around) (outer : List Env) (s : Shared) (H : Hp) (E : XK), Room 0 (A.deeper (envOfC "_law_uncle_and_niece" (defScope s_law_uncle_and_niece) s.heap.objs.size (He.ga K "_law_uncle_and_niece") cdv)) → TSs (cxOf (L2N.CX P w) P w K mg base N_law_uncle_and_niece "_law_uncle_and_niece" (defScope s_law_uncle_and_niece) (He.ga K "_law_uncle_and_niece") cdv A outer s H E) (defBody s_law_uncle_and_niece) c_law_uncle_and_niece := fun cdv A outer s H E hr =>
    (tss_cons (ts_set (i := 1) sc_law_uncle_and_niece.nd rfl (.inl rfl) (te_fnT fn_tuple rfl Z.b_tuple boot_tuple (ta_cons (te_fnB (fn_sorted (u70 hr)) rfl Z.b_sorted boot_sorted (ta_cons (te_comp rfl sc_law_uncle_and_niece.nd (ti_seq (te_slice (te_var (i := 0) rfl (.inl rfl)) to_no (to_some te_int))) (ow := [("_law_name", 5)]) (blkOk_by (by kernel_rfl)) (fun _ _ _ _ _ => (tg_name (i := 5) (by decide) sc_law_uncle_and_niece.nd rfl (.inl rfl))) (fun _ _ _ _ _ => tbs_nil) (fun _ _ _ _ _ => (te_tup (ta_cons (te_var (i := 5) rfl (.inl rfl)) (ta_cons te_str ta_nil))))) ta_nil)) ta_nil)))
      (tss_cons (ts_set (i := 2) sc_law_uncle_and_niece.nd rfl (.inl rfl) (te_fnT fn_tuple rfl Z.b_tuple boot_tuple (ta_cons (te_fnB (fn_sorted (u70 hr)) rfl Z.b_sorted boot_sorted (ta_cons (te_slice (te_var (i := 0) rfl (.inl rfl)) (to_some te_int) (to_some te_int)) ta_nil)) ta_nil)))
      (tss_cons (ts_set (i := 3) sc_law_uncle_and_niece.nd rfl (.inl rfl) (te_fnT fn_tuple rfl Z.b_tuple boot_tuple (ta_cons (te_fnB (fn_sorted (u70 hr)) rfl Z.b_sorted boot_sorted (ta_cons (te_lst (ta_cons (te_tup (ta_cons (te_ix (te_var (i := 0) rfl (.inl rfl)) te_int) ta_nil)) (ta_cons (te_tup (ta_cons (te_ix (te_var (i := 0) rfl (.inl rfl)) te_int) ta_nil)) (ta_cons (te_var (i := 2) rfl (.inl rfl)) ta_nil)))) ta_nil)) ta_nil)))
      (tss_cons (ts_set (i := 4) sc_law_uncle_and_niece.nd rfl (.inl rfl) (te_fnT fn_tuple rfl Z.b_tuple boot_tuple (ta_cons (te_fnB (fn_sorted (u70 hr)) rfl Z.b_sorted boot_sorted (ta_cons (te_lst (ta_cons (te_tup (ta_cons (te_ix (te_var (i := 0) rfl (.inl rfl)) te_int) (ta_cons (te_tup (ta_cons (te_ix (te_var (i := 0) rfl (.inl rfl)) te_int) ta_nil)) ta_nil))) (ta_cons (te_tup (ta_cons (te_ix (te_var (i := 0) rfl (.inl rfl)) te_int) (ta_cons (te_tup (ta_cons (te_ix (te_var (i := 0) rfl (.inl rfl)) te_int) ta_nil)) ta_nil))) (ta_cons (te_tup (ta_cons (te_ix (te_var (i := 0) rfl (.inl rfl)) te_int) (ta_cons (te_tup (ta_cons (te_ix (te_var (i := 0) rfl (.inl rfl)) te_int) ta_nil)) ta_nil))) ta_nil)))) ta_nil)) ta_nil)))
      (tss_cons (ts_ret (te_tup (ta_cons (te_tup (ta_cons (te_var (i := 1) rfl (.inl rfl)) (ta_cons (te_var (i := 3) rfl (.inl rfl)) (ta_cons (te_var (i := 4) rfl (.inl rfl)) (ta_cons (te_tup ta_nil) ta_nil))))) (ta_cons (te_tup (ta_cons (te_tup (ta_cons (te_tup (ta_cons (te_ix (te_var (i := 0) rfl (.inl rfl)) te_int) ta_nil)) ta_nil)) (ta_cons (te_tup (ta_cons (te_tup (ta_cons (te_ix (te_var (i := 0) rfl (.inl rfl)) te_int) ta_nil)) ta_nil)) (ta_cons (te_tup (ta_cons (te_var (i := 2) rfl (.inl rfl)) ta_nil)) ta_nil)))) ta_nil))))
      tss_nil)))))
  exact ⟨fd, fn_t F sc_law_uncle_and_niece len_law_uncle_and_niece hb vc_law_uncle_and_niece, Z.g_law_uncle_and_niece, F.kp, F.bindsN fun _ _ _ _ _ _ us hl => match us, hl with | [_], _ => rfl⟩
theorem sc_the_law : FnScope N_the_law (["_law_script"] : List Str) (defScope s_the_law) := ⟨rfl, rfl, rfl, by decide +kernel, rfl, by decide +kernel, by decide +kernel⟩
theorem ok_the_law (Z : Zx K mg) : ∃ fd : FuncData, (∀ (s : Shared) (u : Value), BindsTo s fd ⟨[u], []⟩ [("_law_script", u)]) ∧ ∀ base : Heap, FnOk P w K mg base (L2N.CX P w) 9 (He.ga K "law") fd (["_law_script"] : List Str) (liftSp P K w sp_the_law) := by
  obtain ⟨fd, F⟩ := Z.f_the_law
  refine ⟨fd, law_def F fun _ _ _ _ _ _ us hl => match us, hl with | [_], _ => rfl, fun base => ?_⟩
  have O_law_pen_of : Okf P w K mg base 1 "_law_pen_of" (["_law_script"] : List Str) sp_law_pen_of := ok_law_pen_of Z
  have O_law_drawn_names : Okf P w K mg base 2 "_law_drawn_names" (["_law_pen", "_law_many"] : List Str) sp_law_drawn_names := ok_law_drawn_names Z
  have O_law_two_couples : Okf P w K mg base 1 "_law_two_couples" (["_law_names"] : List Str) sp_law_two_couples := ok_law_two_couples Z
  have O_crossings : Okf P w K mg base 8 "crossings" (["book", "drawing"] : List Str) sp_crossings := ok_crossings Z
  have O_looked_drawing : Okf P w K mg base 7 "looked_drawing" (["book", "thing"] : List Str) sp_looked_drawing := ok_looked_drawing Z
  have O_law_uncle_and_niece : Okf P w K mg base 1 "_law_uncle_and_niece" (["_law_names"] : List Str) sp_law_uncle_and_niece := ok_law_uncle_and_niece Z
  have hb : ∀ (cdv : Value) (A : Around) (outer : List Env) (s : Shared) (H : Hp) (E : XK), Room 8 (A.deeper (envOfC "law" (defScope s_the_law) s.heap.objs.size (He.ga K "law") cdv)) → TSs (cxOf (L2N.CX P w) P w K mg base N_the_law "law" (defScope s_the_law) (He.ga K "law") cdv A outer s H E) (defBody s_the_law) c_the_law := fun cdv A outer s H E hr =>
    (tss_cons (ts_set (i := 1) sc_the_law.nd rfl (.inl rfl) (te_callO O_law_pen_of hr (by decide) rfl (ta_cons (te_var (i := 0) rfl (.inl rfl)) ta_nil)))
      (tss_cons (ts_set (i := 2) sc_the_law.nd rfl (.inr rfl) (te_callO O_law_drawn_names hr (by decide) rfl (ta_cons (te_var (i := 1) rfl (.inl rfl)) (ta_cons te_int ta_nil))))
      (tss_cons (ts_asg (vs := [3, 4]) (te_callO O_law_two_couples hr (by decide) rfl (ta_cons (te_var (i := 2) rfl (.inr (.inl rfl))) ta_nil)) (tg_tup rfl (n := 2) (tgs_cons (tg_name (i := 3) (by decide) sc_the_law.nd rfl (.inl rfl)) (tgs_cons (tg_name (i := 4) (by decide) sc_the_law.nd rfl (.inl rfl)) tgs_nil)) rfl rfl (takes_c (takes_c takes_z))))
      (tss_cons (ts_set (i := 5) sc_the_law.nd rfl (.inl rfl) (te_lst (ta_cons (te_tup (ta_cons te_str (ta_cons te_int (ta_cons te_int ta_nil)))) (ta_cons (te_tup (ta_cons te_str (ta_cons te_int (ta_cons te_int ta_nil)))) (ta_cons (te_tup (ta_cons te_str (ta_cons te_int (ta_cons te_int ta_nil)))) ta_nil)))))
      (tss_cons (ts_set (i := 5) sc_the_law.nd rfl (.inl rfl) (te_bin op_addT (te_var (i := 5) rfl (.inl rfl)) (te_lst (ta_cons (te_tup (ta_cons te_str (ta_cons te_int (ta_cons te_int ta_nil)))) (ta_cons (te_tup (ta_cons te_str (ta_cons te_int (ta_cons te_int ta_nil)))) (ta_cons (te_tup (ta_cons te_str (ta_cons te_int (ta_cons te_int ta_nil)))) ta_nil))))))
      (tss_cons (ts_for (vs := [6, 7, 8]) (passes_of rfl) rfl (ti_seq (te_var (i := 5) rfl (.inl rfl))) (tg_tup rfl (n := 3) (tgs_cons (tg_name (i := 6) (by decide) sc_the_law.nd rfl (.inl rfl)) (tgs_cons (tg_name (i := 7) (by decide) sc_the_law.nd rfl (.inl rfl)) (tgs_cons (tg_name (i := 8) (by decide) sc_the_law.nd rfl (.inl rfl)) tgs_nil))) rfl rfl (takes_c (takes_c (takes_c takes_z)))) (tss_cons (ts_set (i := 9) sc_the_law.nd rfl (.inl rfl) (te_ix (te_lst (ta_cons (te_var (i := 4) rfl (.inl rfl)) (ta_cons (te_step (te_var (i := 4) rfl (.inl rfl)) (te_un op_negT te_int)) ta_nil))) (te_var (i := 7) rfl (.inl rfl))))
      (tss_cons (ts_set (i := 10) sc_the_law.nd rfl (.inl rfl) (te_tup (ta_cons (te_fnT fn_tuple rfl Z.b_tuple boot_tuple (ta_cons (te_comp rfl sc_the_law.nd (ti_seq (te_var (i := 6) rfl (.inl rfl))) (ow := [("_law_sign", 11)]) (blkOk_by (by kernel_rfl)) (fun _ _ _ _ _ => (tg_name (i := 11) (by decide) sc_the_law.nd rfl (.inl rfl))) (fun _ _ _ _ _ => tbs_nil) (fun _ _ _ _ _ => (te_ix (te_var (i := 2) rfl (.inr (.inl rfl))) (te_fnT fn_itx rfl Z.b_int boot_int (ta_cons (te_var (i := 11) rfl (.inl rfl)) ta_nil))))) ta_nil)) (ta_cons (te_tup (ta_cons (te_fnT fn_tuple rfl Z.b_tuple boot_tuple (ta_cons (te_var (i := 9) rfl (.inl rfl)) ta_nil)) (ta_cons (te_tup ta_nil) ta_nil))) ta_nil))))
      (tss_cons (ts_if (TW.toB (tw_or (tb_cmp op_isnbT (te_callO O_looked_drawing hr (by decide) rfl (ta_cons (te_var (i := 3) rfl (.inl rfl)) (ta_cons (te_var (i := 10) rfl (.inl rfl)) ta_nil))) te_bl rfl) (tw_or1 (tb_cmp (op_neT (u64 hr)) (te_callO O_crossings hr (by decide) rfl (ta_cons (te_var (i := 3) rfl (.inl rfl)) (ta_cons (te_var (i := 10) rfl (.inl rfl)) ta_nil))) (te_var (i := 8) rfl (.inl rfl)) rfl)))) (tss_cons (ts_ret te_bl)
      tss_nil) tss_nil)
      tss_nil))))
      (tss_cons (ts_asg (vs := [3, 9]) (te_callO O_law_uncle_and_niece hr (by decide) rfl (ta_cons (te_var (i := 2) rfl (.inr (.inl rfl))) ta_nil)) (tg_tup rfl (n := 2) (tgs_cons (tg_name (i := 3) (by decide) sc_the_law.nd rfl (.inl rfl)) (tgs_cons (tg_name (i := 9) (by decide) sc_the_law.nd rfl (.inl rfl)) tgs_nil)) rfl rfl (takes_c (takes_c takes_z))))
      (tss_cons (ts_for (vs := [6, 8]) (passes_of rfl) rfl (ti_seq (te_lst (ta_cons (te_tup (ta_cons te_str (ta_cons te_int ta_nil))) (ta_cons (te_tup (ta_cons te_str (ta_cons te_int ta_nil))) (ta_cons (te_tup (ta_cons te_str (ta_cons te_int ta_nil))) (ta_cons (te_tup (ta_cons te_str (ta_cons te_int ta_nil))) (ta_cons (te_tup (ta_cons te_str (ta_cons te_int ta_nil))) (ta_cons (te_tup (ta_cons te_str (ta_cons te_int ta_nil))) (ta_cons (te_tup (ta_cons te_str (ta_cons te_int ta_nil))) ta_nil))))))))) (tg_tup rfl (n := 2) (tgs_cons (tg_name (i := 6) (by decide) sc_the_law.nd rfl (.inl rfl)) (tgs_cons (tg_name (i := 8) (by decide) sc_the_law.nd rfl (.inl rfl)) tgs_nil)) rfl rfl (takes_c (takes_c takes_z))) (tss_cons (ts_set (i := 10) sc_the_law.nd rfl (.inl rfl) (te_tup (ta_cons (te_fnT fn_tuple rfl Z.b_tuple boot_tuple (ta_cons (te_comp rfl sc_the_law.nd (ti_seq (te_var (i := 6) rfl (.inl rfl))) (ow := [("_law_sign", 11)]) (blkOk_by (by kernel_rfl)) (fun _ _ _ _ _ => (tg_name (i := 11) (by decide) sc_the_law.nd rfl (.inl rfl))) (fun _ _ _ _ _ => tbs_nil) (fun _ _ _ _ _ => (te_ix (te_var (i := 2) rfl (.inr (.inl rfl))) (te_fnT fn_itx rfl Z.b_int boot_int (ta_cons (te_var (i := 11) rfl (.inl rfl)) ta_nil))))) ta_nil)) (ta_cons (te_var (i := 9) rfl (.inl rfl)) ta_nil))))
      (tss_cons (ts_if (TW.toB (tw_or (tb_cmp op_isnbT (te_callO O_looked_drawing hr (by decide) rfl (ta_cons (te_var (i := 3) rfl (.inl rfl)) (ta_cons (te_var (i := 10) rfl (.inl rfl)) ta_nil))) te_bl rfl) (tw_or1 (tb_cmp (op_neT (u64 hr)) (te_callO O_crossings hr (by decide) rfl (ta_cons (te_var (i := 3) rfl (.inl rfl)) (ta_cons (te_var (i := 10) rfl (.inl rfl)) ta_nil))) (te_var (i := 8) rfl (.inl rfl)) rfl)))) (tss_cons (ts_ret te_bl)
      tss_nil) tss_nil)
      tss_nil)))
      (tss_cons (ts_ret te_bl)
      tss_nil)))))))))
  exact fn_t F sc_the_law (fun ts S Q E h => by obtain ⟨_, rfl, _⟩ := h; rfl) hb vc_the_law
end
end K45
namespace K45
open PySem PySem.Spec PyProof.Rows TL
open L2 hiding putF
theorem zx {w : World} {K : PySem.W.Frag} {h : Heap} {mg : Str → Option Value} (X : K.In h) (H : h.Ns mainGlobals mg) (c : SaysZ fa fn tbs ex w K) : Zx K mg where
  b_abs := He.free_ok X H (c.t.d.fact 0 (f := .free "abs") rfl)
  b_all := He.free_ok X H (c.t.d.fact 1 (f := .free "all") rfl)
  b_dict := He.free_ok X H (c.t.d.fact 2 (f := .free "dict") rfl)
  b_enumerate := He.free_ok X H (c.t.d.fact 3 (f := .free "enumerate") rfl)
  b_int := He.free_ok X H (c.t.d.fact 4 (f := .free "int") rfl)
  b_isinstance := He.free_ok X H (c.t.d.fact 5 (f := .free "isinstance") rfl)
  b_len := He.free_ok X H (c.t.d.fact 6 (f := .free "len") rfl)
  b_list := He.free_ok X H (c.t.d.fact 7 (f := .free "list") rfl)
  b_max := He.free_ok X H (c.t.d.fact 8 (f := .free "max") rfl)
  b_min := He.free_ok X H (c.t.d.fact 9 (f := .free "min") rfl)
  b_range := He.free_ok X H (c.t.d.fact 10 (f := .free "range") rfl)
  b_sorted := He.free_ok X H (c.t.d.fact 11 (f := .free "sorted") rfl)
  b_tuple := He.free_ok X H (c.t.d.fact 12 (f := .free "tuple") rfl)
  b_zip := He.free_ok X H (c.t.d.fact 13 (f := .free "zip") rfl)
  f_names_of := c.t.d.def_ 0 (d := h_names_of) rfl
  g_names_of := He.glo_ok X H (c.t.d.fact 14 (f := .glo "names_of") rfl)
  f_steps_from := c.t.d.def_ 1 (d := h_steps_from) rfl
  g_steps_from := He.glo_ok X H (c.t.d.fact 15 (f := .glo "steps_from") rfl)
  f_steps_between := c.t.d.def_ 2 (d := h_steps_between) rfl
  g_steps_between := He.glo_ok X H (c.t.d.fact 16 (f := .glo "steps_between") rfl)
  f_closed_steps := c.t.d.def_ 3 (d := h_closed_steps) rfl
  g_closed_steps := He.glo_ok X H (c.t.d.fact 17 (f := .glo "closed_steps") rfl)
  f_lowered := c.t.d.def_ 4 (d := h_lowered) rfl
  g_lowered := He.glo_ok X H (c.t.d.fact 18 (f := .glo "lowered") rfl)
  f_rows_of := c.t.d.def_ 5 (d := h_rows_of) rfl
  g_rows_of := He.glo_ok X H (c.t.d.fact 19 (f := .glo "rows_of") rfl)
  f_row_by_name := c.t.d.def_ 6 (d := h_row_by_name) rfl
  g_row_by_name := He.glo_ok X H (c.t.d.fact 20 (f := .glo "row_by_name") rfl)
  f_unions_by_rows := c.t.d.def_ 7 (d := h_unions_by_rows) rfl
  g_unions_by_rows := He.glo_ok X H (c.t.d.fact 21 (f := .glo "unions_by_rows") rfl)
  f_are_just := c.t.d.def_ 8 (d := h_are_just) rfl
  g_are_just := He.glo_ok X H (c.t.d.fact 22 (f := .glo "are_just") rfl)
  f_looked_drawing := c.t.d.def_ 9 (d := h_looked_drawing) rfl
  g_looked_drawing := He.glo_ok X H (c.t.d.fact 23 (f := .glo "looked_drawing") rfl)
  f_heights_of := c.t.d.def_ 10 (d := h_heights_of) rfl
  g_heights_of := He.glo_ok X H (c.t.d.fact 24 (f := .glo "heights_of") rfl)
  f_Kin_bar := c.t.d.def_ 11 (d := h_Kin_bar) rfl
  f_Kin_span := c.t.d.def_ 12 (d := h_Kin_span) rfl
  f_Kin_crossed := c.t.d.def_ 13 (d := h_Kin_crossed) rfl
  f_Kin___init__ := c.t.d.def_ 14 (d := h_Kin___init__) rfl
  f_crossings := c.t.d.def_ 15 (d := h_crossings) rfl
  g_crossings := He.glo_ok X H (c.t.d.fact 25 (f := .glo "crossings") rfl)
  f_law_pen_of := c.t.d.def_ 16 (d := h_law_pen_of) rfl
  g_law_pen_of := He.glo_ok X H (c.t.d.fact 26 (f := .glo "_law_pen_of") rfl)
  f_law_draw := c.t.d.def_ 17 (d := h_law_draw) rfl
  g_law_draw := He.glo_ok X H (c.t.d.fact 27 (f := .glo "_law_draw") rfl)
  f_law_drawn_names := c.t.d.def_ 18 (d := h_law_drawn_names) rfl
  g_law_drawn_names := He.glo_ok X H (c.t.d.fact 28 (f := .glo "_law_drawn_names") rfl)
  f_law_two_couples := c.t.d.def_ 19 (d := h_law_two_couples) rfl
  g_law_two_couples := He.glo_ok X H (c.t.d.fact 29 (f := .glo "_law_two_couples") rfl)
  f_law_uncle_and_niece := c.t.d.def_ 20 (d := h_law_uncle_and_niece) rfl
  g_law_uncle_and_niece := He.glo_ok X H (c.t.d.fact 30 (f := .glo "_law_uncle_and_niece") rfl)
  f_the_law := c.t.d.def_ 21 (d := h_the_law) rfl
  g_the_law := He.glo_ok X H (c.t.d.fact 31 (f := .glo "law") rfl)
  c_Kin := He.cls_ok (c.t.d.fact 32 (f := .cls "Kin") rfl)
  na_Kin_book := He.noat_ok (c.t.d.fact 33 (f := .noat "Kin" "book") rfl)
  na_Kin_rows := He.noat_ok (c.t.d.fact 34 (f := .noat "Kin" "rows") rfl)
  na_Kin_folk := He.noat_ok (c.t.d.fact 35 (f := .noat "Kin" "folk") rfl)
  na_Kin_child_in := He.noat_ok (c.t.d.fact 36 (f := .noat "Kin" "child_in") rfl)
  na_Kin_parent_in := He.noat_ok (c.t.d.fact 37 (f := .noat "Kin" "parent_in") rfl)
  mk_Kin := He.mkr_ok (c.t.d.fact 38 (f := .mkr "Kin") rfl)
  gm_Kin := He.glo_ok X H (c.t.d.fact 39 (f := .glo "Kin") rfl)
  me_Kin_bar := He.meth_ok (c.t.d.fact 40 (f := .meth "Kin" "bar") rfl)
  me_Kin_span := He.meth_ok (c.t.d.fact 41 (f := .meth "Kin" "span") rfl)
  me_Kin_crossed := He.meth_ok (c.t.d.fact 42 (f := .meth "Kin" "crossed") rfl)
  ke := keB_ok (all_at c.more 0)
  gm_KinError := He.glo_ok X H (c.t.d.fact 43 (f := .glo "KinError") rfl)
  gm_NoRows := He.glo_ok X H (c.t.d.fact 44 (f := .glo "NoRows") rfl)
  gm_NoDrawing := He.glo_ok X H (c.t.d.fact 45 (f := .glo "NoDrawing") rfl)
  x_NoRows := xcB_ok (all_at c.more 1)
  xi_NoRows := xinB_ok (all_at c.more 2)
  fi_NoRows := c.t.d.def_ 22 (d := hi_NoRows) rfl
  x_NoDrawing := xcB_ok (all_at c.more 3)
  xi_NoDrawing := xinB_ok (all_at c.more 4)
  fi_NoDrawing := c.t.d.def_ 23 (d := hi_NoDrawing) rfl
end K45
open PySem PySem.W PySem.Calls PyProof.Rows
theorem PySem.Challenge.cw_kinlines_k45_crossings_by_hand_holds : PySem.Challenge.rw_kinlines_k45_crossings_by_hand.Holds := by
  w_on; o_law
  refine HandSHeadRun.head_any (r := OpenLaw.row PySem.Challenge.rw_kinlines_k45_crossings_by_hand) (q := view (OpenLaw.row PySem.Challenge.rw_kinlines_k45_crossings_by_hand).prog [26]) (H := K45.hk) (ob := K45.ob) (M := 6000) (loose := K45.loose) (d := HandSHeadRun.topDef (OpenLaw.row PySem.Challenge.rw_kinlines_k45_crossings_by_hand).prog 26) (kwd := []) K45.ob_eq
    (by kernel_rfl) (fun s => by kernel_rfl) K45.run (by kernel_rfl) (by kernel_rfl) (by kernel_rfl) (by rfl) (by first | assumption | decide +kernel) (by decide +kernel) ⟨rfl, rfl, rfl, rfl, rfl, by decide +kernel⟩ ?hw ?hc
  case hw => w_witness2
  case hc =>
    refine TL.walk_tl (l := PySem.Challenge.rw_kinlines_k45_crossings_by_hand) (k := 9) (x := "_law_script") (y := "law") (sp := K45.sp_the_law) rfl (by kernel_rfl) ⟨rfl, by decide, by decide⟩ (by kernel_rfl) TL.law1_sp ?_
    intro w mg h Y G
    obtain ⟨K, KX, c⟩ := Y
    have Z := K45.zx KX G c
    obtain ⟨fd, hb, hF⟩ := K45.ok_the_law (P := (PySem.Challenge.rw_kinlines_k45_crossings_by_hand).prog) (w := w) Z
    exact ⟨K, KX, Z.g_the_law, fd, hb, fun base _ _ => hF base⟩
