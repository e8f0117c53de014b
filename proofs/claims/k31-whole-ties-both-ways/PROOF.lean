import PyProof.Rows.All
import Wide.All
import OpenK.AllK
import Wide.FinOn
import KE.KStateDown
import HandS.Base
import HandS.Call
import HandS.More
import HandS.ExcInit
import HandS.Head0
import HandS.Head1
import HandS.Head2
import HandS.HeadEnd
import HandS.HeadHook1
import HandS.HeadHook2
import HandS.HeadHook3
import HandS.HeadHook4
import PySem.Challenge.RW_kinlines_k31_whole_ties_both_ways
import Lean
import HandS.Ends
import HandS.Words
import HandS.WordsExc
import HandS.Defaults
import HandS.ForMost
import HandS.ForExc
import HandS.CallSlots
import HandS.TryMany
import HandS.TupAny
import KE.KDictKeyed
import KE.KDictPairs
import HandS.ExcInitHot
import HandS.CallLocal
import HandS.Lambda
import HandS.Nested
import KE.KExcIs
import HandS.Style
import HandS.Deep
import HandS.Wide
import KE.DataCmp
import KE.SortData
import HandS.Conv
import HandS.IsInst
import HandS.Text
import KE.DataMinMax
import KE.SortCalls
import HandS.Strs
import HandS.Replace
import KE.KIntText
import HandS.TupSets
import HandS.Dict
import HandS.SetFor
import KE.KSortTupAny
import KE.GoesZip
import KE.GoesMore
import KE.GoesEnum
import HandS.HotCalls
import KE.KRevSl
import HandS.FStrTup
import HandS.ListItems
import PyProof.NeKinds
import KE.KDictSum
import HandS.Iter
import HandS.ReplaceList
import HandS.ReplaceLit
import HandS.DictEq
import HandS.DeepEq
import HandS.ExcValue
import KE.IntTextLaws
import HandS.StrMore
set_option Elab.async false
set_option linter.all false
set_option maxRecDepth 100000
set_option maxHeartbeats 4000000
namespace TL
open PySem PySem.Spec PyProof.Rows L2
structure SaysZ (fa : List He.Fa) (fn : List He.DefD) (ts : List He.Tab) (ex : PySem.W.Frag → Bool) (w : World) (K : PySem.W.Frag) : Prop where
  t : He.SaysT fa fn ts w K
  more : ex K = true
/-- a method of a class of the module -/
def clsMeth (s : Stmt) (j : Nat) : Stmt := match s with
  | .ClassDef _ _ _ b _ _ _ _ _ _ _ => b.getD j (.Pass ⟨0, 0, 0, 0⟩)
  | _ => .Pass ⟨0, 0, 0, 0⟩
def refsW (o : Obj) : List Addr := match o.data with
  | .seq its _ => its.toList.flatMap He.refV
  | .dict es _ => es.toList.flatMap fun e => He.refV e.val
  | .func fd => He.refV fd.code
  | .cls cd => [cd.ns]
  | _ => []
def growW (g : Addr → Option Obj) (as : List Addr) : List Addr := as.flatMap fun a => match g a with
  | some o => refsW o
  | none => []
def levW (g : Addr → Option Obj) : Nat → List Addr → List Addr
  | 0, as => as
  | n + 1, as => as ++ levW g n (growW g as)
def asW (g : Addr → Option Obj) (n : Nat) : List Addr := (levW g n [mainGlobals]) ++ [cStatics]
def obsW (n : Nat) (fa : List He.Fa) (fn : List He.DefD) (ts : List He.Tab) (ex : PySem.W.Frag → Bool) (g : Addr → Option Obj) : He.AlX := (He.obsT fa fn ts (He.frT g (asW g n)), ex (He.frT g (asW g n)))
def hookW (n : Nat) (fa : List He.Fa) (fn : List He.DefD) (ts : List He.Tab) (ex : PySem.W.Frag → Bool) : PySem.W.Hook where
  α := He.AlX
  obs := fun s => obsW n fa fn ts ex s.heap.get?
  val := fun w => He.valX fn ts w
  says := fun w h => ∃ K : PySem.W.Frag, K.In h ∧ SaysZ fa fn ts ex w K
  of := fun _ _ e => ⟨_, He.frT_in, ⟨congrArg (fun z : He.AlX => z.1) e, congrArg (fun z : He.AlX => z.2) e⟩⟩
  keeps := fun _ _ _ ⟨K, hK, c⟩ k => ⟨K, PySem.W.Frag.In.keeps hK k, c⟩
theorem obsW_eq {n : Nat} {fa : List He.Fa} {fn : List He.DefD} {ts : List He.Tab} {ex : PySem.W.Frag → Bool} {g : Addr → Option Obj} {s : Shared} (h : ∀ a, g a = s.heap.get? a) : obsW n fa fn ts ex g = (hookW n fa fn ts ex).obs s := by
  have e : g = s.heap.get? := funext h
  rw [e] <;> rfl
abbrev kW (n : Nat) (s : PySem.W.SharedT) : PySem.W.Frag := He.frT (HandSHeadRun.getT s) (asW (HandSHeadRun.getT s) n)
section
open HandSHeadRun PySem.W PySem.Calls
noncomputable abbrev endW (r : OpenRow) (M : Nat) (w : World) (os : OsState) : Option SharedT := endF (stepQ (denQ tabQ) r.prog w) M r.prog w os
abbrev Part1 (r : OpenRow) (q : Program) (loose : List PySem.Str) (M : Nat) (w : World) : Prop := ∀ os, (endW r M w os).map (fun s => (looksF r.prog (boot_heap w.params) s.abs, seenQ q loose (importedModules r.prog.main.body) (fun s => xlAt q [] s && recOk r.toRowW.records s) s.abs)) = some (true, openGood q loose)
abbrev Part2 (r : OpenRow) (n : Nat) (fa : List He.Fa) (ts : List He.Tab) (ex : Frag → Bool) (M : Nat) (w : World) : Prop := ∀ os, (endW r M w os).map (fun s => (fa.all (fun f => f.ok (kW n s)), ts.map (fun t => He.dicW (kW n s) (t.1 (kW n s))), ex (kW n s))) = some (true, ts.map (fun t => some (He.keysIn w.params t.2)), true)
abbrev Part3 (r : OpenRow) (n : Nat) (fn : List He.DefD) (M : Nat) (w : World) : Prop := ∀ os, (endW r M w os).map (fun s => (fn.all (fun d => d.ok (kW n s)), fn.map fun d => He.fnW (kW n s) d.at_)) = some (true, fn.map He.DefD.val)
theorem run_parts {r : OpenRow} {q : Program} {n : Nat} {fa : List He.Fa} {fn : List He.DefD} {ts : List He.Tab} {ex : Frag → Bool} {M : Nat} {loose : List PySem.Str} {w : World} (h1 : Part1 r q loose M w) (h2 : Part2 r n fa ts ex M w) (h3 : Part3 r n fn M w) :
    RunEq r q (hookW n fa fn ts ex) (fun s => obsW n fa fn ts ex (getT s)) M loose w := fun os => by
  have k1 := h1 os
  have k2 := h2 os
  have k3 := h3 os
  unfold endW at k1 k2 k3
  obtain ⟨s, e, a1⟩ := Option.map_eq_some_iff.mp k1
  rw [e] at k2 k3 ⊢
  have a2 := Option.some.inj k2
  have a3 := Option.some.inj k3
  injection a1 with b1 b2
  injection a2 with b3 b4
  injection b4 with b4 b5
  injection a3 with b6 b7
  show some (looksF r.prog (boot_heap w.params) s.abs, seenQ q loose (importedModules r.prog.main.body) (fun s => xlAt q [] s && recOk r.toRowW.records s) s.abs, ((((fa.all fun f => f.ok (kW n s)) && fn.all fun d => d.ok (kW n s), fn.map fun d => He.fnW (kW n s) d.at_), ts.map fun t => He.dicW (kW n s) (t.1 (kW n s))), ex (kW n s))) = some (true, openGood q loose, (((true, fn.map He.DefD.val), ts.map fun t => some (He.keysIn w.params t.2)), true))
  rw [b1, b2, b3, b4, b5, b6, b7]
  rfl
end
end TL
namespace K31
open PySem PySem.Spec PyProof.Rows TL
open L2 hiding putF
def top (i : Nat) : Stmt := PySem.Challenge.pw_kinlines_k31_whole_ties_both_ways.main.body.getD i (.Pass ⟨0, 0, 0, 0⟩)
abbrev s_families_of : Stmt := top 1
abbrev s_depths : Stmt := top 2
abbrev s_End___init__ : Stmt := clsMeth (top 3) 0
abbrev s_Walk_meets : Stmt := clsMeth (top 4) 1
abbrev s_Walk_go : Stmt := clsMeth (top 4) 2
abbrev s_Walk_go_on : Stmt := clsMeth (top 4) 3
abbrev s_Walk_told : Stmt := clsMeth (top 4) 4
abbrev s_Walk___init__ : Stmt := clsMeth (top 4) 0
abbrev s_ties : Stmt := top 5
abbrev s_law_pen_of : Stmt := top 7
abbrev s_law_draw : Stmt := top 8
abbrev s_law_drawn_names : Stmt := top 9
abbrev s_law_drawn_family : Stmt := top 10
abbrev s_law_drawn_book : Stmt := top 11
abbrev s_law_without : Stmt := top 12
abbrev s_law_renamed : Stmt := top 13
abbrev s_the_law : Stmt := top 14

end K31
namespace K31
open PySem PySem.Spec PyProof.Rows TL
open L2 hiding putF
def tbs : List He.Tab := []
def h_families_of : He.DefD := ⟨("families_of", none), "families_of", "families_of", defArgs s_families_of, defBody s_families_of, defScope s_families_of, [], []⟩
def h_depths : He.DefD := ⟨("depths", none), "depths", "depths", defArgs s_depths, defBody s_depths, defScope s_depths, [], []⟩
def h_End___init__ : He.DefD := ⟨("End", some "__init__"), "__init__", "End.__init__", defArgs s_End___init__, defBody s_End___init__, defScope s_End___init__, [], []⟩
def h_Walk_meets : He.DefD := ⟨("Walk", some "meets"), "meets", "Walk.meets", defArgs s_Walk_meets, defBody s_Walk_meets, defScope s_Walk_meets, [], []⟩
def h_Walk_go : He.DefD := ⟨("Walk", some "go"), "go", "Walk.go", defArgs s_Walk_go, defBody s_Walk_go, defScope s_Walk_go, [], []⟩
def h_Walk_go_on : He.DefD := ⟨("Walk", some "go_on"), "go_on", "Walk.go_on", defArgs s_Walk_go_on, defBody s_Walk_go_on, defScope s_Walk_go_on, [], []⟩
def h_Walk_told : He.DefD := ⟨("Walk", some "told"), "told", "Walk.told", defArgs s_Walk_told, defBody s_Walk_told, defScope s_Walk_told, [], []⟩
def h_Walk___init__ : He.DefD := ⟨("Walk", some "__init__"), "__init__", "Walk.__init__", defArgs s_Walk___init__, defBody s_Walk___init__, defScope s_Walk___init__, [], []⟩
def h_ties : He.DefD := ⟨("ties", none), "ties", "ties", defArgs s_ties, defBody s_ties, defScope s_ties, [], []⟩
def h_law_pen_of : He.DefD := ⟨("_law_pen_of", none), "_law_pen_of", "_law_pen_of", defArgs s_law_pen_of, defBody s_law_pen_of, defScope s_law_pen_of, [], []⟩
def h_law_draw : He.DefD := ⟨("_law_draw", none), "_law_draw", "_law_draw", defArgs s_law_draw, defBody s_law_draw, defScope s_law_draw, [], []⟩
def h_law_drawn_names : He.DefD := ⟨("_law_drawn_names", none), "_law_drawn_names", "_law_drawn_names", defArgs s_law_drawn_names, defBody s_law_drawn_names, defScope s_law_drawn_names, [], []⟩
def h_law_drawn_family : He.DefD := ⟨("_law_drawn_family", none), "_law_drawn_family", "_law_drawn_family", defArgs s_law_drawn_family, defBody s_law_drawn_family, defScope s_law_drawn_family, [], []⟩
def h_law_drawn_book : He.DefD := ⟨("_law_drawn_book", none), "_law_drawn_book", "_law_drawn_book", defArgs s_law_drawn_book, defBody s_law_drawn_book, defScope s_law_drawn_book, [], []⟩
def h_law_without : He.DefD := ⟨("_law_without", none), "_law_without", "_law_without", defArgs s_law_without, defBody s_law_without, defScope s_law_without, [], []⟩
def h_law_renamed : He.DefD := ⟨("_law_renamed", none), "_law_renamed", "_law_renamed", defArgs s_law_renamed, defBody s_law_renamed, defScope s_law_renamed, [], []⟩
def h_the_law : He.DefD := ⟨("law", none), "law", "law", defArgs s_the_law, defBody s_the_law, defScope s_the_law, [], []⟩
def fn : List He.DefD := [h_families_of, h_depths, h_End___init__, h_Walk_meets, h_Walk_go, h_Walk_go_on, h_Walk_told, h_Walk___init__, h_ties, h_law_pen_of, h_law_draw, h_law_drawn_names, h_law_drawn_family, h_law_drawn_book, h_law_without, h_law_renamed, h_the_law]
def fa : List He.Fa := [.free "abs", .free "dict", .free "enumerate", .free "int", .free "len", .free "list", .free "max", .free "range", .free "set", .free "sorted", .free "tuple", .free "zip", .glo "families_of", .glo "depths", .glo "ties", .glo "_law_pen_of", .glo "_law_draw", .glo "_law_drawn_names", .glo "_law_drawn_family", .glo "_law_drawn_book", .glo "_law_without", .glo "_law_renamed", .glo "law", .cls "End", .noat "End" "name", .noat "End" "family", .noat "End" "steps", .mkr "End", .glo "End", .cls "Walk", .noat "Walk" "depth", .noat "Walk" "families", .noat "Walk" "met", .noat "Walk" "found", .mkr "Walk", .glo "Walk", .meth "Walk" "meets", .meth "Walk" "go", .meth "Walk" "go_on", .meth "Walk" "told"]
def ex (K : PySem.W.Frag) : Bool := ([((PySem.W.tabIn K "_law_renamed").any fun z => (K.lookup z.2).isNone)] : List Bool).all id
def loose : List Str := (["families_of", "depths", "End", "Walk", "ties", "_law_pen_of", "_law_draw", "_law_drawn_names", "_law_drawn_family", "_law_drawn_book", "_law_without"] : List Str)
abbrev R : PySem.W.OpenRow := PySem.W.OpenLaw.row PySem.Challenge.rw_kinlines_k31_whole_ties_both_ways
abbrev hk : PySem.W.Hook := hookW 4 fa fn tbs ex
def ob (s : PySem.W.SharedT) : He.AlX := obsW 4 fa fn tbs ex (HandSHeadRun.getT s)
theorem ob_eq (s : PySem.W.SharedT) : ob s = hk.obs s.abs := obsW_eq (HandSHeadRun.getT_eq s)
theorem run1 (w : World) : Part1 R (PySem.W.view R.prog [13, 14]) loose 6000 w := by
  intro os
  kernel_rfl
theorem run2 (w : World) : Part2 R 4 fa tbs ex 6000 w := by
  intro os
  kernel_rfl
theorem run3 (w : World) : Part3 R 4 fn 6000 w := by
  intro os
  kernel_rfl
theorem run (w : World) : HandSHeadRun.RunEq R (PySem.W.view R.prog [13, 14]) hk ob 6000 loose w := run_parts (run1 w) (run2 w) (run3 w)

end K31
namespace TL
open PySem PySem.Spec PyProof.Rows L2
/-- a tracked tuple whose object is known -/
abbrev fT (o : Obj) (xs : List V) : HO := .frz o (.tup xs)
section
variable {X : Cx} {es : List Expr} {t : TA} {pos : Pos}
theorem new_tup {pins : List (Addr × Obj)} {σ : L2.St} {H : Hp} {s : Shared} {its : List Value} {xs : List V} {Q : VK} (I : Inv X pins σ H s) (r : Vals xs its) (z : xs.length ≤ sizeLine)
    (q : ∀ o : Obj, o.dict = none → Q (.ref s.heap.objs.size) (upd H s.heap.objs.size (fT o xs))) : EP X pins σ Q (.ref s.heap.objs.size) { s with heap := s.heap.push { cls := .type "tuple", data := .seq its.toArray } } := by
  have at_ : (s.heap.push { cls := .type "tuple", data := .seq its.toArray }).get? s.heap.objs.size = some { cls := .type "tuple", data := .seq its.toArray } := Heap.get?_push_size _ rfl
  exact ⟨.ref _, _, I.laid (t' := s.toks) (o := fT { cls := .type "tuple", data := .seq its.toArray } xs) (fun b u e => Heap.get?_push_of_some _ e) (Nat.le_refl _) ⟨at_, z, its, r, _, at_, rfl, 0, rfl⟩, rfl, q _ rfl⟩
def tTupF (t : TA) : L2.TE := fun σ H Q => t σ H fun xs H1 => xs.length ≤ sizeLine ∧ ∀ p o, H1 p = none → o.dict = none → Q (.ref p) (upd H1 p (fT o xs))
theorem pe_tupF {k1} (h : PA X es t) : PE X (.Tuple es k1 pos) (tTupF t) := ⟨fun pins s σ H Q I hq =>
  wpAny_Tuple_spliced (thn (h.run pos pins s σ H _ I hq) fun us s1 ⟨xs, H1, I1, r, z, q⟩ => ⟨by rw [← r.length]; exact z, new_tup I1 r z fun o d => q _ o (I1.hok.fresh (Nat.le_refl _)) d⟩)⟩
/-- t + u -/
def rCatF (K : PySem.W.Frag) : R2 := fun x y H Q => ∃ a b xs ys, x = .ref a ∧ y = .ref b ∧ SqT K H a xs ∧ SqT K H b ys ∧ xs.length + ys.length ≤ sizeLine ∧
  (xs = [] → Q (.ref b) H) ∧ (xs ≠ [] → ys = [] → Q (.ref a) H) ∧ (xs ≠ [] → ys ≠ [] → ∀ p o, H p = none → o.dict = none → Q (.ref p) (upd H p (fT o (xs ++ ys))))
theorem op_catF : OpR X (binaryOp .Add) (rCatF X.K) := by
  intro pins s σ H x y v u Q I rx ry ⟨a, b, xs, ys, e1, e2, ha, hb, hz, q0, q1, q2⟩
  subst e1 e2
  cases rx
  cases ry
  obtain ⟨is1, r1, p1, _⟩ := I.tuple ha
  obtain ⟨is2, r2, p2, _⟩ := I.tuple hb
  by_cases hx : xs = []
  · subst hx
    cases r1
    exact cat_tup0 p1 p2 ⟨.ref b, H, I, rfl, q0 rfl⟩
  · refine HT.cat_tup p1 p2 (fun z => hx (r1.nil_iff.mp z)) (fun z => ⟨.ref a, H, I, rfl, q1 hx (r2.nil_iff.mp z)⟩) (fun z => ?_) (by rw [← r1.length, ← r2.length]; exact hz)
    exact new_tup I (r1.append r2) (by rw [List.length_append]; exact hz) fun o d => q2 hx (fun w => z (r2.nil_iff.mpr w)) _ o (I.hok.fresh (Nat.le_refl _)) d
/-- t[lo:hi] -/
def rSlF (K : PySem.W.Frag) : V → Option Int → Option Int → Hp → VK → Prop := fun x lo hi H Q => ∃ a xs, x = .ref a ∧ SqT K H a xs ∧
  (HT.sIx xs.length 0 lo = 0 ∧ HT.sIx xs.length xs.length hi = xs.length → Q (.ref a) H) ∧ (¬ (HT.sIx xs.length 0 lo = 0 ∧ HT.sIx xs.length xs.length hi = xs.length) → ∀ p o, H p = none → o.dict = none → Q (.ref p) (upd H p (fT o (cutV xs lo hi))))
theorem sl_tupF : SlR X (rSlF X.K) := by
  intro pins s σ H x v vl vu lo hi sl Q I rx hs pl pu ⟨a, xs, e1, hx, q1, q2⟩
  subst e1
  cases rx
  obtain ⟨its, r, ht, hz⟩ := I.tuple hx
  have hlen : its.toArray.size = xs.length := by rw [List.size_toArray]; exact r.length.symm
  refine ⟨"tuple", _, PyProof.Rows.slot_tuple_getitem.lookup, ht.typeIs, ?_⟩
  by_cases hw : HT.sIx xs.length 0 lo = 0 ∧ HT.sIx xs.length xs.length hi = xs.length
  · exact getItem_tuple_whole ht hs pl pu (by rw [hlen]; exact hw) ⟨.ref a, H, I, rfl, q1 hw⟩
  · refine HT.getItem_tuple_cut ht hs pl pu (by rw [hlen]; exact hw) ?_ (by rw [hlen]; exact hz)
    rw [hlen]
    exact new_tup I ((r.drop (HT.sIx xs.length 0 lo)).take (HT.sIx xs.length xs.length hi - HT.sIx xs.length 0 lo)) (Nat.le_trans (cutV_length xs lo hi) hz) fun o d => q2 hw _ o (I.hok.fresh (Nat.le_refl _)) d
/-- tuple(xs) -/
theorem call_tupleF : CallR X (.type "tuple") (fun xs H Q => ∃ p ys, xs = [.ref p] ∧ ((SqL X.K H p ys ∧ ∀ l o, H l = none → o.dict = none → Q (.ref l) (upd H l (fT o ys))) ∨ (SqT X.K H p ys ∧ Q (.ref p) H))) := by
  intro pins s σ H xs us Q I r ⟨p, ys, e1, h⟩
  subst e1
  obtain ⟨u, e2, rx⟩ := L2.vals1 r
  subst e2
  cases rx
  rcases h with ⟨hq, q⟩ | ⟨hq, q⟩
  · obtain ⟨its, rr, pl, hz⟩ := I.list hq
    have hlen := rr.length
    refine call_tuple_list pl.isList (fun g kp => ?_) (by simp only [List.size_toArray] <;> omega)
    have I1 : Inv X pins σ H { s with heap := g } := I.kept (t' := s.toks) kp
    exact new_tup (s := { s with heap := g }) I1 rr hz fun o d => q _ o (I1.hok.fresh (Nat.le_refl _)) d
  · obtain ⟨its, rr, pl, hz⟩ := I.tuple hq
    exact call_tuple_same pl ⟨.ref p, H, I, rfl, q⟩
/-- a tuple whose object is known to have no dict -/
def BareT (K : PySem.W.Frag) (H : Hp) (a : Addr) (xs : List V) : Prop := (∃ o, H a = some (fT o xs) ∧ o.dict = none) ∨
  ∃ (o : Obj) (its : Array Value) (n : Nat), K.lookup a = some o ∧ o.cls = .type "tuple" ∧ o.dict = none ∧ o.data = .seq its n ∧ its.size ≤ sizeLine ∧ Vals xs its.toList
theorem BareT.sq {K : PySem.W.Frag} {H : Hp} {a : Addr} {xs : List V} (h : BareT K H a xs) : SqT K H a xs := h.elim (fun ⟨o, z, _⟩ => .inl (.inr ⟨o, z⟩)) fun ⟨o, its, n, a1, a2, _, a4⟩ => .inr ⟨o, its, n, a1, a2, a4⟩
theorem BareT.plain {pins : List (Addr × Obj)} {σ : L2.St} {H : Hp} {s : Shared} {a : Addr} {xs : List V} (I : Inv X pins σ H s) (h : BareT X.K H a xs) : ∃ its : List Value, Vals xs its ∧ PlainSeq "tuple" s.heap a its.toArray ∧ xs.length ≤ sizeLine := by
  obtain ⟨its, r, ⟨ob, hb, hc, n, hd⟩, hz⟩ := I.tuple h.sq
  refine ⟨its, r, ⟨ob, n, hb, hc, ?_, hd⟩, hz⟩
  rcases h with ⟨o, e, d⟩ | ⟨o, is2, n2, a1, a2, a3, _⟩
  · obtain ⟨g, _⟩ := I.hok a _ e
    rw [hb] at g
    cases g
    exact d
  · have g := I.kIn _ _ a1
    rw [hb] at g
    cases g
    exact a3
/-- dict(t) of a tuple of pairs -/
theorem pairs_val {pins : List (Addr × Obj)} {σ : L2.St} {H : Hp} {s : Shared} (I : Inv X pins σ H s) : ∀ {ps : List Addr} {kvs : List (Key × V)}, Paired (fun p kv => SqT X.K H p [kV kv.1, kv.2]) ps kvs →
    ∃ (prs : List (Key × Value)) (qs : List (Value × Value)), KV kvs prs ∧ prs.length = ps.length ∧ qs.length = ps.length ∧ ∀ (j : Nat) (k v : Value), qs[j]? = some (k, v) → ∃ (b : Addr) (c : Key), ps[j]? = some b ∧ prs[j]? = some (c, v) ∧ IsTup s.heap b #[k, v] ∧ keyIs c k = true
  | _, _, .nil => ⟨[], [], .nil, rfl, rfl, fun j k v e => by simp at e⟩
  | _, _, .cons (a := p) (b := kv) h t => by
    obtain ⟨prs, qs, r, hl, hm, hp⟩ := pairs_val I t
    obtain ⟨its, rv, ht, _⟩ := I.tuple h
    obtain ⟨u, y, ei, ru, ry⟩ := L2.vals2 rv
    subst ei
    refine ⟨(kv.1, y) :: prs, (u, y) :: qs, .cons ⟨rfl, ry⟩ r, by simp [hl], by simp [hm], fun j k v e => ?_⟩
    cases j with
    | zero =>
      cases Option.some.inj e
      exact ⟨p, kv.1, rfl, rfl, ht, kV_is (P := X.prog) (w := X.w) ru⟩
    | succ j =>
      obtain ⟨b, c, e1, e2, e3, e4⟩ := hp j k v (by simpa using e)
      exact ⟨b, c, by simpa using e1, by simpa using e2, e3, e4⟩
theorem call_dictT (hcalm : X.calm = true) : CallR X (.type "dict") (fun xs H Q => ∃ (a : Addr) (ps : List Addr) (kvs : List (Key × V)), xs = [.ref a] ∧ BareT X.K H a (ps.map V.ref) ∧ Paired (fun p kv => SqT X.K H p [kV kv.1, kv.2]) ps kvs ∧
    ∀ p, H p = none → Q (.ref p) (upd H p (.dK (mergeK [] kvs)))) := by
  intro pins s σ H xs us Q I r ⟨a, ps, kvs, ex, hq, hp, q⟩
  subst ex
  obtain ⟨u, eu, rx⟩ := L2.vals1 r
  subst eu
  cases rx
  obtain ⟨its, rv, pl, hz⟩ := hq.plain I
  have ei := refs_at rv
  subst ei
  rw [List.length_map] at hz
  obtain ⟨prs, qs, rel, hl, hm, hpr⟩ := pairs_val I hp
  have hk : PairItems s.heap (ps.map Value.ref).toArray (fun j => ps.getD j a) qs := ⟨by simp [hm], fun j k v e => by
    obtain ⟨b, c, e1, e2, ⟨ob, f1, f2, n, f3⟩, e4⟩ := hpr j k v e
    have gd : ps.getD j a = b := by rw [List.getD_eq_getElem?_getD, e1]; rfl
    refine ⟨?_, .inl ?_⟩
    · show (ps.map Value.ref).toArray[j]? = some (Value.ref (ps.getD j a))
      rw [gd]
      simp [e1]
    · show s.heap.IsTuple (ps.getD j a) _
      rw [gd]
      exact ⟨ob, f1, f2, n, f3⟩⟩
  refine PySem.call_dict_pairs (knd := mixKind X.prog X.w) (kvs := prs) (PairArg.tuple a _ _ qs) (I.ok.hd hcalm) ⟨pl, hk⟩ ⟨by rw [hl, hm], fun j k v e => ?_⟩ (by rw [hm]; exact hz) fun g tk hd' kp => ?_
  · obtain ⟨b, c, e1, e2, e3, e4⟩ := hpr j k v e
    exact ⟨c, e2, e4⟩
  · have hb : (s.heap.objs.size == sysModules) = false := beq_eq_false_iff_ne.mpr (Nat.ne_of_gt I.big)
    have hlen : (mergeK [] kvs).length ≤ sizeLine := Nat.le_trans (length_mergeK kvs []) (by rw [List.length_nil, Nat.zero_add, rel.length, hl]; exact hz)
    exact ⟨.ref s.heap.objs.size, upd H s.heap.objs.size (.dK (mergeK [] kvs)), I.laid (t' := tk) (fun b o e => kp b o (fun z => nomatch z) e) (Nat.le_refl _) (show ObjOk X.prog X.w _ _ _ (.dK (mergeK [] kvs)) from ⟨hlen, hb, merged [] prs, KV.merge rel .nil, hd'⟩), rfl, q _ (I.hok.fresh (Nat.le_refl _))⟩
end
end TL
namespace TL
open PySem PySem.Spec PyProof.Rows L2
/-- a sign: texts are of these alone -/
abbrev Sg := Fin 128
def txt (x : List Sg) : Str := ⟨(x.map (·.val)).toArray⟩
theorem txt_list (x : List Sg) : (txt x).cps.toList = x.map (·.val) := rfl
theorem map_val_inj : ∀ {x y : List Sg}, x.map (·.val) = y.map (·.val) → x = y
  | [], [], _ => rfl
  | [], _ :: _, h => by cases h
  | _ :: _, [], h => by cases h
  | a :: x, b :: y, h => by
    rw [List.map_cons, List.map_cons] at h
    injection h with h1 h2
    rw [Fin.ext h1, map_val_inj h2]
theorem txt_inj {x y : List Sg} (h : txt x = txt y) : x = y := map_val_inj (by rw [← txt_list, h, txt_list])
theorem txt_len (x : List Sg) : (txt x).length = x.length := by
  show (x.map (·.val)).toArray.size = x.length
  simp
theorem txt_app (x y : List Sg) : txt (x ++ y) = txt x ++ txt y := by
  show (⟨((x ++ y).map (·.val)).toArray⟩ : Str) = ⟨(x.map (·.val)).toArray ++ (y.map (·.val)).toArray⟩
  simp
/-- a def or a lambda within a def, as it is written: its name, what it is called, its words -/
structure ND where
  name : Str
  qual : Str
  params : Arguments
  body : List Stmt
  ex : Option Expr
  scope : Scope
abbrev ND.code (d : ND) : FuncBody := match d.ex with
  | none => .stmts d.body
  | some e => .expr e
/-- the function that it makes, of the captured cells cl, its code object at c -/
abbrev ND.fd (d : ND) (cl : List (Str × Addr)) (c : Addr) (doc pm ctv : Value) : FuncData :=
  { name := d.name, qualname := d.qual, params := d.params, body := d.code, scope := d.scope, globals := mainGlobals, closure := cl, defaults := .none, kwdefaults := .none, doc := doc, pyModule := pm, annotations := none, code := .ref c, closureTuple := ctv, builtins := builtinsNs }
def FnC (f : Addr) (d : ND) (cl : List (Str × Addr)) (c : Addr) : HO := .ext fun h => ∃ (od : Option Addr) (sl : Array (Option Value)) (doc pm ctv : Value), h.get? f = some (⟨.type "function", od, .func (d.fd cl c doc pm ctv), sl⟩ : Obj)
/-- a value as a tree; ref: a thing that may change, told by the store -/
inductive T where
  | non
  | bl (b : Bool)
  | int (i : Int)
  | str (x : List Sg)
  | tup (xs : List T)
  | lst (xs : List T)
  | ref (a : Addr)
  | exc (c : Str) (ns : List Str) (vs : List T)
  | dct (nst : Bool) (ks vs : List T)
  | obj (c : Str) (ns : List Str) (vs : List T)
  | fn (x : Str)
  | scr (ns : List Int)
  | clo (d : ND) (cl : List (Str × Addr)) (c : Addr) (vs : List V) (ts : List T)
  deriving Inhabited

/-- what may change -/
inductive Cell where
  | lst (xs : List T)
  | dct (nst : Bool) (ks vs : List T)
  | ins (c : Str) (ns : List Str) (vs : List T)
  | tab (q : Str)

abbrev Sto := Addr → Option Cell
abbrev TEnv := List (Option T)
def ups (S : Sto) (a : Addr) (c : Cell) : Sto := fun b => if b = a then some c else S b
theorem ups_same {S : Sto} {a : Addr} {c : Cell} : ups S a c a = some c := if_pos rfl
theorem ups_ne {S : Sto} {a b : Addr} {c : Cell} (h : b ≠ a) : ups S a c b = S b := if_neg h
def offs (S : Sto) (a : Addr) : Sto := fun b => if b = a then none else S b
theorem offs_same {S : Sto} {a : Addr} : offs S a a = none := if_pos rfl
theorem offs_ne {S : Sto} {a b : Addr} (h : b ≠ a) : offs S a b = S b := if_neg h

mutual
/-- a key, up to == -/
def keyOf : T → Option NestedKey
  | .non => some .none
  | .bl b => some (.num (if b = true then 1 else 0))
  | .int i => some (.num i)
  | .str x => some (.text (txt x))
  | .tup ts => (keysOf ts).map .tup
  | _ => none
def keysOf : List T → Option (List NestedKey)
  | [] => some []
  | t :: ts => match keyOf t, keysOf ts with
    | some k, some ks => some (k :: ks)
    | _, _ => none
end
def isFrz : HO → Bool
  | .frz _ _ => true
  | _ => false
/-- the written part and the world -/
structure Gd where
  P : Program
  K : PySem.W.Frag
  w : World
  /-- what is not looked at -/
  M : Addr → Prop
/-- an object of the written part -/
def StT (K : PySem.W.Frag) (a : Addr) (xs : List V) : Prop :=
  ∃ (o : Obj) (its : Array Value) (n : Nat), K.lookup a = some o ∧ o.cls = .type "tuple" ∧ o.dict = none ∧ o.data = .seq its n ∧ its.size ≤ sizeLine ∧ Vals xs its.toList
def StL (K : PySem.W.Frag) (a : Addr) (xs : List V) : Prop :=
  ∃ (o : Obj) (its : Array Value) (n : Nat), K.lookup a = some o ∧ o.cls = .type "list" ∧ o.dict = none ∧ o.data = .seq its n ∧ its.size ≤ sizeLine ∧ Vals xs its.toList
/-- tracked as u, and no cell -/
def At (M : Addr → Prop) (H : Hp) (S : Sto) (a : Addr) (u : HO) : Prop := Rd H a u ∧ S a = none ∧ ¬ M a
def TupAt (G : Gd) (H : Hp) (S : Sto) (a : Addr) (xs : List V) : Prop := (∃ o, (H a = some (fT o xs) ∧ o.dict = none) ∧ S a = none ∧ ¬ G.M a) ∨ StT G.K a xs
def LstAt (G : Gd) (H : Hp) (S : Sto) (a : Addr) (xs : List V) : Prop := H a = some (.lst xs) ∧ S a = none ∧ ¬ G.M a
/-- the law's script -/
def ScrAt (G : Gd) (H : Hp) (S : Sto) (a : Addr) (xs : List V) : Prop := (∃ o, H a = some (.frz o (.lst xs)) ∧ S a = none ∧ ¬ G.M a) ∨ StL G.K a xs
theorem ScrAt.sq {G : Gd} {H : Hp} {S : Sto} {a : Addr} {xs : List V} (h : ScrAt G H S a xs) : SqL G.K H a xs := h.elim (fun ⟨o, z, _⟩ => .inl (.inr ⟨o, z⟩)) .inr
theorem TupAt.sq {G : Gd} {H : Hp} {S : Sto} {a : Addr} {xs : List V} (h : TupAt G H S a xs) : SqT G.K H a xs := h.elim (fun ⟨o, z, _⟩ => .inl (.inr ⟨o, z.1⟩)) fun ⟨o, its, n, a1, a2, _, a4⟩ => .inr ⟨o, its, n, a1, a2, a4⟩
theorem TupAt.bare {G : Gd} {H : Hp} {S : Sto} {a : Addr} {xs : List V} (h : TupAt G H S a xs) : BareT G.K H a xs := h.elim (fun ⟨o, z, _⟩ => .inl ⟨o, z⟩) .inr
theorem LstAt.sq {G : Gd} {H : Hp} {S : Sto} {a : Addr} {xs : List V} (h : LstAt G H S a xs) : SqL G.K H a xs := SqL.of h.1
/-- the entries of a dict by tuples, as its object holds them -/
def rawN (w : World) (a : Addr) (es : List (NestedKey × Addr × V)) (h : Heap) : Prop :=
  es.length ≤ sizeLine ∧ (a == sysModules) = false ∧ (∀ e ∈ es, e.1.depth ≤ 8) ∧ (es.map (·.1)).Nodup ∧
    ∃ us : List Value, Vals (es.map (·.2.2)) us ∧ ∃ o en ep, h.get? a = some o ∧ o.ExactDict ∧ o.data = .dict en ep ∧
      en.toList = (es.zip us).map fun q => (⟨q.1.1.hash w, .ref q.1.2.1, q.2⟩ : DictEntry)
def dN (w : World) (a : Addr) (es : List (NestedKey × Addr × V)) : HO := .ext (rawN w a es)

/-- at a: an exception of the class at C, its dict (none | at d) -/
def exv (a C : Addr) (d : Option Addr) : HO := .ext fun h => ∃ (o : Obj) (vs : Array Value), h.get? a = some o ∧ L2N.Zn (.ref C) d o ∧ o.data = .fields vs

mutual
/-- the tree t lies as v -/
inductive Rep (G : Gd) (H : Hp) (S : Sto) : T → V → Prop
  | non : Rep G H S .non .non
  | bl (b : Bool) : Rep G H S (.bl b) (.bl b)
  | int (i : Int) : Rep G H S (.int i) (.int i)
  | str (x : List Sg) : Rep G H S (.str x) (.str (txt x))
  | ref (a : Addr) : Rep G H S (.ref a) (.ref a)
  | fn (x : Str) : Rep G H S (.fn x) (.ref (He.ga G.K x))
  | scr {a : Addr} {ns : List Int} : ScrAt G H S a (ns.map V.int) → Rep G H S (.scr ns) (.ref a)
  | tup {a : Addr} {xs : List V} {ts : List T} : TupAt G H S a xs → Reps G H S ts xs → Rep G H S (.tup ts) (.ref a)
  | lst {a : Addr} {xs : List V} {ts : List T} : LstAt G H S a xs → Reps G H S ts xs → Rep G H S (.lst ts) (.ref a)
  | exc0 {a : Addr} {c : Str} : At G.M H S a (exv a (He.ga G.K c) none) → Rep G H S (.exc c [] []) (.ref a)
  | exc1 {a d : Addr} {c : Str} {ns : List Str} {ts : List T} {xs : List V} : At G.M H S a (exv a (He.ga G.K c) (some d)) → At G.M H S d (.xd (ns.zip xs)) → ns.length = xs.length → Reps G H S ts xs → Rep G H S (.exc c ns ts) (.ref a)
  | dK {a : Addr} {kvs : List (Key × V)} {ks vs : List T} : At G.M H S a (.dK kvs) → Reps G H S ks (kvs.map fun p => kV p.1) → Reps G H S vs (kvs.map (·.2)) → Rep G H S (.dct false ks vs) (.ref a)
  | dN {a : Addr} {es : List (NestedKey × Addr × V)} {ks vs : List T} : At G.M H S a (dN G.w a es) → keysOf ks = some (es.map (·.1)) → Reps G H S ks (es.map fun e => V.ref e.2.1) → Reps G H S vs (es.map (·.2.2)) → Rep G H S (.dct true ks vs) (.ref a)
  | obj {a d : Addr} {c : Str} {ns : List Str} {ts : List T} {xs : List V} : (H a = some (.ins (He.ga G.K c) d (ns.zip xs)) ∧ S a = none ∧ ¬ G.M a) → ns.length = xs.length → Reps G H S ts xs → Rep G H S (.obj c ns ts) (.ref a)
  | clo {f : Addr} {d : ND} {cl : List (Str × Addr)} {c : Addr} {xs : List V} {ts : List T} : At G.M H S f (FnC f d cl c) → At G.M H S c (LamX.CodeO c d.qual) → Reps G H S ts xs → Rep G H S (.clo d cl c xs ts) (.ref f)
inductive Reps (G : Gd) (H : Hp) (S : Sto) : List T → List V → Prop
  | nil : Reps G H S [] []
  | cons {t : T} {ts : List T} {v : V} {vs : List V} : Rep G H S t v → Reps G H S ts vs → Reps G H S (t :: ts) (v :: vs)
end
/-- a thing that may change, as it lies -/
def CellOk (G : Gd) (H : Hp) (S : Sto) (a : Addr) : Cell → Prop
  | .lst ts => ∃ xs, H a = some (.lst xs) ∧ Reps G H S ts xs
  | .dct false ks vs => ∃ kvs : List (Key × V), H a = some (.dK kvs) ∧ Reps G H S ks (kvs.map fun p => kV p.1) ∧ Reps G H S vs (kvs.map (·.2))
  | .dct true ks vs => ∃ es : List (NestedKey × Addr × V), H a = some (dN G.w a es) ∧ keysOf ks = some (es.map (·.1)) ∧ Reps G H S ks (es.map fun e => V.ref e.2.1) ∧ Reps G H S vs (es.map (·.2.2))
  | .ins c ns ts => ∃ d xs, H a = some (.ins (He.ga G.K c) d (ns.zip xs)) ∧ ns.length = xs.length ∧ Reps G H S ts xs
  | .tab q => ∃ ps : Array Value, H a = some (.tbl ps) ∧ TriplesOk ps.toList ∧ ∀ (pos : Pos) (cv : Value), codeAmong pos ps.toList = some cv → ∃ c, cv = .ref c ∧ At G.M H S c (LamX.CodeO c q)
structure StoOk (G : Gd) (H : Hp) (S : Sto) : Prop where
  at_ : ∀ a c, S a = some c → CellOk G H S a c
  msk : ∀ a, G.M a → H a ≠ none
  sep : ∀ a, G.M a → S a = none

/-- what a loop may lock -/
def isD : HO → Bool
  | .dK _ => true
  | .dT _ => true
  | .ext _ => true
  | _ => false
def lkd : HO → Bool
  | .frz _ u => isD u
  | u => isD u
/-- what lay still lies still, but for what is not looked at -/
def ExtM (M : Addr → Prop) (S : Sto) (H : Hp) (S' : Sto) (H' : Hp) : Prop := ∀ b u, ¬ M b → S b = none → (H b = some u → lkd u = false → H' b = some u ∧ S' b = none) ∧ (Rd H b u → isD u = true → Rd H' b u ∧ S' b = none)
/-- what lay still lies still -/
def Ext (S : Sto) (H : Hp) (S' : Sto) (H' : Hp) : Prop := ∀ b u, S b = none → (H b = some u → isD u = false → H' b = some u ∧ S' b = none) ∧ (Rd H b u → isD u = true → Rd H' b u ∧ S' b = none)
section
variable {G : Gd} {H H' H2 : Hp} {S S' S2 : Sto} {M : Addr → Prop}
theorem lkd_isD {u : HO} (h : lkd u = false) : isD u = false := by
  cases u <;> first | exact h | rfl
theorem Ext.m (x : Ext S H S' H') : ExtM M S H S' H' := fun b u _ n => ⟨fun h f => (x b u n).1 h (lkd_isD f), (x b u n).2⟩
theorem Ext.refl : Ext S H S H := fun _ _ n => ⟨fun h _ => ⟨h, n⟩, fun h _ => ⟨h, n⟩⟩
theorem Ext.trans (x : Ext S H S' H') (y : Ext S' H' S2 H2) : Ext S H S2 H2 := fun b u n =>
  ⟨fun h f => let z := (x b u n).1 h f; (y b u z.2).1 z.1 f, fun h f => let z := (x b u n).2 h f; (y b u z.2).2 z.1 f⟩
theorem At.extM {a : Addr} {u : HO} (h : At M H S a u) (x : ExtM M S H S' H') (f : isFrz u = false := by rfl) : At M H' S' a u := by
  obtain ⟨h1, h2, h3⟩ := h
  cases hd : isD u with
  | true =>
    have w := (x a u h3 h2).2 h1 hd
    exact ⟨w.1, w.2, h3⟩
  | false =>
    rcases h1 with z | ⟨o, z⟩
    · have k : lkd u = false := by
        cases u <;> first | exact hd | cases f
      have w := (x a u h3 h2).1 z k
      exact ⟨.inl w.1, w.2, h3⟩
    · have w := (x a (.frz o u) h3 h2).1 z hd
      exact ⟨.inr ⟨o, w.1⟩, w.2, h3⟩
theorem TupAt.extM {a : Addr} {xs : List V} (h : TupAt G H S a xs) (x : ExtM G.M S H S' H') : TupAt G H' S' a xs := h.elim (fun ⟨o, z, s, m⟩ => let w := (x a _ m s).1 z.1 rfl; .inl ⟨o, ⟨w.1, z.2⟩, w.2, m⟩) .inr
theorem LstAt.extM {a : Addr} {xs : List V} (h : LstAt G H S a xs) (x : ExtM G.M S H S' H') : LstAt G H' S' a xs := let w := (x a _ h.2.2 h.2.1).1 h.1 rfl; ⟨w.1, w.2, h.2.2⟩
theorem At.ext {a : Addr} {u : HO} (h : At M H S a u) (x : Ext S H S' H') (f : isFrz u = false := by rfl) : At M H' S' a u := h.extM x.m f
theorem TupAt.ext {a : Addr} {xs : List V} (h : TupAt G H S a xs) (x : Ext S H S' H') : TupAt G H' S' a xs := h.extM x.m
theorem LstAt.ext {a : Addr} {xs : List V} (h : LstAt G H S a xs) (x : Ext S H S' H') : LstAt G H' S' a xs := h.extM x.m
theorem Ext.exact {a : Addr} {u : HO} (x : Ext S H S' H') (h : H a = some u) (n : S a = none) (k : isD u = false := by rfl) : H' a = some u ∧ S' a = none := (x a u n).1 h k
mutual
theorem Rep.extM (x : ExtM G.M S H S' H') : ∀ (t : T) (v : V), Rep G H S t v → Rep G H' S' t v
  | .non, _, h => by cases h; exact .non
  | .bl _, _, h => by cases h; exact .bl _
  | .int _, _, h => by cases h; exact .int _
  | .str _, _, h => by cases h; exact .str _
  | .ref _, _, h => by cases h; exact .ref _
  | .fn _, _, h => by cases h; exact .fn _
  | .scr _, _, h => by
    cases h with
    | scr h1 => exact .scr (h1.imp (fun ⟨o, z1, z2, z3⟩ => ⟨o, ((x _ _ z3 z2).1 z1 rfl).1, ((x _ _ z3 z2).1 z1 rfl).2, z3⟩) id)
  | .tup ts, _, h => by
    cases h with
    | tup h1 h2 => exact .tup (h1.extM x) (Reps.extM x ts _ h2)
  | .lst ts, _, h => by
    cases h with
    | lst h1 h2 => exact .lst (h1.extM x) (Reps.extM x ts _ h2)
  | .exc c ns ts, _, h => by
    cases h with
    | exc0 h1 => exact .exc0 (h1.extM x)
    | exc1 h1 h2 h3 h4 => exact .exc1 (h1.extM x) (h2.extM x) h3 (Reps.extM x ts _ h4)
  | .dct b ks vs, _, h => by
    cases h with
    | dK h1 h2 h3 => exact .dK (h1.extM x) (Reps.extM x ks _ h2) (Reps.extM x vs _ h3)
    | dN h1 h2 h3 h4 => exact .dN (h1.extM x) h2 (Reps.extM x ks _ h3) (Reps.extM x vs _ h4)
  | .obj c ns ts, _, h => by
    cases h with
    | obj h1 h2 h3 =>
      have w := (x _ _ h1.2.2 h1.2.1).1 h1.1 rfl
      exact .obj ⟨w.1, w.2, h1.2.2⟩ h2 (Reps.extM x ts _ h3)
  | .clo .., _, h => by
    cases h with
    | clo h1 h2 h3 => exact .clo (h1.extM x) (h2.extM x) (Reps.extM x _ _ h3)
theorem Reps.extM (x : ExtM G.M S H S' H') : ∀ (ts : List T) (vs : List V), Reps G H S ts vs → Reps G H' S' ts vs
  | [], _, h => by cases h; exact .nil
  | t :: ts, _, h => by
    cases h with
    | cons h1 h2 => exact .cons (Rep.extM x t _ h1) (Reps.extM x ts _ h2)
end
theorem Rep.ext (x : Ext S H S' H') (t : T) (v : V) (h : Rep G H S t v) : Rep G H' S' t v := Rep.extM x.m t v h
theorem Reps.ext (x : Ext S H S' H') (t : List T) (v : List V) (h : Reps G H S t v) : Reps G H' S' t v := Reps.extM x.m t v h
theorem CellOk.extM {a : Addr} {c : Cell} (h : CellOk G H S a c) (x : ExtM G.M S H S' H') (e : H' a = H a) : CellOk G H' S' a c := by
  cases c with
  | lst ts =>
    obtain ⟨xs, h1, h2⟩ := h
    exact ⟨xs, e.trans h1, Reps.extM x _ _ h2⟩
  | dct b ks vs =>
    cases b with
    | false =>
      obtain ⟨kvs, h1, h2, h3⟩ := h
      exact ⟨kvs, e.trans h1, Reps.extM x _ _ h2, Reps.extM x _ _ h3⟩
    | true =>
      obtain ⟨es, h1, h2, h3, h4⟩ := h
      exact ⟨es, e.trans h1, h2, Reps.extM x _ _ h3, Reps.extM x _ _ h4⟩
  | ins c ns ts =>
    obtain ⟨d, xs, h1, h2, h3⟩ := h
    exact ⟨d, xs, e.trans h1, h2, Reps.extM x _ _ h3⟩
  | tab q =>
    obtain ⟨ps, h1, h2, h3⟩ := h
    exact ⟨ps, e.trans h1, h2, fun pos cv hc => let ⟨c, e1, e2⟩ := h3 pos cv hc; ⟨c, e1, e2.extM x⟩⟩
theorem CellOk.ext {a : Addr} {c : Cell} (h : CellOk G H S a c) (x : Ext S H S' H') (e : H' a = H a) : CellOk G H' S' a c := h.extM x.m e
theorem CellOk.there {a : Addr} {c : Cell} (h : CellOk G H S a c) : ∃ o, H a = some o := by
  cases c with
  | lst ts => obtain ⟨xs, h1, _⟩ := h; exact ⟨_, h1⟩
  | dct b ks vs =>
    cases b with
    | false => obtain ⟨kvs, h1, _⟩ := h; exact ⟨_, h1⟩
    | true => obtain ⟨es, h1, _⟩ := h; exact ⟨_, h1⟩
  | ins c ns ts => obtain ⟨d, xs, h1, _⟩ := h; exact ⟨_, h1⟩
  | tab q => obtain ⟨ps, h1, _⟩ := h; exact ⟨_, h1⟩
theorem StoOk.free (h : StoOk G H S) {a : Addr} (n : H a = none) : S a = none := by
  cases e : S a with
  | none => rfl
  | some c =>
    obtain ⟨o, q⟩ := (h.at_ a c e).there
    rw [n] at q
    cases q
theorem StoOk.nom (h : StoOk G H S) {a : Addr} (n : H a = none) : ¬ G.M a := fun m => h.msk a m n
theorem upd_some {p a : Addr} {o : HO} (h : H a ≠ none) : upd H p o a ≠ none := fun z => by
  by_cases e : a = p
  · subst e
    rw [upd_same] at z
    cases z
  · rw [upd_ne e] at z
    exact h z
theorem Rd.ne {p b : Addr} {u : HO} (n : H p = none) (h : Rd H b u) : b ≠ p := fun e => by
  subst e
  rcases h with h | ⟨_, h⟩ <;> rw [n] at h <;> cases h
theorem Rd.upd {p b : Addr} {u o : HO} (ne : b ≠ p) (h : Rd H b u) : Rd (upd H p o) b u := by
  rcases h with h | ⟨q, h⟩
  · exact .inl ((upd_ne ne).trans h)
  · exact .inr ⟨q, (upd_ne ne).trans h⟩
/-- a new object that no cell is -/
theorem Ext.new {p : Addr} {o : HO} (n : H p = none) : Ext S H S (upd H p o) := fun b u k =>
  ⟨fun h _ => ⟨(upd_ne (ne_of_none h n)).trans h, k⟩, fun h _ => ⟨Rd.upd (Rd.ne n h) h, k⟩⟩
theorem StoOk.new {p : Addr} {o : HO} (h : StoOk G H S) (n : H p = none) : StoOk G (upd H p o) S := ⟨fun a c e =>
  (h.at_ a c e).ext (Ext.new n) (upd_ne fun z => by
    subst z
    obtain ⟨o, q⟩ := (h.at_ _ c e).there
    rw [n] at q
    cases q), fun a m => upd_some (h.msk a m), h.sep⟩
/-- a cell written, or a new one -/
theorem Ext.cell {p : Addr} {o : HO} {c : Cell} (n : H p = none ∨ ∃ c, S p = some c) : Ext S H (ups S p c) (upd H p o) := fun b u k => by
  have ne : ∀ {u}, Rd H b u → b ≠ p := fun h e => by
    subst e
    rcases n with n | ⟨c, n⟩
    · exact Rd.ne n h rfl
    · rw [n] at k; cases k
  exact ⟨fun h _ => ⟨(upd_ne (ne (.inl h))).trans h, (ups_ne (ne (.inl h))).trans k⟩, fun h _ => ⟨Rd.upd (ne h) h, (ups_ne (ne h)).trans k⟩⟩
theorem StoOk.cell {p : Addr} {o : HO} {c : Cell} (h : StoOk G H S) (n : H p = none ∨ ∃ c, S p = some c) (k : CellOk G (upd H p o) (ups S p c) p c) : StoOk G (upd H p o) (ups S p c) := ⟨fun a d e => by
  by_cases q : a = p
  · subst q
    rw [ups_same] at e
    cases e
    exact k
  · rw [ups_ne q] at e
    exact (h.at_ a d e).ext (Ext.cell n) (upd_ne q), fun a m => upd_some (h.msk a m), fun a m => by
  have q : a ≠ p := fun e => by
    subst e
    rcases n with n | ⟨c, n⟩
    · exact h.nom n m
    · rw [h.sep _ m] at n
      cases n
  rw [ups_ne q]
  exact h.sep a m⟩
/-- a cell given up: it stands from now on -/
theorem Ext.drop (h : ∀ a, S a = none → S' a = none) : Ext S H S' H := fun b _ n => ⟨fun r _ => ⟨r, h b n⟩, fun r _ => ⟨r, h b n⟩⟩
theorem StoOk.drop (h : StoOk G H S) (k : ∀ a c, S' a = some c → S a = some c) : StoOk G H S' := ⟨fun a c e =>
  (h.at_ a c (k a c e)).ext (Ext.drop fun b n => by
    cases q : S' b with
    | none => rfl
    | some d => rw [k b d q] at n; cases n) rfl, h.msk, fun a m => by
  cases q : S' a with
  | none => rfl
  | some d =>
    have z := k a d q
    rw [h.sep a m] at z
    cases z⟩
/-- a thing that is not looked at is written -/
theorem ExtM.at {p : Addr} {o : HO} (h : M p) : ExtM M S H S (upd H p o) := fun b u nb k => by
  have ne : b ≠ p := fun e => nb (e ▸ h)
  exact ⟨fun h _ => ⟨(upd_ne ne).trans h, k⟩, fun h _ => ⟨Rd.upd ne h, k⟩⟩
theorem Reps.length : ∀ {ts : List T} {vs : List V}, Reps G H S ts vs → ts.length = vs.length
  | [], _, h => by cases h; rfl
  | _ :: _, _, h => by
    cases h with
    | cons _ h2 => rw [List.length_cons, List.length_cons, Reps.length h2]
theorem Reps.append : ∀ {ts us : List T} {vs ws : List V}, Reps G H S ts vs → Reps G H S us ws → Reps G H S (ts ++ us) (vs ++ ws)
  | [], _, _, _, h, h2 => by cases h; exact h2
  | _ :: _, _, _, _, h, h2 => by
    cases h with
    | cons q1 q2 => exact .cons q1 (Reps.append q2 h2)
theorem Reps.get : ∀ {ts : List T} {vs : List V} {i : Nat} {t : T}, Reps G H S ts vs → ts[i]? = some t → ∃ v, vs[i]? = some v ∧ Rep G H S t v
  | [], _, _, _, _, e => by simp at e
  | _ :: _, _, 0, _, h, e => by
    cases h with
    | cons q1 _ =>
      simp at e
      subst e
      exact ⟨_, rfl, q1⟩
  | _ :: _, _, i + 1, _, h, e => by
    cases h with
    | cons _ q2 =>
      obtain ⟨v, h1, h2⟩ := Reps.get (i := i) q2 (by simpa using e)
      exact ⟨v, by simpa using h1, h2⟩
theorem Reps.set {t : T} {v : V} (r : Rep G H S t v) : ∀ {ts : List T} {vs : List V} (i : Nat), Reps G H S ts vs → Reps G H S (ts.set i t) (vs.set i v)
  | [], _, _, h => by cases h; exact .nil
  | _ :: _, _, 0, h => by
    cases h with
    | cons _ q2 => exact .cons r q2
  | _ :: _, _, i + 1, h => by
    cases h with
    | cons q1 q2 => exact .cons q1 (Reps.set r i q2)
theorem Reps.take : ∀ {ts : List T} {vs : List V} (n : Nat), Reps G H S ts vs → Reps G H S (ts.take n) (vs.take n)
  | _, _, 0, _ => .nil
  | [], _, _ + 1, h => by cases h; exact .nil
  | _ :: _, _, n + 1, h => by
    cases h with
    | cons q1 q2 => exact .cons q1 (Reps.take n q2)
theorem Reps.drop : ∀ {ts : List T} {vs : List V} (n : Nat), Reps G H S ts vs → Reps G H S (ts.drop n) (vs.drop n)
  | _, _, 0, h => h
  | [], _, _ + 1, h => by cases h; exact .nil
  | _ :: _, _, n + 1, h => by
    cases h with
    | cons _ q2 => exact Reps.drop n q2
end
abbrev Gd.mask (G : Gd) (M : Addr → Prop) : Gd := { G with M := M }
section
variable {G : Gd} {H : Hp} {S : Sto} {M : Addr → Prop}
theorem At.mask {a : Addr} {u : HO} (k : ∀ a u, Rd H a u → ¬ G.M a → ¬ M a) (h : At G.M H S a u) : At (G.mask M).M H S a u := ⟨h.1, h.2.1, k a u h.1 h.2.2⟩
mutual
theorem Rep.mask (k : ∀ a u, Rd H a u → ¬ G.M a → ¬ M a) : ∀ (t : T) (v : V), Rep G H S t v → Rep (G.mask M) H S t v
  | .non, _, h => by cases h; exact .non
  | .bl _, _, h => by cases h; exact .bl _
  | .int _, _, h => by cases h; exact .int _
  | .str _, _, h => by cases h; exact .str _
  | .ref _, _, h => by cases h; exact .ref _
  | .fn _, _, h => by cases h; exact .fn _
  | .scr _, _, h => by
    cases h with
    | scr h1 => exact .scr (h1.imp (fun ⟨o, z1, z2, z3⟩ => ⟨o, z1, z2, k _ _ (.inl z1) z3⟩) id)
  | .tup ts, _, h => by
    cases h with
    | tup h1 h2 => exact .tup (h1.elim (fun ⟨o, z, s, m⟩ => .inl ⟨o, z, s, k _ _ (.inl z.1) m⟩) .inr) (Reps.mask k ts _ h2)
  | .lst ts, _, h => by
    cases h with
    | lst h1 h2 => exact .lst ⟨h1.1, h1.2.1, k _ _ (.inl h1.1) h1.2.2⟩ (Reps.mask k ts _ h2)
  | .exc c ns ts, _, h => by
    cases h with
    | exc0 h1 => exact .exc0 (h1.mask k)
    | exc1 h1 h2 h3 h4 => exact .exc1 (h1.mask k) (h2.mask k) h3 (Reps.mask k ts _ h4)
  | .dct b ks vs, _, h => by
    cases h with
    | dK h1 h2 h3 => exact .dK (h1.mask k) (Reps.mask k ks _ h2) (Reps.mask k vs _ h3)
    | dN h1 h2 h3 h4 => exact .dN (h1.mask k) h2 (Reps.mask k ks _ h3) (Reps.mask k vs _ h4)
  | .obj c ns ts, _, h => by
    cases h with
    | obj h1 h2 h3 => exact .obj ⟨h1.1, h1.2.1, k _ _ (.inl h1.1) h1.2.2⟩ h2 (Reps.mask k ts _ h3)
  | .clo .., _, h => by
    cases h with
    | clo h1 h2 h3 => exact .clo (h1.mask k) (h2.mask k) (Reps.mask k _ _ h3)
theorem Reps.mask (k : ∀ a u, Rd H a u → ¬ G.M a → ¬ M a) : ∀ (ts : List T) (vs : List V), Reps G H S ts vs → Reps (G.mask M) H S ts vs
  | [], _, h => by cases h; exact .nil
  | t :: ts, _, h => by
    cases h with
    | cons h1 h2 => exact .cons (Rep.mask k t _ h1) (Reps.mask k ts _ h2)
end
theorem CellOk.mask (k : ∀ a u, Rd H a u → ¬ G.M a → ¬ M a) {a : Addr} {c : Cell} (q : CellOk G H S a c) : CellOk (G.mask M) H S a c := by
  cases c with
  | lst ts =>
    obtain ⟨xs, h1, h2⟩ := q
    exact ⟨xs, h1, Reps.mask k _ _ h2⟩
  | dct b ks vs =>
    cases b with
    | false =>
      obtain ⟨kvs, h1, h2, h3⟩ := q
      exact ⟨kvs, h1, Reps.mask k _ _ h2, Reps.mask k _ _ h3⟩
    | true =>
      obtain ⟨es, h1, h2, h3, h4⟩ := q
      exact ⟨es, h1, h2, Reps.mask k _ _ h3, Reps.mask k _ _ h4⟩
  | ins c ns ts =>
    obtain ⟨d, xs, h1, h2, h3⟩ := q
    exact ⟨d, xs, h1, h2, Reps.mask k _ _ h3⟩
  | tab z =>
    obtain ⟨ps, h1, h2, h3⟩ := q
    exact ⟨ps, h1, h2, fun pos cv hc => let ⟨c, e1, e2⟩ := h3 pos cv hc; ⟨c, e1, e2.mask k⟩⟩
/-- the mask put on a new object, and taken off -/
theorem StoOk.putOn {D : Addr} {o : HO} (h : StoOk G H S) (n : H D = none) : StoOk (G.mask fun a => G.M a ∨ a = D) (upd H D o) S := by
  have k : ∀ a u, Rd H a u → ¬ G.M a → ¬ (G.M a ∨ a = D) := fun a u r m z => z.elim m fun e => Rd.ne n r e
  refine ⟨fun a c e => ((h.at_ a c e).mask k).ext (Ext.new n) (upd_ne fun z => ?_), fun a m => ?_, fun a m => ?_⟩
  · subst z
    rw [h.free n] at e
    cases e
  · rcases m with m | m
    · exact upd_some (h.msk a m)
    · rw [m, upd_same]
      exact fun z => nomatch z
  · rcases m with m | m
    · exact h.sep a m
    · rw [m]
      exact h.free n
theorem StoOk.takeOff {M' : Addr → Prop} (h : StoOk (G.mask M') H S) (k : ∀ a, G.M a → M' a) : StoOk G H S :=
  ⟨fun a c e => (h.at_ a c e).mask (M := G.M) fun a _ _ n m => n (k a m), fun a m => h.msk a (k a m), fun a m => h.sep a (k a m)⟩
theorem Reps.takeOff {M' : Addr → Prop} {ts : List T} {vs : List V} (h : Reps (G.mask M') H S ts vs) (k : ∀ a, G.M a → M' a) : Reps G H S ts vs := Reps.mask (G := G.mask M') (M := G.M) (fun a _ _ n m => n (k a m)) _ _ h
theorem Rep.takeOff {M' : Addr → Prop} {t : T} {v : V} (h : Rep (G.mask M') H S t v) (k : ∀ a, G.M a → M' a) : Rep G H S t v := Rep.mask (G := G.mask M') (M := G.M) (fun a _ _ n m => n (k a m)) _ _ h
/-- a masked object is written -/
theorem StoOk.at {p : Addr} {o : HO} (h : StoOk G H S) (m : G.M p) (n : S p = none) : StoOk G (upd H p o) S := ⟨fun a c e =>
  (h.at_ a c e).extM (ExtM.at m) (upd_ne fun z => by subst z; rw [n] at e; cases e), fun a m => upd_some (h.msk a m), h.sep⟩
end
end TL
namespace TL
open PySem PySem.Spec PyProof.Rows L2
abbrev TTE := TEnv → Sto → (T → Sto → Prop) → (T → Sto → Prop) → Prop
abbrev TTA := TEnv → Sto → (List T → Sto → Prop) → (T → Sto → Prop) → Prop
abbrev TTB := TEnv → Sto → (Bool → Sto → Prop) → (T → Sto → Prop) → Prop
structure TD where
  nx : TEnv → Sto → Prop
  rt : T → Sto → Prop
  bk : TEnv → Sto → Prop := fun _ _ => False
  ct : TEnv → Sto → Prop := fun _ _ => False
abbrev TTS := TD → TEnv → Sto → (T → TEnv → Sto → Prop) → Prop

abbrev gdOf (X : Cx) (M : Addr → Prop) : Gd := ⟨X.prog, X.K, X.w, M⟩
def EnvR (G : Gd) (H : Hp) (S : Sto) (σ : L2.St) (τ : TEnv) : Prop := σ.length = τ.length ∧ ∀ (i : Nat) (t : T), τ[i]? = some (some t) → ∃ v, σ[i]? = some (some v) ∧ Rep G H S t v
/-- a state and its trees; S0, H0: at the def's entry -/
structure Rel (G : Gd) (S0 : Sto) (H0 : Hp) (σ : L2.St) (H : Hp) (τ : TEnv) (S : Sto) : Prop where
  env : EnvR G H S σ τ
  sto : StoOk G H S
  ext : Ext S0 H0 S H
/-- an exception that flies -/
def ExcIs (G : Gd) (H : Hp) (S : Sto) (x : T) (cls : Value) (d : Option Addr) : Prop :=
  ∃ c ns ts, x = .exc c ns ts ∧ cls = .ref (He.ga G.K c) ∧ ((ns = [] ∧ ts = [] ∧ d = none) ∨ ∃ da xs, d = some da ∧ At G.M H S da (.xd (ns.zip xs)) ∧ ns.length = xs.length ∧ Reps G H S ts xs)
def wOf (X : Cx) (M : Addr → Prop) (S0 : Sto) (H0 : Hp) (E : T → TEnv → Sto → Prop) : WX := fun cls d σ H => ∃ τ S x, Rel (gdOf X M) S0 H0 σ H τ S ∧ ExcIs (gdOf X M) H S x cls d ∧ E x τ S

abbrev Takes (X : Cx) (W : WX) : Prop := L2N.Takes X W
theorem Takes.imp {X : Cx} {W W' : WX} (t : Takes X W) (h : ∀ c d σ H, W' c d σ H → W c d σ H) : Takes X W' := L2N.Takes.imp t h
theorem takes0 {X : Cx} : Takes X (fun _ _ _ _ => False) := fun _ _ x => by
  obtain ⟨_, _, _, _, _, _, _, _, _, _, _, _, _, _, _, _, z⟩ := x
  exact z.elim

section
variable {G : Gd} {S0 S S' : Sto} {H0 H H' : Hp} {σ : L2.St} {τ : TEnv}
theorem EnvR.ext (h : EnvR G H S σ τ) (x : Ext S H S' H') : EnvR G H' S' σ τ := ⟨h.1, fun i t e => let ⟨v, h1, h2⟩ := h.2 i t e; ⟨v, h1, Rep.ext x t v h2⟩⟩
theorem Rel.step (r : Rel G S0 H0 σ H τ S) (h : StoOk G H' S') (x : Ext S H S' H') : Rel G S0 H0 σ H' τ S' := ⟨r.env.ext x, h, r.ext.trans x⟩
theorem Rel.set {i : Nat} {t : T} {v : V} (r : Rel G S0 H0 σ H τ S) (h : Rep G H S t v) : Rel G S0 H0 (σ.set i (some v)) H (τ.set i (some t)) S := by
  refine ⟨⟨by rw [List.length_set, List.length_set]; exact r.env.1, fun j u e => ?_⟩, r.sto, r.ext⟩
  have l := r.env.1
  by_cases hj : i = j
  · subst hj
    have hi : i < τ.length := by
      have z := (List.getElem?_eq_some_iff.mp e).1
      rwa [List.length_set] at z
    rw [List.getElem?_set_self hi] at e
    cases e
    exact ⟨v, List.getElem?_set_self (by omega), h⟩
  · rw [List.getElem?_set_ne hj] at e
    obtain ⟨w, h1, h2⟩ := r.env.2 j u e
    exact ⟨w, by rw [List.getElem?_set_ne hj]; exact h1, h2⟩
end
def LE (X : Cx) (M : Addr → Prop) (S0 : Sto) (H0 : Hp) (t : TTE) (E : T → TEnv → Sto → Prop) : L2.TE := fun σ H Q => ∃ τ S Qt, Rel (gdOf X M) S0 H0 σ H τ S ∧ t τ S Qt (fun x S' => E x τ S') ∧
  ∀ z S' v H', Qt z S' → StoOk (gdOf X M) H' S' → Ext S H S' H' → Rep (gdOf X M) H' S' z v → Q v H'
def LB (X : Cx) (M : Addr → Prop) (S0 : Sto) (H0 : Hp) (t : TTB) (E : T → TEnv → Sto → Prop) : L2.TT := fun σ H Q => ∃ τ S Qt, Rel (gdOf X M) S0 H0 σ H τ S ∧ t τ S Qt (fun x S' => E x τ S') ∧
  ∀ b S' H', Qt b S' → StoOk (gdOf X M) H' S' → Ext S H S' H' → Q b H'
def LA (X : Cx) (M : Addr → Prop) (S0 : Sto) (H0 : Hp) (t : TTA) (E : T → TEnv → Sto → Prop) : L2.TA := fun σ H Q => ∃ τ S Qt, Rel (gdOf X M) S0 H0 σ H τ S ∧ t τ S Qt (fun x S' => E x τ S') ∧
  ∀ zs S' vs H', Qt zs S' → StoOk (gdOf X M) H' S' → Ext S H S' H' → Reps (gdOf X M) H' S' zs vs → Q vs H'
def LS (X : Cx) (M : Addr → Prop) (S0 : Sto) (H0 : Hp) (t : TTS) (E : T → TEnv → Sto → Prop) : L2.TS := fun D σ H => ∃ τ S B, Rel (gdOf X M) S0 H0 σ H τ S ∧ t B τ S E ∧
  (∀ σ' H' τ' S', Rel (gdOf X M) S0 H0 σ' H' τ' S' → Ext S H S' H' → B.nx τ' S' → D.nx σ' H') ∧ (∀ z S' v H', StoOk (gdOf X M) H' S' → Ext S H S' H' → Rep (gdOf X M) H' S' z v → B.rt z S' → D.rt v H') ∧
  (∀ σ' H' τ' S', Rel (gdOf X M) S0 H0 σ' H' τ' S' → Ext S H S' H' → B.bk τ' S' → D.bk σ' H') ∧ (∀ σ' H' τ' S', Rel (gdOf X M) S0 H0 σ' H' τ' S' → Ext S H S' H' → B.ct τ' S' → D.ct σ' H')

/-- e reads as t -/
def TE (X : Cx) (e : Expr) (t : TTE) : Prop := ∀ M S0 H0 E, Takes X (wOf X M S0 H0 E) → PE X e (LE X M S0 H0 t E)
def TB (X : Cx) (e : Expr) (t : TTB) : Prop := ∀ M S0 H0 E, Takes X (wOf X M S0 H0 E) → PT X e (LB X M S0 H0 t E)
def TW (X : Cx) (e : Expr) (t : TTB) : Prop := ∀ M S0 H0 E, Takes X (wOf X M S0 H0 E) → PW X e (LB X M S0 H0 t E)
def TA (X : Cx) (es : List Expr) (t : TTA) : Prop := ∀ M S0 H0 E, Takes X (wOf X M S0 H0 E) → PA X es (LA X M S0 H0 t E)
def TS (X : Cx) (s : Stmt) (t : TTS) : Prop := ∀ M S0 H0 E, Takes X (wOf X M S0 H0 E) → PS X s (LS X M S0 H0 t E)
def TSs (X : Cx) (s : List Stmt) (t : TTS) : Prop := ∀ M S0 H0 E, Takes X (wOf X M S0 H0 E) → PSs X s (LS X M S0 H0 t E)

theorem _root_.L2.PE.weak {X : Cx} {e : Expr} {t u : L2.TE} (h : PE X e t) (k : ∀ σ H Q, u σ H Q → t σ H Q) : PE X e u := ⟨fun pins s σ H Q I q => h.run pins s σ H Q I (k _ _ _ q)⟩
theorem _root_.L2.PT.weak {X : Cx} {e : Expr} {t u : L2.TT} (h : PT X e t) (k : ∀ σ H Q, u σ H Q → t σ H Q) : PT X e u := ⟨fun pins s σ H Q I q => h.run pins s σ H Q I (k _ _ _ q)⟩
theorem _root_.L2.PW.weak {X : Cx} {e : Expr} {t u : L2.TT} (h : PW X e t) (k : ∀ σ H Q, u σ H Q → t σ H Q) : PW X e u := ⟨fun wh pins s σ H Q I q => h.run wh pins s σ H Q I (k _ _ _ q)⟩
theorem _root_.L2.PA.weak {X : Cx} {es : List Expr} {t u : L2.TA} (h : PA X es t) (k : ∀ σ H Q, u σ H Q → t σ H Q) : PA X es u := ⟨fun pos pins s σ H Q I q => h.run pos pins s σ H Q I (k _ _ _ q)⟩
theorem _root_.L2.PS.weak {X : Cx} {s : Stmt} {t u : L2.TS} (h : PS X s t) (k : ∀ D σ H, u D σ H → t D σ H) : PS X s u := ⟨fun pins s σ H D I q => h.run pins s σ H D I (k _ _ _ q)⟩
theorem _root_.L2.PSs.weak {X : Cx} {s : List Stmt} {t u : L2.TS} (h : PSs X s t) (k : ∀ D σ H, u D σ H → t D σ H) : PSs X s u := ⟨fun pins s σ H D I q => h.run pins s σ H D I (k _ _ _ q)⟩

def cVar (i : Nat) : TTE := fun τ S Q _ => ∃ t, τ[i]? = some (some t) ∧ Q t S
def cC (t : T) : TTE := fun _ S Q _ => Q t S
def cOp (op : Sto → T → T → Option T) (a b : TTE) : TTE := fun τ S Q E => a τ S (fun x S1 => b τ S1 (fun y S2 => ∃ z, op S2 x y = some z ∧ Q z S2) E) E
def cUn (op : Sto → T → Option T) (a : TTE) : TTE := fun τ S Q E => a τ S (fun x S1 => ∃ z, op S1 x = some z ∧ Q z S1) E
def cIf (c : TTB) (a b : TTE) : TTE := fun τ S Q E => c τ S (fun k S1 => if k = true then a τ S1 Q E else b τ S1 Q E) E
def cNil : TTA := fun _ S Q _ => Q [] S
def cCons (a : TTE) (r : TTA) : TTA := fun τ S Q E => a τ S (fun x S1 => r τ S1 (fun xs S2 => Q (x :: xs) S2) E) E
def cTup (a : TTA) : TTE := fun τ S Q E => a τ S (fun xs S1 => xs.length ≤ sizeLine ∧ Q (.tup xs) S1) E
def cLst (a : TTA) : TTE := fun τ S Q E => a τ S (fun xs S1 => xs.length ≤ sizeLine ∧ Q (.lst xs) S1) E
def cLstM (a : TTA) : TTE := fun τ S Q E => a τ S (fun xs S1 => xs.length ≤ sizeLine ∧ ∀ p, S1 p = none → Q (.ref p) (ups S1 p (.lst xs))) E
def bVal (a : TTE) : TTB := fun τ S Q E => a τ S (fun x S1 => ∃ b, x = .bl b ∧ Q b S1) E
def bAnd (a b : TTB) : TTB := fun τ S Q E => a τ S (fun k S1 => if k = true then b τ S1 Q E else Q false S1) E
def bOr (a b : TTB) : TTB := fun τ S Q E => a τ S (fun k S1 => if k = true then Q true S1 else b τ S1 Q E) E
def bNot (a : TTB) : TTB := fun τ S Q E => a τ S (fun k S1 => Q (!k) S1) E
/-- and, or, not of truths as values -/
def cAnd (a b : TTE) : TTE := fun τ S Q E => a τ S (fun x S1 => ∃ k, x = .bl k ∧ if k = true then b τ S1 Q E else Q (.bl false) S1) E
def cOr (a b : TTE) : TTE := fun τ S Q E => a τ S (fun x S1 => ∃ k, x = .bl k ∧ if k = true then Q (.bl true) S1 else b τ S1 Q E) E
def cNot (a : TTE) : TTE := fun τ S Q E => a τ S (fun x S1 => ∃ k, x = .bl k ∧ Q (.bl (!k)) S1) E

section
variable {X : Cx} {S0 : Sto} {H0 : Hp} {e a b : Expr} {es : List Expr} {ta tb : TTE} {tA tB : TTB} {tr : TTA} {pos : Pos}
theorem te_var {i : Nat} {x : Str} (hN : X.N[i]? = some x) (hv : Vis X.env.scope x) (hd : (x == ("__debug__" : Str)) = false := by decide) (hcd : (x == ("__classdict__" : Str)) = false := by decide) : TE X (.Name x pos) (cVar i) := fun M S0 H0 E tk =>
  (pe_var hN hv hd hcd).weak fun σ H Q ⟨τ, S, Qt, r, ⟨t, e, h⟩, k⟩ => let ⟨v, h1, h2⟩ := r.env.2 i t e; ⟨v, h1, k t S v H h r.sto Ext.refl h2⟩
theorem te_const {t : T} {v : V} (h : PE X e (tC v)) (hr : ∀ M H S, Rep (gdOf X M) H S t v) : TE X e (cC t) := fun M S0 H0 E tk =>
  h.weak fun σ H Q ⟨τ, S, Qt, r, h, k⟩ => k t S v H h r.sto Ext.refl (hr M H S)
theorem te_int {i j} : TE X (.Constant (.int i) j pos) (cC (.int i)) := te_const pe_int fun _ _ _ => .int i
theorem te_bl {i j} : TE X (.Constant (.bool i) j pos) (cC (.bl i)) := te_const pe_bl fun _ _ _ => .bl i
/-- a written text's signs -/
def q (s : Str) : List Sg := s.cps.toList.map fun c => ⟨c % 128, Nat.mod_lt _ (by decide)⟩
theorem te_str {x : Str} {j} (h : txt (q x) = x := by decide +kernel) : TE X (.Constant (.str x) j pos) (cC (.str (q x))) := te_const pe_str fun M H S => by
  have r := Rep.str (G := gdOf X M) (H := H) (S := S) (q x)
  rw [h] at r
  exact r

/-- an operation on trees -/
def OpT (X : Cx) (f : Value → Value → Sem Value) (op : Sto → T → T → Option T) : Prop :=
  OpR X f fun x y H Q => ∃ M S tx ty t, StoOk (gdOf X M) H S ∧ Rep (gdOf X M) H S tx x ∧ Rep (gdOf X M) H S ty y ∧ op S tx ty = some t ∧ ∀ v H', StoOk (gdOf X M) H' S → Ext S H S H' → Rep (gdOf X M) H' S t v → Q v H'
def UnT (X : Cx) (f : Value → Sem Value) (op : Sto → T → Option T) : Prop :=
  UnR X f fun x H Q => ∃ M S tx t, StoOk (gdOf X M) H S ∧ Rep (gdOf X M) H S tx x ∧ op S tx = some t ∧ ∀ v H', StoOk (gdOf X M) H' S → Ext S H S H' → Rep (gdOf X M) H' S t v → Q v H'
/-- two expressions in a row -/
theorem two {r : R2} {M : Addr → Prop} {op : Sto → T → T → Option T} {E : T → TEnv → Sto → Prop} {σ : L2.St} {H : Hp} {Q : VK}
    (hr : ∀ x y H Q, (∃ M S tx ty t, StoOk (gdOf X M) H S ∧ Rep (gdOf X M) H S tx x ∧ Rep (gdOf X M) H S ty y ∧ op S tx ty = some t ∧ ∀ v H', StoOk (gdOf X M) H' S → Ext S H S H' → Rep (gdOf X M) H' S t v → Q v H') → r x y H Q)
    (h : LE X M S0 H0 (cOp op ta tb) E σ H Q) : tOp r (LE X M S0 H0 ta E) (LE X M S0 H0 tb E) σ H Q := by
  obtain ⟨τ, S, Qt, rel, h, k⟩ := h
  refine ⟨τ, S, _, rel, h, fun zx S1 x H1 hb o1 x1 r1 => ⟨τ, S1, _, rel.step o1 x1, hb, fun zy S2 y H2 hz o2 x2 r2 => hr _ _ _ _ ?_⟩⟩
  obtain ⟨z, e, hq⟩ := hz
  exact ⟨M, S2, zx, zy, z, o2, Rep.ext x2 _ _ r1, r2, e, fun v H' o3 x3 r3 => k z S2 v H' hq o3 ((x1.trans x2).trans x3) r3⟩
theorem te_bin {op : Operator} {f : Sto → T → T → Option T} (ho : OpT X (binaryOp op) f) (ha : TE X a ta) (hb : TE X b tb) : TE X (.BinOp a op b pos) (cOp f ta tb) := fun M S0 H0 E tk =>
  (pe_op ho (ha M S0 H0 E tk) (hb M S0 H0 E tk)).weak fun _ _ _ h => two (fun _ _ _ _ z => z) h
theorem te_cmp {op : CmpOp} {f : Sto → T → T → Option T} (ho : OpT X (compareOp op) f) (ha : TE X a ta) (hb : TE X b tb) (hm : behindInMarks op b = false) : TE X (.Compare a [op] [b] pos) (cOp f ta tb) := fun M S0 H0 E tk =>
  (pe_cmpR ho (ha M S0 H0 E tk) (hb M S0 H0 E tk) hm).weak fun _ _ _ h => two (fun _ _ _ _ z => z) h
theorem te_un {op : UnaryOp} {f : Sto → T → Option T} (ho : UnT X (unaryOp op) f) (ha : TE X a ta) : TE X (.UnaryOp op a pos) (cUn f ta) := fun M S0 H0 E tk =>
  (pe_un ho (ha M S0 H0 E tk)).weak fun σ H Q ⟨τ, S, Qt, rel, h, k⟩ => ⟨τ, S, _, rel, h, fun zx S1 x H1 ⟨z, e, hq⟩ o1 x1 r1 => ⟨M, S1, zx, z, o1, r1, e, fun v H' o3 x3 r3 => k z S1 v H' hq o3 (x1.trans x3) r3⟩⟩
/-- a truth as a test -/
theorem tb_val (ha : TE X a ta) (he : ∀ whole, isTrue a X.env whole = (do let v ← whole; standAt a.pos; holding [v] (truthy v)) := by intro _; rfl) : TB X a (bVal ta) := fun M S0 H0 E tk =>
  (pt_val (ha M S0 H0 E tk) he).weak fun σ H Q ⟨τ, S, Qt, rel, h, k⟩ => ⟨τ, S, _, rel, h, fun zx S1 x H1 ⟨b, e, hq⟩ o1 x1 r1 => by
    subst e
    cases r1
    exact ⟨b, rfl, k b S1 H1 hq o1 x1⟩⟩
theorem tb_cmp {op : CmpOp} {f : Sto → T → T → Option T} (ho : OpT X (compareOp op) f) (ha : TE X a ta) (hb : TE X b tb) (hm : behindInMarks op b = false) : TB X (.Compare a [op] [b] pos) (bVal (cOp f ta tb)) := fun M S0 H0 E tk =>
  (pt_cmpR ho (ha M S0 H0 E tk) (hb M S0 H0 E tk) hm).weak fun σ H Q ⟨τ, S, Qt, rel, h, k⟩ => two (S0 := S0) (H0 := H0) (fun _ _ _ _ z => z) ⟨τ, S, _, rel, h, fun zx S1 x H1 ⟨b, e, hq⟩ o1 x1 r1 => by
    subst e
    cases r1
    exact ⟨b, rfl, k b S1 H1 hq o1 x1⟩⟩
theorem TW.toB (h : TW X a tA) : TB X a tA := fun M S0 H0 E tk => (h M S0 H0 E tk).pt
theorem tw_and1 (ha : TB X a tA) : TW X (.BoolOp .And [a] pos) tA := fun M S0 H0 E tk => pw_and1 (ha M S0 H0 E tk)
theorem tw_and {rest : List Expr} (ha : TB X a tA) (hb : TW X (.BoolOp .And (b :: rest) pos) tB) : TW X (.BoolOp .And (a :: b :: rest) pos) (bAnd tA tB) := fun M S0 H0 E tk =>
  (pw_and (ha M S0 H0 E tk) (hb M S0 H0 E tk)).weak fun σ H Q ⟨τ, S, Qt, rel, h, k⟩ => ⟨τ, S, _, rel, h, fun c S1 H1 hq o1 x1 => by
    cases c with
    | true => exact ⟨τ, S1, _, rel.step o1 x1, hq, fun d S2 H2 hq2 o2 x2 => k d S2 H2 hq2 o2 (x1.trans x2)⟩
    | false => exact k false S1 H1 hq o1 x1⟩
theorem te_one {op} (ha : TE X a ta) : TE X (.BoolOp op [a] pos) ta := fun M S0 H0 E tk => pe_one (ha M S0 H0 E tk)
theorem te_and {rest : List Expr} (ha : TE X a ta) (hb : TE X (.BoolOp .And (b :: rest) pos) tb) : TE X (.BoolOp .And (a :: b :: rest) pos) (cAnd ta tb) := fun M S0 H0 E tk =>
  (pe_and (ha M S0 H0 E tk) (hb M S0 H0 E tk)).weak fun σ H Q ⟨τ, S, Qt, rel, h, k⟩ => ⟨τ, S, _, rel, h, fun z S1 v H1 ⟨c, e, hq⟩ o1 x1 r1 => by
    subst e
    cases r1
    cases c with
    | true => exact ⟨true, rfl, τ, S1, _, rel.step o1 x1, hq, fun d S2 v H2 hq2 o2 x2 r2 => k d S2 v H2 hq2 o2 (x1.trans x2) r2⟩
    | false => exact ⟨false, rfl, k (.bl false) S1 _ H1 hq o1 x1 (.bl _)⟩⟩
theorem ta_nil : TA X [] cNil := fun M S0 H0 E tk => pa_nil.weak fun σ H Q ⟨τ, S, Qt, rel, h, k⟩ => k [] S [] H h rel.sto Ext.refl .nil
theorem ta_cons (ha : TE X e ta) (hr : TA X es tr) (hs : starEach (e :: es) X.env = (false, eval e X.env) :: starEach es X.env := by rfl) : TA X (e :: es) (cCons ta tr) := fun M S0 H0 E tk =>
  (pa_cons (ha M S0 H0 E tk) (hr M S0 H0 E tk) hs).weak fun σ H Q ⟨τ, S, Qt, rel, h, k⟩ => ⟨τ, S, _, rel, h, fun z S1 v H1 hq o1 x1 r1 =>
    ⟨τ, S1, _, rel.step o1 x1, hq, fun zs S2 vs H2 hq2 o2 x2 r2 => k (z :: zs) S2 (v :: vs) H2 hq2 o2 (x1.trans x2) (.cons (Rep.ext x2 _ _ r1) r2)⟩⟩
theorem te_tup {k} (h : TA X es tr) : TE X (.Tuple es k pos) (cTup tr) := fun M S0 H0 E tk =>
  (pe_tupF (h M S0 H0 E tk)).weak fun σ H Q ⟨τ, S, Qt, rel, h, k⟩ => ⟨τ, S, _, rel, h, fun zs S1 vs H1 ⟨hl, hq⟩ o1 x1 r1 =>
    ⟨by rw [← r1.length]; exact hl, fun p o n d => k (.tup zs) S1 (.ref p) _ hq (o1.new n) (x1.trans (Ext.new n)) (.tup (.inl ⟨o, ⟨upd_same, d⟩, o1.free n, o1.nom n⟩) (Reps.ext (Ext.new n) _ _ r1))⟩⟩
theorem te_lst (h : TA X es tr) : TE X (.List es pos) (cLst tr) := fun M S0 H0 E tk =>
  (pe_lst (h M S0 H0 E tk)).weak fun σ H Q ⟨τ, S, Qt, rel, h, k⟩ => ⟨τ, S, _, rel, h, fun zs S1 vs H1 ⟨hl, hq⟩ o1 x1 r1 =>
    ⟨by rw [← r1.length]; exact hl, fun p n => k (.lst zs) S1 (.ref p) _ hq (o1.new n) (x1.trans (Ext.new n)) (.lst ⟨upd_same, o1.free n, o1.nom n⟩ (Reps.ext (Ext.new n) _ _ r1))⟩⟩
theorem te_lstM (h : TA X es tr) : TE X (.List es pos) (cLstM tr) := fun M S0 H0 E tk =>
  (pe_lst (h M S0 H0 E tk)).weak fun σ H Q ⟨τ, S, Qt, rel, h, k⟩ => ⟨τ, S, _, rel, h, fun zs S1 vs H1 ⟨hl, hq⟩ o1 x1 r1 =>
    ⟨by rw [← r1.length]; exact hl, fun p n => k (.ref p) (ups S1 p (.lst zs)) (.ref p) _ (hq p (o1.free n)) (o1.cell (.inl n) ⟨vs, upd_same, Reps.ext (Ext.cell (.inl n)) _ _ r1⟩) (x1.trans (Ext.cell (.inl n))) (.ref p)⟩⟩
end
end TL
namespace TL
open PySem PySem.Spec PyProof.Rows L2
abbrev TTG := T → TEnv → Sto → (TEnv → Sto → Prop) → Prop
abbrev TTGs := List T → TEnv → Sto → (TEnv → Sto → Prop) → Prop
def LG (X : Cx) (M : Addr → Prop) (vs : List Nat) (S0 : Sto) (H0 : Hp) (g : TTG) : L2.TG := fun v σ H Q => ∃ τ S z Qt, Rel (gdOf X M) S0 H0 σ H τ S ∧ Rep (gdOf X M) H S z v ∧ g z τ S Qt ∧
  ∀ σ' H' τ' S', Rel (gdOf X M) S0 H0 σ' H' τ' S' → Ext S H S' H' → wipe σ' vs = wipe σ vs → Qt τ' S' → Q σ' H'
def LGs (X : Cx) (M : Addr → Prop) (vs : List Nat) (S0 : Sto) (H0 : Hp) (g : TTGs) : L2.TGs := fun xs σ H Q => ∃ τ S zs Qt, Rel (gdOf X M) S0 H0 σ H τ S ∧ Reps (gdOf X M) H S zs xs ∧ g zs τ S Qt ∧
  ∀ σ' H' τ' S', Rel (gdOf X M) S0 H0 σ' H' τ' S' → Ext S H S' H' → wipe σ' vs = wipe σ vs → Qt τ' S' → Q σ' H'
/-- a target; vs: the names that it may store -/
def TGt (X : Cx) (vs : List Nat) (e : Expr) (g : TTG) : Prop := ∀ M S0 H0 E, Takes X (wOf X M S0 H0 E) → PG X e (LG X M vs S0 H0 g)
def TGts (X : Cx) (vs : List Nat) (es : List Expr) (g : TTGs) : Prop := ∀ M S0 H0 E, Takes X (wOf X M S0 H0 E) → PGs X es (LGs X M vs S0 H0 g)
theorem _root_.L2.PG.weak {X : Cx} {e : Expr} {t u : L2.TG} (h : PG X e t) (k : ∀ v σ H Q, u v σ H Q → t v σ H Q) : PG X e u := ⟨fun pins s σ H v w Q I r q => h.run pins s σ H v w Q I r (k _ _ _ _ q)⟩
theorem _root_.L2.PGs.weak {X : Cx} {es : List Expr} {t u : L2.TGs} (h : PGs X es t) (k : ∀ v σ H Q, u v σ H Q → t v σ H Q) : PGs X es u := ⟨fun pins s σ H v w Q I r q => h.run pins s σ H v w Q I r (k _ _ _ _ q)⟩
theorem wipe_at {σ : L2.St} {i : Nat} : ∀ (vs : List Nat), (wipe σ vs)[i]? = if i ∈ vs then (σ[i]?).map (fun _ => none) else σ[i]?
  | [] => by simp [wipe]
  | v :: vs => by
    unfold wipe
    by_cases h : v = i
    · subst h
      rw [List.getElem?_set_self', wipe_at vs]
      by_cases hm : v ∈ vs
      · simp [hm]
        cases σ[v]? <;> rfl
      · simp [hm]
        rfl
    · rw [List.getElem?_set_ne h, wipe_at vs]
      have h' : ¬ i = v := fun e => h e.symm
      simp [h']
theorem wipe_set {σ : L2.St} {i : Nat} {x : Option V} (vs : List Nat) (h : i ∈ vs) : wipe (σ.set i x) vs = wipe σ vs := by
  apply List.ext_getElem?
  intro j
  rw [wipe_at, wipe_at]
  by_cases e : i = j
  · subst e
    rw [if_pos h, if_pos h, List.getElem?_set_self']
    cases σ[i]? <;> rfl
  · rw [List.getElem?_set_ne e]
def gN (i : Nat) : TTG := fun z τ S Q => Q (τ.set i (some z)) S
def gT (g : TTGs) : TTG := fun z τ S Q => ∃ zs, z = .tup zs ∧ g zs τ S Q
def gL (g : TTGs) : TTG := fun z τ S Q => ∃ zs, z = .lst zs ∧ g zs τ S Q
def gZ : TTGs := fun zs τ S Q => zs = [] ∧ Q τ S
def gC (g : TTG) (r : TTGs) : TTGs := fun zs τ S Q => ∃ z ys, zs = z :: ys ∧ g z τ S fun τ' S' => r ys τ' S' Q
section
variable {X : Cx} {vs : List Nat} {e : Expr} {es : List Expr} {g : TTG} {r : TTGs} {pos : Pos}
theorem tg_name {i : Nat} {x : Str} (hi : i ∈ vs) (hN : X.N.Nodup) (hx : X.N[i]? = some x) (hl : Loc X.env.scope x) (hf : X.fn x = true ∨ X.env.scope.names.lookup x = some .local := by first | exact .inl rfl | exact .inr rfl | assumption) : TGt X vs (.Name x pos) (gN i) := fun M S0 H0 E tk =>
  (pg_name hN hx hl hf).weak fun v σ H Q ⟨τ, S, z, Qt, rel, hz, h, k⟩ => k _ _ _ _ (rel.set hz) Ext.refl (wipe_set vs hi) h
theorem tgs_nil : TGts X vs [] gZ := fun M S0 H0 E tk => pgs_nil.weak fun v σ H Q ⟨τ, S, z, Qt, rel, hz, ⟨h0, h⟩, k⟩ => by
  subst h0
  cases hz
  exact ⟨rfl, k _ _ _ _ rel Ext.refl rfl h⟩
theorem tgs_cons (h1 : TGt X vs e g) (h2 : TGts X vs es r) (hs : (assignEach (e :: es) X.env).map (·.2) = assign e X.env :: (assignEach es X.env).map (·.2) := by rfl) : TGts X vs (e :: es) (gC g r) := fun M S0 H0 E tk =>
  (pgs_cons (h1 M S0 H0 E tk) (h2 M S0 H0 E tk) hs).weak fun v σ H Q ⟨τ, S, z, Qt, rel, hz, ⟨y, ys, h0, h⟩, k⟩ => by
    subst h0
    cases hz with
    | cons a b =>
      exact ⟨_, _, rfl, τ, S, y, _, rel, a, h, fun σ1 H1 τ1 S1 rel1 x1 w1 q1 => ⟨τ1, S1, ys, _, rel1, Reps.ext x1 _ _ b, q1, fun σ2 H2 τ2 S2 rel2 x2 w2 q2 => k _ _ _ _ rel2 (x1.trans x2) (w2.trans w1) q2⟩⟩
theorem tg_tup {k : Nat} {n : Nat} (hc : X.calm = true) (h : TGts X vs es r) (hn : (assignEach es X.env).length = n := by rfl) (hst : (assignEach es X.env).findIdx? (·.1) = none := by rfl)
    (hr : ∀ zs τ S Q, r zs τ S Q → zs.length = n := by intro zs τ S Q z; obtain ⟨_, _, rfl, z⟩ := z; first | (obtain ⟨rfl, _⟩ := z; rfl) | skip) : TGt X vs (.Tuple es k pos) (gT r) := fun M S0 H0 E tk =>
  (pg_tup hc (h M S0 H0 E tk) hn hst).weak fun v σ H Q ⟨τ, S, z, Qt, rel, hz, ⟨zs, h0, h⟩, k⟩ => by
    subst h0
    cases hz with
    | tup a b => exact ⟨_, _, rfl, a.sq, by rw [← b.length]; exact hr _ _ _ _ h, τ, S, zs, _, rel, b, h, k⟩
/-- how many things a row of targets takes -/
def takes (r : TTGs) (n : Nat) : Prop := ∀ zs τ S Q, r zs τ S Q → zs.length = n
theorem takes_z : takes gZ 0 := fun zs τ S Q h => by rw [h.1]; rfl
theorem takes_c {n : Nat} (h : ∀ zs τ S Q, r zs τ S Q → zs.length = n) : takes (gC (gN i) r) (n + 1) := fun zs τ S Q ⟨z, ys, e, q⟩ => by rw [e, List.length_cons, h _ _ _ _ q]
end
def cSkip : TTS := fun D τ S _ => D.nx τ S
def cSeq (t u : TTS) : TTS := fun D τ S E => t { D with nx := fun τ' S' => u D τ' S' E } τ S E
def cAsg (e : TTE) (g : TTG) : TTS := fun D τ S E => e τ S (fun z S' => g z τ S' D.nx) (fun x S' => E x τ S')
def cSet (i : Nat) (e : TTE) : TTS := fun D τ S E => e τ S (fun z S' => D.nx (τ.set i (some z)) S') (fun x S' => E x τ S')
def cRet (e : TTE) : TTS := fun D τ S E => e τ S D.rt (fun x S' => E x τ S')
def cRetN : TTS := fun D _ S _ => D.rt .non S
def cDo (e : TTE) : TTS := fun D τ S E => e τ S (fun _ S' => D.nx τ S') (fun x S' => E x τ S')
def cIfS (c : TTB) (a b : TTS) : TTS := fun D τ S E => c τ S (fun k S' => if k = true then a D τ S' E else b D τ S' E) (fun x S' => E x τ S')
def cPar2 (i j : Nat) (a b : TTE) : TTS := fun D τ S E => a τ S (fun x S1 => b τ S1 (fun y S2 => D.nx ((τ.set i (some x)).set j (some y)) S2) (fun x S' => E x τ S')) (fun x S' => E x τ S')
def cPar3 (i j l : Nat) (a b c : TTE) : TTS := fun D τ S E => a τ S (fun x S1 => b τ S1 (fun y S2 => c τ S2 (fun z S3 => D.nx (((τ.set i (some x)).set j (some y)).set l (some z)) S3) (fun x S' => E x τ S')) (fun x S' => E x τ S')) (fun x S' => E x τ S')
def cBrk : TTS := fun D τ S _ => D.bk τ S
def cCont : TTS := fun D τ S _ => D.ct τ S
def cWhile (c : TTB) (b : TTS) : TTS := fun D τ S E => ∃ W : Nat → TEnv → Sto → Prop, (∃ m, W m τ S) ∧ ∀ m τ S, W m τ S →
  c τ S (fun k S' => if k = true then b { D with nx := fun τ' S' => ∃ m', m' < m ∧ W m' τ' S', ct := fun τ' S' => ∃ m', m' < m ∧ W m' τ' S', bk := D.nx } τ S' E else D.nx τ S') (fun x S' => E x τ S')
section
variable {X : Cx} {st : Stmt} {rest body orelse : List Stmt} {t u : TTS} {e tg : Expr} {te ta tb tc : TTE} {tB : TTB} {g : TTG} {vs : List Nat} {pos : Pos}
theorem tss_nil : TSs X [] cSkip := fun M S0 H0 E tk => pss_nil.weak fun D σ H ⟨τ, S, B, rel, h, k, _⟩ => k _ _ _ _ rel Ext.refl h
theorem tss_cons (h : TS X st t) (hr : TSs X rest u) : TSs X (st :: rest) (cSeq t u) := fun M S0 H0 E tk =>
  (pss_cons (h M S0 H0 E tk) (hr M S0 H0 E tk)).weak fun D σ H ⟨τ, S, B, rel, h, k1, k2, k3, k4⟩ => ⟨τ, S, _, rel, h,
    fun σ1 H1 τ1 S1 rel1 x1 q => ⟨τ1, S1, B, rel1, q, fun σ2 H2 τ2 S2 rel2 x2 q2 => k1 _ _ _ _ rel2 (x1.trans x2) q2, fun z S2 v H2 o2 x2 r2 q2 => k2 z S2 v H2 o2 (x1.trans x2) r2 q2,
      fun σ2 H2 τ2 S2 rel2 x2 q2 => k3 _ _ _ _ rel2 (x1.trans x2) q2, fun σ2 H2 τ2 S2 rel2 x2 q2 => k4 _ _ _ _ rel2 (x1.trans x2) q2⟩, k2, k3, k4⟩
theorem ts_ret (h : TE X e te) : TS X (.Return (some e) pos) (cRet te) := fun M S0 H0 E tk => (ps_ret (h M S0 H0 E tk)).weak fun D σ H ⟨τ, S, B, rel, q, _, k, _⟩ =>
  ⟨τ, S, _, rel, q, fun z S1 v H1 hq o1 x1 r1 => k z S1 v H1 o1 x1 r1 hq⟩
theorem ts_do (h : TE X e te) (hs : swapsWith e none pos.line X.env = pure false := by rfl) : TS X (.Expr e pos) (cDo te) := fun M S0 H0 E tk => (ps_expr (h M S0 H0 E tk) hs).weak fun D σ H ⟨τ, S, B, rel, q, k, _⟩ =>
  ⟨τ, S, _, rel, q, fun z S1 v H1 hq o1 x1 r1 => k _ _ _ _ (rel.step o1 x1) x1 hq⟩
theorem ts_if {c : Expr} {a b : List Stmt} (hc : TB X c tB) (ha : TSs X a t) (hb : TSs X b u) : TS X (.If c a b pos) (cIfS tB t u) := fun M S0 H0 E tk => (ps_if (hc M S0 H0 E tk) (ha M S0 H0 E tk) (hb M S0 H0 E tk)).weak fun D σ H ⟨τ, S, B, rel, q, k1, k2, k3, k4⟩ =>
  ⟨τ, S, _, rel, q, fun c S1 H1 hq o1 x1 => by
    have fin : ∀ t : TTS, t B τ S1 E → LS X M S0 H0 t E D σ H1 := fun t h => ⟨τ, S1, B, rel.step o1 x1, h, fun σ2 H2 τ2 S2 rel2 x2 q2 => k1 _ _ _ _ rel2 (x1.trans x2) q2, fun z S2 v H2 o2 x2 r2 q2 => k2 z S2 v H2 o2 (x1.trans x2) r2 q2,
      fun σ2 H2 τ2 S2 rel2 x2 q2 => k3 _ _ _ _ rel2 (x1.trans x2) q2, fun σ2 H2 τ2 S2 rel2 x2 q2 => k4 _ _ _ _ rel2 (x1.trans x2) q2⟩
    cases c with
    | true => exact fin t hq
    | false => exact fin u hq⟩
theorem ts_set {i : Nat} {x : Str} {pos' : Pos} (hN : X.N.Nodup) (hi : X.N[i]? = some x) (hx : Loc X.env.scope x) (he : TE X e te) (hs : swapsWith e (some (.Name x pos')) pos.line X.env = pure false := by rfl) (hf : X.fn x = true ∨ X.env.scope.names.lookup x = some .local := by first | exact .inl rfl | exact .inr rfl | assumption) :
    TS X (.Assign [.Name x pos'] e pos) (cSet i te) := fun M S0 H0 E tk => (ps_set hN hi hx (he M S0 H0 E tk) hs hf).weak fun D σ H ⟨τ, S, B, rel, q, k, _⟩ =>
  ⟨τ, S, _, rel, q, fun z S1 v H1 hq o1 x1 r1 => k _ _ _ _ ((rel.step o1 x1).set r1) x1 hq⟩
theorem ts_asg (he : TE X e te) (hg : TGt X vs tg g) (hs : swapsWithSole [tg] e pos.line X.env = pure false := by rfl) (hw : swappedStores [tg] e X.env = pure none := by rfl)
    (h1 : (assignEach [tg] X.env).map (·.2) = [assign tg X.env] := by rfl) : TS X (.Assign [tg] e pos) (cAsg te g) := fun M S0 H0 E tk => (ps_asg (he M S0 H0 E tk) (hg M S0 H0 E tk) hs hw h1).weak fun D σ H ⟨τ, S, B, rel, q, k, _⟩ =>
  ⟨τ, S, _, rel, q, fun z S1 v H1 hq o1 x1 r1 => ⟨τ, S1, z, _, rel.step o1 x1, r1, hq, fun σ2 H2 τ2 S2 rel2 x2 _ q2 => k _ _ _ _ rel2 (x1.trans x2) q2⟩⟩
theorem ts_par3 {i j l : Nat} {x y z : Str} {a b c : Expr} {px py pz pt : Pos} {kt k2 pt2} (hc : X.calm = true) (hN : X.N.Nodup) (hi : X.N[i]? = some x) (hj : X.N[j]? = some y) (hl : X.N[l]? = some z) (hij : i ≠ j) (hil : i ≠ l) (hjl : j ≠ l)
    (hx : X.env.scope.names.lookup x = some .local) (hy : X.env.scope.names.lookup y = some .local) (hz : X.env.scope.names.lookup z = some .local) (ha : TA X [a, b, c] (cCons ta (cCons tb (cCons tc cNil))))
    (hw : swappedStores [.Tuple [.Name x px, .Name y py, .Name z pz] kt pt] (.Tuple [a, b, c] k2 pt2) X.env = pure (some [x, y, z]))
    (hs : swapsWithSole [.Tuple [.Name x px, .Name y py, .Name z pz] kt pt] (.Tuple [a, b, c] k2 pt2) pos.line X.env = pure false := by rfl) :
    TS X (.Assign [.Tuple [.Name x px, .Name y py, .Name z pz] kt pt] (.Tuple [a, b, c] k2 pt2) pos) (cPar3 i j l ta tb tc) := fun M S0 H0 E tk => (ps_par3 hc hN hi hj hl hij hil hjl hx hy hz (ha M S0 H0 E tk) hw hs).weak fun D σ H ⟨τ, S, B, rel, q, k, _⟩ =>
  ⟨τ, S, fun zs S2 => ∃ z1 z2 z3, zs = [z1, z2, z3] ∧ B.nx (((τ.set i (some z1)).set j (some z2)).set l (some z3)) S2, rel, by
      have e : ∀ (x y z : T) (S3 : Sto), (∃ z1 z2 z3, [x, y, z] = [z1, z2, z3] ∧ B.nx (((τ.set i (some z1)).set j (some z2)).set l (some z3)) S3) = B.nx (((τ.set i (some x)).set j (some y)).set l (some z)) S3 := fun x y z S3 => propext ⟨by
          rintro ⟨z1, z2, z3, e, h⟩
          injection e with e1 e2
          injection e2 with e2 e3
          injection e3 with e3 _
          subst e1 e2 e3
          exact h, fun h => ⟨x, y, z, rfl, h⟩⟩
      show ta τ S (fun x S1 => tb τ S1 (fun y S2 => tc τ S2 (fun z S3 => ∃ z1 z2 z3, [x, y, z] = [z1, z2, z3] ∧ B.nx (((τ.set i (some z1)).set j (some z2)).set l (some z3)) S3) fun x S' => E x τ S') fun x S' => E x τ S') fun x S' => E x τ S'
      simp only [e]
      exact q, fun zs S1 ws H1 hq o1 x1 r1 => by
    obtain ⟨z1, z2, z3, e, h⟩ := hq
    subst e
    cases r1 with
    | cons r1 r2 =>
      cases r2 with
      | cons r2 r3 =>
        cases r3 with
        | cons r3 r4 =>
          cases r4
          exact ⟨_, _, _, rfl, k _ _ _ _ ((((rel.step o1 x1).set r1).set r2).set r3) x1 h⟩⟩
theorem ts_while {c : Expr} (hp : PassesOwn (model X.prog X.w) X.A X.env X.xe) (hc : TB X c tB) (hb : TSs X body t) : TS X (.While c body [] pos) (cWhile tB t) := fun M S0 H0 E tk => (ps_while hp (hc M S0 H0 E tk) (hb M S0 H0 E tk)).weak fun D σ H ⟨τ, S, B, rel, ⟨W, ⟨m0, w0⟩, turn⟩, k1, k2, k3, k4⟩ => by
  let W' : Nat → L2.St → Hp → Prop := fun m σ' H' => ∃ τ' S', Rel (gdOf X M) S0 H0 σ' H' τ' S' ∧ Ext S H S' H' ∧ W m τ' S'
  refine ⟨W', ⟨m0, τ, S, rel, Ext.refl, w0⟩, ?_⟩
  rintro m σ1 H1 ⟨τ1, S1, rel1, x1, w1⟩
  refine ⟨τ1, S1, _, rel1, turn m τ1 S1 w1, fun k S2 H2 hq o2 x2 => ?_⟩
  cases k with
  | true =>
    refine ⟨fun σ' H' => ∃ m', m' < m ∧ W' m' σ' H', fun _ _ z => z, τ1, S2, _, rel1.step o2 x2, hq, ?_, fun z S3 v H3 o3 x3 r3 q3 => k2 z S3 v H3 o3 ((x1.trans x2).trans x3) r3 q3, fun σ3 H3 τ3 S3 rel3 x3 q3 => k1 _ _ _ _ rel3 ((x1.trans x2).trans x3) q3, ?_⟩
    · rintro σ3 H3 τ3 S3 rel3 x3 ⟨m', hm, q3⟩
      exact ⟨m', hm, τ3, S3, rel3, (x1.trans x2).trans x3, q3⟩
    · rintro σ3 H3 τ3 S3 rel3 x3 ⟨m', hm, q3⟩
      exact ⟨m', hm, τ3, S3, rel3, (x1.trans x2).trans x3, q3⟩
  | false => exact k1 _ _ _ _ (rel1.step o2 x2) (x1.trans x2) hq
end
end TL
namespace TL
open PySem PySem.Spec PyProof.Rows L2
/-- the iterator J hands out the trees xs while gd holds of the store -/
structure Wks (G : Gd) (J : It) (xs : List T) (gd : Sto → Prop) (S1 : Sto) (H1 : Hp) : Prop where
  go : ∀ (M' : Addr → Prop) S H i z, (∀ a, M' a → ¬ G.M a → H1 a = none) → StoOk (G.mask M') H S → Ext S1 H1 S H → gd S → xs[i]? = some z → J.go i H ∧ ∀ x H', J.yld i H x H' → StoOk (G.mask M') H' S ∧ Ext S H S H' ∧ Rep (G.mask M') H' S z x
  stop : ∀ (M' : Addr → Prop) S H, StoOk (G.mask M') H S → Ext S1 H1 S H → gd S → J.stop xs.length H
abbrev TTI := TEnv → Sto → (List T → (Sto → Prop) → Sto → Prop) → (T → Sto → Prop) → Prop
def LI (X : Cx) (M : Addr → Prop) (S0 : Sto) (H0 : Hp) (t : TTI) (E : T → TEnv → Sto → Prop) : L2.TI := fun σ H R => ∃ τ S Qt, Rel (gdOf X M) S0 H0 σ H τ S ∧ t τ S Qt (fun x S' => E x τ S') ∧
  ∀ xs gd S' J H', Qt xs gd S' → StoOk (gdOf X M) H' S' → Ext S H S' H' → Wks (gdOf X M) J xs gd S' H' → R J H'
def TI (X : Cx) (tg e : Expr) (t : TTI) : Prop := ∀ M S0 H0 E, Takes X (wOf X M S0 H0 E) → PI X tg e (LI X M S0 H0 t E)

def yes : Sto → Prop := fun _ => True
def items (S : Sto) : T → Option (List T × (Sto → Prop))
  | .tup xs => some (xs, yes)
  | .lst xs => some (xs, yes)
  | .str x => some (x.map (fun c => .str [c]), yes)
  | .ref a => match S a with
    | some (.lst xs) => some (xs, fun S' => S' a = some (.lst xs))
    | _ => none
  | _ => none
section
variable {X : Cx} {tg e : Expr}
def iAny (K : PySem.W.Frag) (tl : L2.TE) : L2.TI := fun σ H R => tl σ H fun x H1 => (∃ a xs, x = .ref a ∧ SqL K H1 a xs ∧ R (Itl K a) H1) ∨ (∃ a xs, x = .ref a ∧ SqT K H1 a xs ∧ R (Itt K a) H1) ∨ ∃ y, x = .str y ∧ R (Its y) H1
theorem pi_any {tl : L2.TE} (hl : PE X e tl) : PI X tg e (iAny X.K tl) := by
  constructor
  intro pins s σ H R I h
  refine thn (hl.run pins s σ H _ I h) fun v s1 q1 => ?_
  obtain ⟨x, H1, I1, r1, q1⟩ := q1
  rcases q1 with ⟨a, xs, rfl, hq, q⟩ | ⟨a, xs, rfl, hq, q⟩ | ⟨y, rfl, q⟩
  · obtain rfl : v = .ref a := r1
    obtain ⟨its, _, p, _⟩ := I1.list hq
    exact wpAny_pyIter_list p.isList (pi_one (tk := s1.toks) I1 _ (turn_list a _) ⟨_, Heap.get?_push_size _ rfl, rfl, rfl⟩ q)
  · obtain rfl : v = .ref a := r1
    obtain ⟨its, _, p, _⟩ := I1.tuple hq
    exact wpAny_pyIter_tuple p (pi_one (tk := s1.toks) I1 _ (turn_tuple a _) ⟨_, Heap.get?_push_size _ rfl, rfl, rfl⟩ q)
  · obtain ⟨t, rfl⟩ := r1
    cases ha : y.cps.all (· < 128) with
    | false => exact wpAny_pyIter_wide ha (pi_one (tk := s1.toks) I1 _ (turn_str _ y t "str_iterator" (Or.inr rfl)) ⟨_, Heap.get?_push_size _ rfl, rfl, rfl⟩ q)
    | true => exact wpAny_pyIter_ascii ha (pi_one (tk := s1.toks) I1 _ (turn_str _ y t "str_ascii_iterator" (Or.inl rfl)) ⟨_, Heap.get?_push_size _ rfl, rfl, rfl⟩ q)
end
section
variable {G : Gd} {S1 : Sto} {H1 : Hp}
theorem newK {M' : Addr → Prop} (k : ∀ a, M' a → ¬ G.M a → H1 a = none) : ∀ a u, Rd H1 a u → ¬ G.M a → ¬ M' a := fun a u r m z => by
  have n := k a z m
  rcases r with r | ⟨_, r⟩ <;> rw [n] at r <;> cases r
theorem wks_list {a : Addr} {ws : List V} {ts : List T} (h : LstAt G H1 S1 a ws) (r : Reps G H1 S1 ts ws) : Wks G (Itl G.K a) ts yes S1 H1 where
  go := fun M' S H i z nk o x _ hz => by
    have q := (h.ext x).sq
    obtain ⟨v, h1, h2⟩ := (Reps.ext x _ _ (Reps.mask (newK nk) _ _ r)).get hz
    refine ⟨⟨ws, v, q, h1⟩, ?_⟩
    rintro y H' ⟨rfl, hy⟩
    obtain rfl : v = y := Option.some.inj (h1.symm.trans (hy ws q))
    exact ⟨o, Ext.refl, h2⟩
  stop := fun M' S H o x _ => ⟨ws, (h.ext x).sq, by rw [r.length]; exact Nat.le_refl _⟩
theorem wks_tup {a : Addr} {ws : List V} {ts : List T} (h : TupAt G H1 S1 a ws) (r : Reps G H1 S1 ts ws) : Wks G (Itt G.K a) ts yes S1 H1 where
  go := fun M' S H i z nk o x _ hz => by
    have q := (h.ext x).sq
    obtain ⟨v, h1, h2⟩ := (Reps.ext x _ _ (Reps.mask (newK nk) _ _ r)).get hz
    refine ⟨⟨ws, v, q, h1⟩, ?_⟩
    rintro y H' ⟨rfl, hy⟩
    obtain rfl : v = y := Option.some.inj (h1.symm.trans (hy ws q))
    exact ⟨o, Ext.refl, h2⟩
  stop := fun M' S H o x _ => ⟨ws, (h.ext x).sq, by rw [r.length]; exact Nat.le_refl _⟩
theorem wks_cell {a : Addr} {ts : List T} : Wks G (Itl G.K a) ts (fun S' => S' a = some (.lst ts)) S1 H1 where
  go := fun M' S H i z nk o x hg hz => by
    obtain ⟨ws, hw, r⟩ := o.at_ a _ hg
    obtain ⟨v, h1, h2⟩ := r.get hz
    have q : SqL G.K H a ws := SqL.of hw
    refine ⟨⟨ws, v, q, h1⟩, ?_⟩
    rintro y H' ⟨rfl, hy⟩
    obtain rfl : v = y := Option.some.inj (h1.symm.trans (hy ws q))
    exact ⟨o, Ext.refl, h2⟩
  stop := fun M' S H o x hg => by
    obtain ⟨ws, hw, r⟩ := o.at_ a _ hg
    exact ⟨ws, SqL.of hw, by rw [r.length]; exact Nat.le_refl _⟩
theorem wks_str {x : List Sg} : Wks G (Its (txt x)) (x.map fun c => T.str [c]) yes S1 H1 where
  go := fun M' S H i z nk o _ _ hz => by
    rw [List.getElem?_map] at hz
    cases hc : x[i]? with
    | none => rw [hc] at hz; cases hz
    | some c =>
      rw [hc] at hz
      obtain rfl : T.str [c] = z := Option.some.inj hz
      refine ⟨?_, ?_⟩
      · show i < (x.map (·.val)).toArray.size
        have := (List.getElem?_eq_some_iff.mp hc).1
        simpa using this
      rintro y H' ⟨rfl, d, hd, rfl⟩
      obtain rfl : c.val = d := by
        have hd' : ((x.map (·.val)).toArray)[i]? = some d := hd
        rw [List.getElem?_toArray, List.getElem?_map, hc] at hd'
        exact Option.some.inj hd'
      exact ⟨o, Ext.refl, .str [c]⟩
  stop := fun M' S H o _ _ => by
    show ((x.map (·.val)).toArray).size ≤ (x.map fun c => T.str [c]).length
    simp
theorem wks_range {lo : Int} {n : Nat} : Wks G (Itr lo n) ((List.range n).map fun i => T.int (lo + (i : Nat))) yes S1 H1 where
  go := fun M' S H i z nk o _ _ hz => by
    rw [List.getElem?_map] at hz
    cases hc : (List.range n)[i]? with
    | none => rw [hc] at hz; cases hz
    | some c =>
      rw [hc] at hz
      have hi : i < n := by
        have := (List.getElem?_eq_some_iff.mp hc).1
        simpa using this
      have hci : i = c := by
        rw [List.getElem?_range hi] at hc
        exact Option.some.inj hc
      subst hci
      obtain rfl : T.int (lo + (i : Nat)) = z := Option.some.inj hz
      refine ⟨hi, ?_⟩
      rintro y H' ⟨rfl, rfl⟩
      exact ⟨o, Ext.refl, .int _⟩
  stop := fun M' S H o _ _ => by
    show n ≤ ((List.range n).map fun i => T.int (lo + (i : Nat))).length
    simp
end
/-- what is walked of a value -/
def iSeq (e : TTE) : TTI := fun τ S Q E => e τ S (fun x S1 => ∃ p, items S1 x = some p ∧ Q p.1 p.2 S1) E
def iRange1 (a : TTE) : TTI := fun τ S Q E => a τ S (fun x S1 => ∃ j : Int, x = .int j ∧ -(2 ^ 62) ≤ j ∧ j < 2 ^ 62 ∧ Q ((List.range j.toNat).map fun i => T.int (0 + (i : Nat))) yes S1) E
def iRange2 (a b : TTE) : TTI := fun τ S Q E => a τ S (fun x S1 => b τ S1 (fun y S2 => ∃ i j : Int, x = .int i ∧ y = .int j ∧ (-(2 ^ 62) ≤ i ∧ i < 2 ^ 62 ∧ -(2 ^ 62) ≤ j ∧ j < 2 ^ 62) ∧ Q ((List.range (j - i).toNat).map fun k => T.int (i + (k : Nat))) yes S2) E) E
theorem _root_.L2.PI.weak {X : Cx} {tg e : Expr} {t u : L2.TI} (h : PI X tg e t) (k : ∀ σ H R, u σ H R → t σ H R) : PI X tg e u := ⟨fun pins s σ H R I q => h.run pins s σ H R I (k _ _ _ q)⟩
section
variable {X : Cx} {tg e a b : Expr} {te ta tb : TTE} {p pos : Pos}
theorem ti_seq (h : TE X e te) : TI X tg e (iSeq te) := fun M S0 H0 E tk => (pi_any (h M S0 H0 E tk)).weak fun σ H R ⟨τ, S, Qt, rel, q, k⟩ => ⟨τ, S, _, rel, q, fun z S1 v H1 ⟨pr, hp, hq⟩ o1 x1 r1 => by
  cases r1 with
  | tup h1 h2 =>
    obtain rfl := Option.some.inj hp
    exact .inr (.inl ⟨_, _, rfl, h1.sq, k _ _ S1 _ H1 hq o1 x1 (wks_tup h1 h2)⟩)
  | lst h1 h2 =>
    obtain rfl := Option.some.inj hp
    exact .inl ⟨_, _, rfl, h1.sq, k _ _ S1 _ H1 hq o1 x1 (wks_list h1 h2)⟩
  | str y =>
    obtain rfl := Option.some.inj hp
    exact .inr (.inr ⟨_, rfl, k _ _ S1 _ H1 hq o1 x1 wks_str⟩)
  | ref a =>
    cases hs : S1 a with
    | none => simp [items, hs] at hp
    | some c =>
      cases c with
      | lst ts =>
        simp only [items, hs] at hp
        obtain rfl := Option.some.inj hp
        obtain ⟨ws, hw, r⟩ := o1.at_ a _ hs
        exact .inl ⟨a, ws, rfl, SqL.of hw, k _ _ S1 _ H1 hq o1 x1 wks_cell⟩
      | dct _ _ _ => simp [items, hs] at hp
      | ins _ _ _ => simp [items, hs] at hp
      | tab _ => simp [items, hs] at hp
  | _ => cases hp⟩
theorem ti_range1 (hg : Gl X "range") (hm : X.mg "range" = none) (ha : TE X a ta) (hs : starEach [a] X.env = [(false, eval a X.env)] := by rfl) : TI X tg (.Call (.Name "range" p) [a] [] pos) (iRange1 ta) := fun M S0 H0 E tk =>
  (pi_range1 hg hm (ta_cons ha ta_nil hs M S0 H0 E tk) hs).weak fun σ H R ⟨τ, S, Qt, rel, q, k⟩ => ⟨τ, S, fun zs S1 => ∃ j : Int, zs = [.int j] ∧ -(2 ^ 62) ≤ j ∧ j < 2 ^ 62 ∧ Qt ((List.range j.toNat).map fun i => T.int (0 + (i : Nat))) yes S1, rel, by
    have e : (fun (x : T) (S1 : Sto) => ∃ j : Int, [x] = [T.int j] ∧ -(2 ^ 62) ≤ j ∧ j < 2 ^ 62 ∧ Qt ((List.range j.toNat).map fun i => T.int (0 + (i : Nat))) yes S1) = fun (x : T) (S1 : Sto) => ∃ j : Int, x = .int j ∧ -(2 ^ 62) ≤ j ∧ j < 2 ^ 62 ∧ Qt ((List.range j.toNat).map fun i => T.int (0 + (i : Nat))) yes S1 := by
      funext x S1
      simp only [List.cons.injEq, and_true]
    show ta τ S (fun (x : T) (S1 : Sto) => ∃ j : Int, [x] = [T.int j] ∧ -(2 ^ 62) ≤ j ∧ j < 2 ^ 62 ∧ Qt ((List.range j.toNat).map fun i => T.int (0 + (i : Nat))) yes S1) fun x S' => E x τ S'
    rw [e]
    exact q, fun zs S1 vs H1 hq o1 x1 r1 => by
    obtain ⟨j, rfl, h1, h2, hq⟩ := hq
    cases r1 with
    | cons r1 r2 =>
      cases r2
      cases r1
      exact ⟨j, rfl, h1, h2, k _ _ S1 _ H1 hq o1 x1 wks_range⟩⟩
theorem ti_range2 (hg : Gl X "range") (hm : X.mg "range" = none) (ha : TE X a ta) (hb : TE X b tb) (hs : starEach [a, b] X.env = [(false, eval a X.env), (false, eval b X.env)] := by rfl) (hs2 : starEach [b] X.env = [(false, eval b X.env)] := by rfl) : TI X tg (.Call (.Name "range" p) [a, b] [] pos) (iRange2 ta tb) := fun M S0 H0 E tk =>
  (pi_range2 hg hm (ta_cons ha (ta_cons hb ta_nil hs2) (by rw [hs, hs2]) M S0 H0 E tk) hs hs2).weak fun σ H R ⟨τ, S, Qt, rel, q, k⟩ => ⟨τ, S, fun zs S1 => ∃ i j : Int, zs = [.int i, .int j] ∧ (-(2 ^ 62) ≤ i ∧ i < 2 ^ 62 ∧ -(2 ^ 62) ≤ j ∧ j < 2 ^ 62) ∧ Qt ((List.range (j - i).toNat).map fun k => T.int (i + (k : Nat))) yes S1, rel, by
    have e : ∀ (x y : T) (S2 : Sto), (∃ i j : Int, [x, y] = [T.int i, T.int j] ∧ (-(2 ^ 62) ≤ i ∧ i < 2 ^ 62 ∧ -(2 ^ 62) ≤ j ∧ j < 2 ^ 62) ∧ Qt ((List.range (j - i).toNat).map fun k => T.int (i + (k : Nat))) yes S2) = ∃ i j : Int, x = .int i ∧ y = .int j ∧ (-(2 ^ 62) ≤ i ∧ i < 2 ^ 62 ∧ -(2 ^ 62) ≤ j ∧ j < 2 ^ 62) ∧ Qt ((List.range (j - i).toNat).map fun k => T.int (i + (k : Nat))) yes S2 := fun x y S2 => by
      simp only [List.cons.injEq, and_true, and_assoc]
    show ta τ S (fun x S1 => tb τ S1 (fun y S2 => ∃ i j : Int, [x, y] = [T.int i, T.int j] ∧ (-(2 ^ 62) ≤ i ∧ i < 2 ^ 62 ∧ -(2 ^ 62) ≤ j ∧ j < 2 ^ 62) ∧ Qt ((List.range (j - i).toNat).map fun k => T.int (i + (k : Nat))) yes S2) fun x S' => E x τ S') fun x S' => E x τ S'
    simp only [e]
    exact q, fun zs S1 vs H1 hq o1 x1 r1 => by
    obtain ⟨i, j, rfl, h1, hq⟩ := hq
    cases r1 with
    | cons r1 r2 =>
      cases r2 with
      | cons r2 r3 =>
        cases r3
        cases r1
        cases r2
        exact ⟨i, j, rfl, h1, k _ _ S1 _ H1 hq o1 x1 wks_range⟩⟩
end
def forT (g : TTG) (b : TTS) (gd : Sto → Prop) (D : TD) (E : T → TEnv → Sto → Prop) : List T → TEnv → Sto → Prop
  | [], τ, S => gd S ∧ D.nx τ S
  | x :: xs, τ, S => gd S ∧ g x τ S fun τ1 S1 => b { D with nx := forT g b gd D E xs, ct := forT g b gd D E xs, bk := D.nx } τ1 S1 E
def cFor (it : TTI) (g : TTG) (b : TTS) : TTS := fun D τ S E => it τ S (fun xs gd S1 => forT g b gd D E xs τ S1) (fun x S' => E x τ S')
section
variable {X : Cx} {tg iter : Expr} {body : List Stmt} {ti : TTI} {g : TTG} {t : TTS} {vs : List Nat} {pos : Pos}
theorem ts_for (hp : PassesOwn (model X.prog X.w) X.A X.env X.xe) (hc : X.calm = true) (hi : TI X tg iter ti) (hg : TGt X vs tg g) (hb : TSs X body t) (hs : ∀ x, foldedSetIterable iter X.env x = pure x := by intro _; rfl) :
    TS X (.For tg iter body [] pos) (cFor ti g t) := fun M S0 H0 E tk => (ps_for hp hc (hi M S0 H0 E tk) (hg M S0 H0 E tk) (hb M S0 H0 E tk) hs).weak fun D σ H ⟨τ, S, B, rel, q, k1, k2, k3, k4⟩ => by
  refine ⟨τ, S, _, rel, q, fun xs gd S1 J H1 hq o1 x1 wk => ?_⟩
  let W : Nat → Nat → L2.St → Hp → Prop := fun i m σ' H' => m = xs.length - i ∧ i ≤ xs.length ∧ ∃ τ' S', Rel (gdOf X M) S0 H0 σ' H' τ' S' ∧ Ext S1 H1 S' H' ∧ forT g t gd B E (xs.drop i) τ' S'
  refine ⟨W, ⟨xs.length, by simp, Nat.zero_le _, τ, S1, rel.step o1 x1, Ext.refl, hq⟩, ?_⟩
  rintro i m σ2 H2 ⟨rfl, hi, τ2, S2, rel2, x2, q2⟩
  by_cases hlt : i < xs.length
  · rw [List.drop_eq_getElem_cons hlt] at q2
    obtain ⟨hgd, q2⟩ := q2
    obtain ⟨hgo, hy⟩ := wk.go M S2 H2 i xs[i] (fun a h n => absurd h n) rel2.sto x2 hgd (List.getElem?_eq_getElem hlt)
    refine .inr ⟨hgo, W (i + 1) (xs.length - (i + 1)), fun σ' H' w => ⟨_, by omega, w⟩, fun x H' y => ?_⟩
    obtain ⟨o3, x3, r3⟩ := hy x H' y
    refine ⟨τ2, S2, xs[i], _, rel2.step o3 x3, r3, q2, fun σ4 H4 τ4 S4 rel4 x4 _ q4 => ?_⟩
    have xx : Ext S1 H1 S4 H4 := (x2.trans x3).trans x4
    refine ⟨τ4, S4, _, rel4, q4, fun σ5 H5 τ5 S5 rel5 x5 q5 => ⟨rfl, hlt, τ5, S5, rel5, xx.trans x5, q5⟩, fun z S5 v H5 o5 x5 r5 q5 => k2 z S5 v H5 o5 (x1.trans (xx.trans x5)) r5 q5,
      fun σ5 H5 τ5 S5 rel5 x5 q5 => k1 _ _ _ _ rel5 (x1.trans (xx.trans x5)) q5, fun σ5 H5 τ5 S5 rel5 x5 q5 => ⟨rfl, hlt, τ5, S5, rel5, xx.trans x5, q5⟩⟩
  · have e : i = xs.length := by omega
    subst e
    rw [List.drop_length] at q2
    exact .inl ⟨wk.stop M S2 H2 rel2.sto x2 q2.1, k1 _ _ _ _ rel2 (x1.trans x2) q2.2⟩
end
def wipeT (τ : TEnv) : List Nat → TEnv
  | [] => τ
  | v :: vs => (wipeT τ vs).set v none
def compT (g : TTG) (c : TTB) (e : TTE) (own : List Nat) (gd : Sto → Prop) (τ : TEnv) (K : List T → Sto → Prop) : List T → List T → Sto → Prop
  | [], acc, S => gd S ∧ K acc S
  | x :: xs, acc, S => gd S ∧ g x (wipeT τ own) S fun τ1 S1 => c τ1 S1 (fun k S2 => if k = true then e τ1 S2 (fun y S3 => acc.length < sizeLine ∧ compT g c e own gd τ K xs (acc ++ [y]) S3) (fun _ _ => False)
    else compT g c e own gd τ K xs acc S2) (fun _ _ => False)
def cComp (it : TTI) (g : TTG) (c : TTB) (e : TTE) (own : List Nat) : TTE := fun τ S Q E => it τ S (fun xs gd S1 => compT g c e own gd τ (fun zs S2 => Q (.lst zs) S2) xs [] S1) E
def bYes : TTB := fun _ S Q _ => Q true S
section
variable {G : Gd} {H : Hp} {S : Sto}
theorem EnvR.wipe {σ : L2.St} {τ : TEnv} (h : EnvR G H S σ τ) (vs : List Nat) : EnvR G H S (wipe σ vs) (wipeT τ vs) := by
  induction vs with
  | nil => exact h
  | cons v vs ih =>
    refine ⟨?_, fun i t e => ?_⟩
    · show ((L2.wipe σ vs).set v none).length = ((wipeT τ vs).set v none).length
      rw [List.length_set, List.length_set]
      exact ih.1
    · have e' : ((wipeT τ vs).set v none)[i]? = some (some t) := e
      by_cases hv : v = i
      · subst hv
        rw [List.getElem?_set_self'] at e'
        cases q : (wipeT τ vs)[v]? with
        | none => rw [q] at e'; cases e'
        | some z => rw [q] at e'; cases e'
      · rw [List.getElem?_set_ne hv] at e'
        obtain ⟨w, h1, h2⟩ := ih.2 i t e'
        refine ⟨w, ?_, h2⟩
        show ((L2.wipe σ vs).set v none)[i]? = some (some w)
        rw [List.getElem?_set_ne hv]
        exact h1
end
def TBs (X : Cx) (ifs : List Expr) (t : TTB) : Prop := ∀ M S0 H0 E, Takes X (wOf X M S0 H0 E) → PTs X ifs (LB X M S0 H0 t E)
theorem tbs_nil {X : Cx} : TBs X [] bYes := fun M S0 H0 E tk => ⟨fun pins s σ H Q I ⟨τ, S, Qt, rel, h, k⟩ => pts_nil.run pins s σ H Q I (k true S H h rel.sto Ext.refl)⟩
theorem tbs_one {X : Cx} {c : Expr} {t : TTB} (h : TB X c t) : TBs X [c] t := fun M S0 H0 E tk => pts_one (h M S0 H0 E tk)
theorem takes_blk {X : Cx} {s : Shared} {H : Hp} {scope : Scope} {env : Env} {fp : List Addr} {M : Addr → Prop} {S0 : Sto} {H0 : Hp} : Takes (X.blk s H scope env fp) (wOf (X.blk s H scope env fp) M S0 H0 fun _ _ _ => False) := takes0.imp fun c d σ H ⟨_, _, _, _, _, z⟩ => z.elim
/-- E is never: within a block nothing is let out -/
abbrev EN : T → TEnv → Sto → Prop := fun _ _ _ => False
/-- the mask with one more -/
def also (M : Addr → Prop) (D : Addr) : Addr → Prop := fun a => M a ∨ a = D
/-- readings whose mask is chosen where they begin -/
def XG (X : Cx) (vs : List Nat) (S0 : Sto) (H0 : Hp) (g : TTG) : L2.TG := fun v σ H Q => ∃ M, LG X M vs S0 H0 g v σ H Q
def XB (X : Cx) (S0 : Sto) (H0 : Hp) (t : TTB) : L2.TT := fun σ H Q => ∃ M, LB X M S0 H0 t EN σ H Q
def XE' (X : Cx) (S0 : Sto) (H0 : Hp) (t : TTE) : L2.TE := fun σ H Q => ∃ M, LE X M S0 H0 t EN σ H Q
section
variable {X : Cx} {elt tg iter : Expr} {ifs : List Expr} {scope : Scope} {own : List Nat} {ti : TTI} {g : TTG} {tc : TTB} {te : TTE} {pos spos py : Pos}
/-- the comprehension's reading from its tree -/
theorem comp_read {M : Addr → Prop} {S0 : Sto} {H0 : Hp} {E : T → TEnv → Sto → Prop} {σ : L2.St} {H : Hp} {Q : VK} {τ : TEnv} {S : Sto} (Kt : List T → Sto → Prop) (rel : Rel (gdOf X M) S0 H0 σ H τ S)
    (h : ti τ S (fun xs gd S1 => compT g tc te own gd τ Kt xs [] S1) (fun x S' => E x τ S'))
    (fin : ∀ zs S2 D H2 vs, Kt zs S2 → StoOk (gdOf X (also M D)) H2 S2 → Ext S H S2 H2 → H2 D = some (.lst vs) → S2 D = none → ¬ M D → (∀ c, Ext S H (ups S2 D c) H2) → Reps (gdOf X (also M D)) H2 S2 zs vs → Q (.ref D) H2) :
    tLc (LI X M S0 H0 ti E) (XG X own S0 H0 g) (XB X S0 H0 tc) (XE' X S0 H0 te) own σ H Q := by
  refine ⟨τ, S, _, rel, h, fun xs gd S1 J H1 hq o1 x1 wk D hD => ?_⟩
  have xD : Ext S1 H1 S1 (upd H1 D (.lst [])) := Ext.new hD
  let W : Nat → Nat → Hp → Prop := fun i m H' => m = xs.length - i ∧ i ≤ xs.length ∧ ∃ S' acc vs, StoOk (gdOf X (also M D)) H' S' ∧ Ext S1 H1 S' H' ∧ H' D = some (.lst vs) ∧ S' D = none ∧ Reps (gdOf X (also M D)) H' S' acc vs ∧ compT g tc te own gd τ Kt (xs.drop i) acc S'
  have oD : StoOk (gdOf X (also M D)) (upd H1 D (.lst [])) S1 := o1.putOn hD
  refine ⟨W, ⟨xs.length, by simp, Nat.zero_le _, S1, [], [], oD, xD, upd_same, o1.free hD, .nil, hq⟩, ?_⟩
  rintro i m H2 ⟨rfl, hi, S2, acc, vs, o2, x2, hD2, nD2, ra, q2⟩
  by_cases hlt : i < xs.length
  · rw [List.drop_eq_getElem_cons hlt] at q2
    obtain ⟨hgd, q2⟩ := q2
    obtain ⟨hgo, hy⟩ := wk.go (also M D) S2 H2 i xs[i] (fun a h n => h.elim (fun h => absurd h n) fun e => e ▸ hD) o2 x2 hgd (List.getElem?_eq_getElem hlt)
    refine .inr ⟨hgo, W (i + 1) (xs.length - (i + 1)), fun H' w => ⟨_, by omega, w⟩, fun x H' y => ?_⟩
    obtain ⟨o3, x3, r3⟩ := hy x H' y
    have d3 := x3.exact hD2 nD2
    have a3 := Reps.ext x3 _ _ ra
    have x13 := x2.trans x3
    have envD : EnvR (gdOf X (also M D)) H1 S1 σ τ := ⟨rel.env.1, fun j t e => by
      obtain ⟨v, h1, h2⟩ := (rel.env.ext x1).2 j t e
      exact ⟨v, h1, Rep.mask (M := also M D) (fun a u r m z => z.elim m fun e => Rd.ne hD r e) _ _ h2⟩⟩
    have relW : Rel (gdOf X (also M D)) S0 H0 (wipe σ own) H' (wipeT τ own) S2 := ⟨(envD.ext x13).wipe _, o3, rel.ext.trans (x1.trans x13)⟩
    refine ⟨also M D, _, S2, xs[i], _, relW, r3, q2, fun σ4 H4 τ4 S4 rel4 x4 w4 q4 => ⟨?_, ?_⟩⟩
    · rw [w4]
      apply List.ext_getElem?
      intro j
      rw [wipe_at, wipe_at]
      by_cases hj : j ∈ own
      · rw [if_pos hj, if_pos hj]
        cases σ[j]? <;> rfl
      · rw [if_neg hj, if_neg hj]
    · refine ⟨also M D, τ4, S4, _, rel4, q4, fun b S5 H5 q5 o5 x5 => ?_⟩
      have x35 := x4.trans x5
      have d5 := x35.exact d3.1 d3.2
      have a5 := Reps.ext x35 _ _ a3
      cases b with
      | false => exact ⟨rfl, hlt, S5, acc, vs, o5, x13.trans x35, d5.1, d5.2, a5, q5⟩
      | true =>
        refine ⟨also M D, τ4, S5, _, rel4.step o5 x5, q5, fun z S6 v H6 q6 o6 x6 r6 => ?_⟩
        obtain ⟨hz, q6⟩ := q6
        have d6 := x6.exact d5.1 d5.2
        have a6 := Reps.ext x6 _ _ a5
        have mD : (gdOf X (also M D)).M D := .inr rfl
        refine ⟨vs, d6.1, by rw [← a6.length]; exact hz, rfl, hlt, S6, acc ++ [z], vs ++ [v], o6.at mD d6.2, ?_, upd_same, d6.2, (Reps.extM (ExtM.at mD) _ _ a6).append (.cons (Rep.extM (ExtM.at mD) _ _ r6) .nil), q6⟩
        have x16 := (x13.trans x35).trans x6
        exact fun b u n => ⟨fun h f => let w := (x16 b u n).1 h f; ⟨(upd_ne fun e => ne_of_none h hD e).trans w.1, w.2⟩, fun h f => let w := (x16 b u n).2 h f; ⟨Rd.upd (Rd.ne hD h) w.1, w.2⟩⟩
  · have e : i = xs.length := by omega
    subst e
    rw [List.drop_length] at q2
    exact .inl ⟨wk.stop (also M D) S2 H2 o2 x2 q2.1, fin _ _ _ _ _ q2.2 o2 (x1.trans x2) hD2 nD2 (o1.nom hD) (fun c b u n => ⟨fun h f => let w := (x1 b u n).1 h f; let z := (x2 b u w.2).1 w.1 f; ⟨z.1, (ups_ne (ne_of_none w.1 hD)).trans z.2⟩, fun h f => let w := (x1 b u n).2 h f; let z := (x2 b u w.2).2 w.1 f; ⟨z.1, (ups_ne (Rd.ne hD w.1)).trans z.2⟩⟩) ra⟩
/-- the block's parts, as judged within -/
theorem blk_g {vs : List Nat} {S0 : Sto} {H0 : Hp} {Y : Cx} (h : TGt Y vs tg g) (tk : ∀ M, Takes Y (wOf Y M S0 H0 EN)) : PG Y tg (XG Y vs S0 H0 g) :=
  ⟨fun pins s σ H v u Q I r ⟨M, q⟩ => (h M S0 H0 EN (tk M)).run pins s σ H v u Q I r q⟩
theorem blk_t {S0 : Sto} {H0 : Hp} {Y : Cx} (h : TBs Y ifs tc) (tk : ∀ M, Takes Y (wOf Y M S0 H0 EN)) : PTs Y ifs (XB Y S0 H0 tc) :=
  ⟨fun pins s σ H Q I ⟨M, q⟩ => (h M S0 H0 EN (tk M)).run pins s σ H Q I q⟩
theorem blk_e {S0 : Sto} {H0 : Hp} {Y : Cx} (h : TE Y elt te) (tk : ∀ M, Takes Y (wOf Y M S0 H0 EN)) : PE Y elt (XE' Y S0 H0 te) :=
  ⟨fun pins s σ H Q I ⟨M, q⟩ => (h M S0 H0 EN (tk M)).run pins s σ H Q I q⟩
abbrev Blk (X : Cx) (scope : Scope) (F : Cx → Prop) : Prop := ∀ (s : Shared) (H : Hp) (C : Addr) (cl : List (Str × Addr)) (fp : List Addr), F (X.blk s H scope (compEnvC scope cl C X.env) fp)
variable {ow : List (Str × Nat)}
theorem te_comp (hc : X.calm = true) (hN : X.N.Nodup) (hi : TI X tg iter ti) (ok : BlkOk X.N X.env.scope scope ow) (hg : Blk X scope fun Y => TGt Y (ow.map (·.2)) tg g) (ht : Blk X scope fun Y => TBs Y ifs tc) (he : Blk X scope fun Y => TE Y elt te)
    (hs : ∀ x, foldedSetIterable iter X.env x = pure x := by intro _; rfl) : TE X (.ListComp elt [⟨tg, iter, ifs, 0⟩] scope pos) (cComp ti g tc te (ow.map (·.2))) := fun M S0 H0 E tk =>
  (pe_lc hc hN (hi M S0 H0 E tk) ok (fun s H C cl fp => blk_g (hg s H C cl fp) fun _ => takes_blk) (fun s H C cl fp => blk_t (ht s H C cl fp) fun _ => takes_blk) (fun s H C cl fp => blk_e (he s H C cl fp) fun _ => takes_blk) hs).weak
    fun σ H Q ⟨τ, S, Qt, rel, h, k⟩ => comp_read _ rel h fun zs S2 D H2 vs q o2 x2 hD nD nM xD r => k (.lst zs) S2 (.ref D) H2 q (o2.takeOff fun _ m => .inl m) x2 (.lst ⟨hD, nD, nM⟩ (r.takeOff fun _ m => .inl m))
/-- name = [..], the name a local -/
theorem ts_setComp {i : Nat} {y : Str} (hc : X.calm = true) (hN : X.N.Nodup) (hy : X.N[i]? = some y) (hyl : X.env.scope.names.lookup y = some .local) (hsw : swapsWith (.ListComp elt [⟨tg, iter, ifs, 0⟩] scope pos) (some (.Name y py)) spos.line X.env = pure true)
    (hi : TI X tg iter ti) (ok : BlkOk X.N X.env.scope scope ow) (hg : Blk X scope fun Y => TGt Y (ow.map (·.2)) tg g) (ht : Blk X scope fun Y => TBs Y ifs tc) (he : Blk X scope fun Y => TE Y elt te) (hs : ∀ x, foldedSetIterable iter X.env x = pure x := by intro _; rfl) :
    TS X (.Assign [.Name y py] (.ListComp elt [⟨tg, iter, ifs, 0⟩] scope pos) spos) (cSet i (cComp ti g tc te (ow.map (·.2)))) := fun M S0 H0 E tk =>
  (ps_setLc hc hN hy hyl hsw (hi M S0 H0 E tk) ok (fun s H C cl fp => blk_g (hg s H C cl fp) fun _ => takes_blk) (fun s H C cl fp => blk_t (ht s H C cl fp) fun _ => takes_blk) (fun s H C cl fp => blk_e (he s H C cl fp) fun _ => takes_blk) hs).weak
    fun D σ H ⟨τ, S, B, rel, h, k, _⟩ => comp_read (fun zs S2 => B.nx (τ.set i (some (.lst zs))) S2) rel h fun zs S2 L H2 vs q o2 x2 hD nD nM xD r =>
      k _ _ _ _ ((rel.step (o2.takeOff fun _ m => .inl m) x2).set (.lst ⟨hD, nD, nM⟩ (r.takeOff fun _ m => .inl m))) x2 q
end
end TL
namespace TL
open PySem PySem.Spec PyProof.Rows L2
/-- what a def promises: the arguments' trees, the store, what follows, what is raised -/
abbrev SpT := List T → Sto → (T → Sto → Prop) → (T → Sto → Prop) → Prop
def liftSp (P : Program) (K : PySem.W.Frag) (w : World) (sp : SpT) : Sp := fun vs H Q E => ∃ M ts S Qt Et, Reps ⟨P, K, w, M⟩ H S ts vs ∧ StoOk ⟨P, K, w, M⟩ H S ∧ sp ts S Qt Et ∧
  (∀ z S' v H', Qt z S' → StoOk ⟨P, K, w, M⟩ H' S' → Ext S H S' H' → Rep ⟨P, K, w, M⟩ H' S' z v → Q v H') ∧
  (∀ x S' cls d H', Et x S' → StoOk ⟨P, K, w, M⟩ H' S' → Ext S H S' H' → ExcIs ⟨P, K, w, M⟩ H' S' x cls d → E cls d H')
def cCall (sp : SpT) (a : TTA) : TTE := fun τ S Q E => a τ S (fun ts S1 => sp ts S1 Q E) E

mutual
/-- u is t with some cells of S, none of S2, taken for what they hold -/
inductive Fz (S S2 : Sto) : T → T → Prop
  | same (t : T) : Fz S S2 t t
  | lstc {a : Addr} {ts us : List T} : S a = some (.lst ts) → S2 a = none → Fzs S S2 ts us → Fz S S2 (.ref a) (.lst us)
  | dctc {a : Addr} {b : Bool} {ks vs us : List T} : S a = some (.dct b ks vs) → S2 a = none → Fzs S S2 vs us → Fz S S2 (.ref a) (.dct b ks us)
  | insc {a : Addr} {c : Str} {ns : List Str} {vs us : List T} : S a = some (.ins c ns vs) → S2 a = none → Fzs S S2 vs us → Fz S S2 (.ref a) (.obj c ns us)
  | tup {ts us : List T} : Fzs S S2 ts us → Fz S S2 (.tup ts) (.tup us)
  | lst {ts us : List T} : Fzs S S2 ts us → Fz S S2 (.lst ts) (.lst us)
inductive Fzs (S S2 : Sto) : List T → List T → Prop
  | nil : Fzs S S2 [] []
  | cons {t u : T} {ts us : List T} : Fz S S2 t u → Fzs S S2 ts us → Fzs S S2 (t :: ts) (u :: us)
end
/-- some cells are given up -/
def Sub (S2 S : Sto) : Prop := ∀ a c, S2 a = some c → S a = some c
section
variable {G : Gd} {H : Hp} {S S2 : Sto}
theorem Sub.ext (k : Sub S2 S) : Ext S H S2 H := Ext.drop fun b n => by
  cases q : S2 b with
  | none => rfl
  | some d => rw [k b d q] at n; cases n
mutual
theorem Fz.rep (o : StoOk G H S) (k : Sub S2 S) : ∀ {t u : T}, Fz S S2 t u → ∀ {v : V}, Rep G H S t v → Rep G H S2 u v
  | _, _, .same _, _, r => Rep.ext k.ext _ _ r
  | _, _, .lstc h1 h2 h3, _, r => by
    cases r
    obtain ⟨xs, e, q⟩ := o.at_ _ _ h1
    exact .lst ⟨e, h2, fun m => by rw [o.sep _ m] at h1; cases h1⟩ (Fzs.reps o k h3 q)
  | _, _, .dctc (b := false) h1 h2 h3, _, r => by
    cases r
    obtain ⟨kvs, e, q1, q2⟩ := o.at_ _ _ h1
    exact .dK ⟨.inl e, h2, fun m => by rw [o.sep _ m] at h1; cases h1⟩ (Reps.ext k.ext _ _ q1) (Fzs.reps o k h3 q2)
  | _, _, .dctc (b := true) h1 h2 h3, _, r => by
    cases r
    obtain ⟨es, e, q0, q1, q2⟩ := o.at_ _ _ h1
    exact .dN ⟨.inl e, h2, fun m => by rw [o.sep _ m] at h1; cases h1⟩ q0 (Reps.ext k.ext _ _ q1) (Fzs.reps o k h3 q2)
  | _, _, .insc h1 h2 h3, _, r => by
    cases r
    obtain ⟨d, xs, e, q0, q1⟩ := o.at_ _ _ h1
    exact .obj ⟨e, h2, fun m => by rw [o.sep _ m] at h1; cases h1⟩ q0 (Fzs.reps o k h3 q1)
  | _, _, .tup h, _, r => by
    cases r with
    | tup h1 h2 => exact .tup (h1.ext k.ext) (Fzs.reps o k h h2)
  | _, _, .lst h, _, r => by
    cases r with
    | lst h1 h2 => exact .lst (h1.ext k.ext) (Fzs.reps o k h h2)
theorem Fzs.reps (o : StoOk G H S) (k : Sub S2 S) : ∀ {ts us : List T}, Fzs S S2 ts us → ∀ {vs : List V}, Reps G H S ts vs → Reps G H S2 us vs
  | _, _, .nil, _, r => by cases r; exact .nil
  | _, _, .cons h1 h2, _, r => by
    cases r with
    | cons r1 r2 => exact .cons (Fz.rep o k h1 r1) (Fzs.reps o k h2 r2)
end
end
/-- what follows, some cells given up -/
def Fin (Q : T → Sto → Prop) (z : T) (S : Sto) : Prop := ∃ S2 u, Sub S2 S ∧ Fz S S2 z u ∧ Q u S2
theorem Fin.of {Q : T → Sto → Prop} {z : T} {S : Sto} (h : Q z S) : Fin Q z S := ⟨S, z, fun _ _ e => e, .same z, h⟩
/-- an exception's fields are not frozen; cells are given up all the same -/
def FinX (Q : T → Sto → Prop) (z : T) (S : Sto) : Prop := ∃ S2, Sub S2 S ∧ Q z S2
theorem ExcIs.ext {G : Gd} {H H' : Hp} {S S' : Sto} {x : T} {cls : Value} {d : Option Addr} (h : ExcIs G H S x cls d) (e : Ext S H S' H') : ExcIs G H' S' x cls d := by
  obtain ⟨c, ns, ts, h1, h2, h3⟩ := h
  refine ⟨c, ns, ts, h1, h2, h3.imp id ?_⟩
  rintro ⟨da, xs, q1, q2, q3, q4⟩
  exact ⟨da, xs, q1, q2.ext e, q3, Reps.ext e _ _ q4⟩

def startT (N : List Str) (ts : List T) : TEnv := ts.map some ++ List.replicate (N.length - ts.length) none
theorem start_env {G : Gd} {H : Hp} {S : Sto} {N : List Str} {ts : List T} {vs : List V} (r : Reps G H S ts vs) : EnvR G H S (start N vs) (startT N ts) := by
  have l := r.length
  refine ⟨by simp [L2.start, startT, l], fun i t e => ?_⟩
  unfold startT at e
  by_cases hi : i < ts.length
  · rw [List.getElem?_append_left (by simpa using hi), List.getElem?_map] at e
    cases q : ts[i]? with
    | none => rw [q] at e; cases e
    | some z =>
      rw [q] at e
      cases e
      obtain ⟨v, h1, h2⟩ := r.get q
      refine ⟨v, ?_, h2⟩
      unfold L2.start
      rw [List.getElem?_append_left (by simp; omega), List.getElem?_map, h1]
      rfl
  · rw [List.getElem?_append_right (by simpa using hi), List.getElem?_replicate] at e
    split at e <;> cases e

section
variable {P : Program} {w : World} {K : PySem.W.Frag} {mg : Str → Option Value} {base : Heap} {x qual : Str} {params : Arguments} {body : List Stmt} {scope : Scope} {f : Addr} {fd : FuncData} {N ps : List Str} {k : Nat} {sp : SpT} {c : TTS}
/-- THE RULE for a def: its body as a tree's reading, and the reading -/
theorem fn_t (F : FunD K x qual params body scope [] [] f fd) (Sc : FnScope N ps scope) (len : ∀ ts S Q E, sp ts S Q E → ts.length = ps.length)
    (hb : ∀ (cdv : Value) (A : Around) (outer : List Env) (s : Shared) (H : Hp) (E : XK), Room k (A.deeper (envOfC qual scope s.heap.objs.size f cdv)) → TSs (cxOf (L2N.CX P w) P w K mg base N qual scope f cdv A outer s H E) body c)
    (vc : ∀ ts S Q E, sp ts S Q E → c { nx := fun _ S' => Fin Q .non S', rt := Fin Q } (startT N ts) S (fun x _ S' => FinX E x S')) :
    FnOk P w K mg base (L2N.CX P w) (k + 1) f fd ps (liftSp P K w sp) := by
  refine F.ok Sc (fun vs H Q E h => ?_) (fun cdv A outer s H vs Q E hr h => ?_)
  · obtain ⟨M, ts, S, Qt, Et, r, _, q, _⟩ := h
    rw [← r.length]
    exact len _ _ _ _ q
  · obtain ⟨M, ts, S, Qt, Et, r, o, q, hQ, hE⟩ := h
    have vc' := vc ts S Qt Et q
    have tk : Takes (cxOf (L2N.CX P w) P w K mg base N qual scope f cdv A outer s H E) (wOf (cxOf (L2N.CX P w) P w K mg base N qual scope f cdv A outer s H E) M S H fun x _ S' => FinX Et x S') := by
      refine Takes.imp (L2N.takes_of rfl rfl rfl rfl) fun cls d σ H' z => ?_
      obtain ⟨τ, S', x, rel, hx, S2, k2, h2⟩ := z
      exact hE x S2 cls d H' h2 (rel.sto.drop k2) (rel.ext.trans k2.ext) (hx.ext k2.ext)
    refine ⟨_, hb cdv A outer s H E hr M S H _ tk, startT N ts, S, _, ⟨start_env r, o, Ext.refl⟩, vc', ?_, ?_, fun _ _ _ _ _ _ z => z.elim, fun _ _ _ _ _ _ z => z.elim⟩
    · rintro σ' H' τ' S' rel x ⟨S2, u, k2, fz, q2⟩
      exact hQ u S2 .non H' q2 (rel.sto.drop k2) (x.trans k2.ext) (Fz.rep rel.sto k2 fz .non)
    · rintro z S' v H' o2 x r2 ⟨S2, u, k2, fz, q2⟩
      exact hQ u S2 v H' q2 (o2.drop k2) (x.trans k2.ext) (Fz.rep o2 k2 fz r2)
end
section
variable {X : Cx} {k : Nat} {f : Addr} {fd : FuncData} {ps : List Str} {sp : SpT} {x : Str} {p pos : Pos} {e : Expr} {es : List Expr} {ta : TTA}
theorem te_call (F : FnOk X.prog X.w X.K X.mg X.base (L2N.CX X.prog X.w) k f fd ps (liftSp X.prog X.K X.w sp)) (hr : Room k X.A) (hg : Gl X x) (hm : X.mg x = some (.ref f)) (hk : PySem.W.keepIn X.K (.ref f) = true) (hb : Binds X.K fd ps [])
    (ha : TA X (e :: es) ta) (hdb : (x == ("__debug__" : Str)) = false := by decide) (he : starEach (e :: es) X.env = (false, eval e X.env) :: starEach es X.env := by rfl) (hpl : (backTo pos (starEach es X.env)).any (·.1) = false := by rfl) :
    TE X (.Call (.Name x p) (e :: es) [] pos) (cCall sp ta) := fun M S0 H0 E tk =>
  (pe_callS (E := WE (wOf X M S0 H0 E)) F hr hg hm hk hb (fun σ => L2N.passAt tk σ) (ha M S0 H0 E tk) hdb he hpl).weak fun σ H Q ⟨τ, S, Qt, rel, h, fin⟩ => ⟨τ, S, _, rel, h, fun zs S1 vs H1 q o1 x1 r1 =>
    ⟨M, zs, S1, Qt, fun x S' => E x τ S', r1, o1, q, fun z S' v H' qz o2 x2 r2 => fin z S' v H' qz o2 (x1.trans x2) r2, fun x S' cls d H' qx o2 x2 hx => ⟨τ, S', x, rel.step o2 (x1.trans x2), hx, qx⟩⟩⟩
end
end TL
namespace TL
open PySem PySem.Spec PyProof.Rows L2
mutual
def dat : T → PyData
  | .bl b => .bool b
  | .int i => .int i
  | .str x => .str (txt x)
  | .tup ts => .tuple (dats ts)
  | .lst ts => .list (dats ts)
  | _ => .none
def dats : List T → List PyData
  | [] => []
  | t :: ts => dat t :: dats ts
end
mutual
def plain : T → Bool
  | .non => true
  | .bl _ => true
  | .int _ => true
  | .str _ => true
  | .tup ts => plains ts
  | .lst ts => plains ts
  | _ => false
def plains : List T → Bool
  | [] => true
  | t :: ts => plain t && plains ts
end
mutual
def dep : T → Nat
  | .tup ts => deps ts + 1
  | .lst ts => deps ts + 1
  | _ => 0
def deps : List T → Nat
  | [] => 0
  | t :: ts => max (dep t) (deps ts)
end
mutual
def eqt : T → T → Bool
  | .non, .non => true
  | .bl a, .bl b => a == b
  | .bl a, .int j => (if a then 1 else 0) == j
  | .int i, .bl b => i == (if b then 1 else 0)
  | .int i, .int j => i == j
  | .str x, .str y => decide (x = y)
  | .tup xs, .tup ys => eqts xs ys
  | .lst xs, .lst ys => eqts xs ys
  | _, _ => false
def eqts : List T → List T → Bool
  | [], [] => true
  | x :: xs, y :: ys => eqt x y && eqts xs ys
  | _, _ => false
end
def strLt (x y : List Sg) : Bool := decide (x.map (·.val) < y.map (·.val))
mutual
def ltt : T → T → Bool
  | .bl a, .bl b => !a && b
  | .int i, .int j => decide (i < j)
  | .str x, .str y => strLt x y
  | .tup xs, .tup ys => ltts xs ys
  | .lst xs, .lst ys => ltts xs ys
  | _, _ => false
def ltts : List T → List T → Bool
  | [], [] => false
  | [], _ :: _ => true
  | _ :: _, [] => false
  | x :: xs, y :: ys => if eqt x y = true then ltts xs ys else ltt x y
end
mutual
def alk : T → T → Bool
  | .non, .non => true
  | .bl _, .bl _ => true
  | .int _, .int _ => true
  | .str _, .str _ => true
  | .lst xs, .lst ys => alks xs ys
  | .tup xs, .tup ys => alks xs ys
  | _, _ => false
def alks : List T → List T → Bool
  | x :: xs, y :: ys => alk x y && alks xs ys
  | [], _ => true
  | _ :: _, [] => true
end
theorem txt_eq (x y : List Sg) : (txt x == txt y) = decide (x = y) := by
  by_cases h : x = y
  · subst h
    simp
  · have : txt x ≠ txt y := fun e => h (txt_inj e)
    simp [h, this]
mutual
theorem eqt_dat : ∀ x y : T, plain x = true → plain y = true → PyData.eqv (dat x) (dat y) = eqt x y
  | .non, y, _, hy => by cases y <;> first | rfl | cases hy
  | .bl _, y, _, hy => by cases y <;> first | rfl | cases hy
  | .int _, y, _, hy => by cases y <;> first | rfl | cases hy
  | .str a, y, _, hy => by
    cases y with
    | str b => simp only [dat, PyData.eqv, eqt]; exact txt_eq a b
    | _ => first | rfl | cases hy
  | .tup xs, y, hx, hy => by
    cases y with
    | tup ys =>
      simp only [dat, PyData.eqv, eqt]
      exact eqts_dat xs ys hx hy
    | _ => first | rfl | cases hy
  | .lst xs, y, hx, hy => by
    cases y with
    | lst ys =>
      simp only [dat, PyData.eqv, eqt]
      exact eqts_dat xs ys hx hy
    | _ => first | rfl | cases hy
  | .ref _, _, hx, _ => by cases hx
  | .exc _ _ _, _, hx, _ => by cases hx
  | .dct _ _ _, _, hx, _ => by cases hx
  | .obj _ _ _, _, hx, _ => by cases hx
  | .fn _, _, hx, _ => by cases hx
  | .scr _, _, hx, _ => by cases hx
  | .clo .., _, hx, _ => by cases hx
theorem eqts_dat : ∀ xs ys : List T, plains xs = true → plains ys = true → PyData.eqvAll (dats xs) (dats ys) = eqts xs ys
  | [], [], _, _ => rfl
  | [], _ :: _, _, _ => rfl
  | _ :: _, [], _, _ => rfl
  | x :: xs, y :: ys, hx, hy => by
    simp only [plains, Bool.and_eq_true] at hx hy
    simp only [dats, PyData.eqvAll, eqts]
    rw [eqt_dat x y hx.1 hy.1, eqts_dat xs ys hx.2 hy.2]
end
mutual
theorem alk_dat : ∀ x y : T, plain x = true → plain y = true → PySem.W.alike (dat x) (dat y) = alk x y
  | .non, y, _, hy => by cases y <;> first | (simp only [dat, PySem.W.alike, alk]; done) | cases hy
  | .bl _, y, _, hy => by cases y <;> first | (simp only [dat, PySem.W.alike, alk]; done) | cases hy
  | .int _, y, _, hy => by cases y <;> first | (simp only [dat, PySem.W.alike, alk]; done) | cases hy
  | .str a, y, _, hy => by cases y <;> first | (simp only [dat, PySem.W.alike, alk]; done) | cases hy
  | .tup xs, y, hx, hy => by
    cases y with
    | tup ys =>
      simp only [dat, PySem.W.alike, alk]
      exact alks_dat xs ys hx hy
    | _ => first | (simp only [dat, PySem.W.alike, alk]; done) | cases hy
  | .lst xs, y, hx, hy => by
    cases y with
    | lst ys =>
      simp only [dat, PySem.W.alike, alk]
      exact alks_dat xs ys hx hy
    | _ => first | (simp only [dat, PySem.W.alike, alk]; done) | cases hy
  | .ref _, _, hx, _ => by cases hx
  | .exc _ _ _, _, hx, _ => by cases hx
  | .dct _ _ _, _, hx, _ => by cases hx
  | .obj _ _ _, _, hx, _ => by cases hx
  | .fn _, _, hx, _ => by cases hx
  | .scr _, _, hx, _ => by cases hx
  | .clo .., _, hx, _ => by cases hx
theorem alks_dat : ∀ xs ys : List T, plains xs = true → plains ys = true → PySem.W.alikeAll (dats xs) (dats ys) = alks xs ys
  | [], [], _, _ => by simp only [dats, PySem.W.alikeAll, alks]
  | [], _ :: _, _, _ => by simp only [dats, PySem.W.alikeAll, alks]
  | _ :: _, [], _, _ => by simp only [dats, PySem.W.alikeAll, alks]
  | x :: xs, y :: ys, hx, hy => by
    simp only [plains, Bool.and_eq_true] at hx hy
    simp only [dats, PySem.W.alikeAll, alks]
    rw [alk_dat x y hx.1 hy.1, alks_dat xs ys hx.2 hy.2]
end
theorem ltts_eq (x y : T) (xs ys : List T) : ltts (x :: xs) (y :: ys) = if eqt x y = true then ltts xs ys else ltt x y := by simp only [ltts]
mutual
theorem ltt_dat : ∀ x y : T, plain x = true → plain y = true → alk x y = true → x ≠ .non → PySem.W.dataLt (dat x) (dat y) = ltt x y
  | .non, _, _, _, _, h => absurd rfl h
  | .bl a, y, _, hy, h, _ => by
    cases y with
    | bl b =>
      simp only [dat, ltt]
      refine (PySem.W.dataLt_bool a b).trans ?_
      cases a <;> cases b <;> rfl
    | _ => simp [alk] at h
  | .int i, y, _, hy, h, _ => by
    cases y with
    | int j => exact PySem.W.dataLt_int i j
    | _ => simp [alk] at h
  | .str a, y, _, hy, h, _ => by
    cases y with
    | str b => exact PySem.W.dataLt_str (txt a) (txt b)
    | _ => simp [alk] at h
  | .tup xs, y, hx, hy, h, _ => by
    cases y with
    | tup ys =>
      simp only [dat, ltt]
      rw [PySem.W.dataLt_tuple]
      exact ltts_dat xs ys hx hy (by simpa [alk] using h)
    | _ => simp [alk] at h
  | .lst xs, y, hx, hy, h, _ => by
    cases y with
    | lst ys =>
      simp only [dat, ltt]
      rw [PySem.W.dataLt_list]
      exact ltts_dat xs ys hx hy (by simpa [alk] using h)
    | _ => simp [alk] at h
  | .ref _, _, hx, _, _, _ => by cases hx
  | .exc _ _ _, _, hx, _, _, _ => by cases hx
  | .dct _ _ _, _, hx, _, _, _ => by cases hx
  | .obj _ _ _, _, hx, _, _, _ => by cases hx
  | .fn _, _, hx, _, _, _ => by cases hx
  | .scr _, _, hx, _, _, _ => by cases hx
  | .clo .., _, hx, _, _, _ => by cases hx
theorem ltts_dat : ∀ xs ys : List T, plains xs = true → plains ys = true → alks xs ys = true → PyProof.Rows.lexLt PyProof.Rows.itemOrd (PySem.W.keyToksAll (dats xs)) (PySem.W.keyToksAll (dats ys)) = ltts xs ys
  | [], [], _, _, _ => by simp only [dats, PySem.W.keyToksAll, ltts]; rfl
  | [], y :: ys, _, _, _ => by
    simp only [dats, PySem.W.keyToksAll, ltts]
    rw [PySem.W.lex_atom (by simp), PySem.W.lex_one]
    rfl
  | x :: xs, [], _, _, _ => by
    simp only [dats, PySem.W.keyToksAll, ltts]
    rw [PySem.W.lex_atom (by simp), PySem.W.lex_one]
    rfl
  | x :: xs, y :: ys, hx, hy, h => by
    simp only [plains, Bool.and_eq_true] at hx hy
    simp only [alks, Bool.and_eq_true] at h
    have ha : PySem.W.alike (dat x) (dat y) = true := by rw [alk_dat x y hx.1 hy.1]; exact h.1
    rw [ltts_eq]
    show PyProof.Rows.lexLt PyProof.Rows.itemOrd (PySem.W.keyToksAll (dat x :: dats xs)) (PySem.W.keyToksAll (dat y :: dats ys)) = _
    rw [PySem.W.dataLt_cons ha, eqt_dat x y hx.1 hy.1, ltts_dat xs ys hx.2 hy.2 h.2]
    by_cases e : eqt x y = true
    · rw [if_pos e, if_pos e]
    · rw [if_neg e, if_neg e]
      refine ltt_dat x y hx.1 hy.1 h.1 fun z => ?_
      subst z
      cases y <;> simp [alk, eqt] at h e
end
mutual
theorem dep_dat : ∀ x : T, plain x = true → (dat x).depth = dep x
  | .non, _ => rfl
  | .bl _, _ => rfl
  | .int _, _ => rfl
  | .str _, _ => rfl
  | .tup xs, h => by simp only [dat, PyData.depth, dep]; rw [deps_dat xs h]
  | .lst xs, h => by simp only [dat, PyData.depth, dep]; rw [deps_dat xs h]
  | .ref _, hx => by cases hx
  | .exc _ _ _, hx => by cases hx
  | .dct _ _ _, hx => by cases hx
  | .obj _ _ _, hx => by cases hx
  | .fn _, hx => by cases hx
  | .scr _, hx => by cases hx
  | .clo .., hx => by cases hx
theorem deps_dat : ∀ xs : List T, plains xs = true → PyData.depthAll (dats xs) = deps xs
  | [], _ => rfl
  | x :: xs, h => by
    simp only [plains, Bool.and_eq_true] at h
    simp only [dats, PyData.depthAll, deps]
    rw [dep_dat x h.1, deps_dat xs h.2]
end
mutual
theorem lay_dat : ∀ x : T, plain x = true → (dat x).canLay0 = true
  | .non, _ => rfl
  | .bl _, _ => rfl
  | .int _, _ => rfl
  | .str a, _ => by
    simp only [dat, PyData.canLay0, PyData.strOk]
    rw [Array.all_eq_true']
    intro c hc
    have hc' : c ∈ (a.map (·.val)).toArray := hc
    rw [List.mem_toArray] at hc'
    obtain ⟨s, _, rfl⟩ := List.mem_map.mp hc'
    have := s.isLt
    exact decide_eq_true (by omega)
  | .tup xs, h => by simp only [dat, PyData.canLay0]; exact lays_dat xs h
  | .lst xs, h => by simp only [dat, PyData.canLay0]; exact lays_dat xs h
  | .ref _, hx => by cases hx
  | .exc _ _ _, hx => by cases hx
  | .dct _ _ _, hx => by cases hx
  | .obj _ _ _, hx => by cases hx
  | .fn _, hx => by cases hx
  | .scr _, hx => by cases hx
  | .clo .., hx => by cases hx
theorem lays_dat : ∀ xs : List T, plains xs = true → PyData.canLayAll0 (dats xs) = true
  | [], _ => rfl
  | x :: xs, h => by
    simp only [plains, Bool.and_eq_true] at h
    simp only [dats, PyData.canLayAll0, Bool.and_eq_true]
    exact ⟨lay_dat x h.1, lays_dat xs h.2⟩
end
section
variable {G : Gd} {H : Hp} {S : Sto}
mutual
theorem Rep.dp : ∀ (t : T) (v : V), Rep G H S t v → plain t = true → Dp G.K H v (dat t)
  | .non, _, r, _ => by cases r; exact .non
  | .bl _, _, r, _ => by cases r; exact .bl _
  | .int _, _, r, _ => by cases r; exact .int _
  | .str _, _, r, _ => by cases r; exact .str _
  | .tup ts, _, r, h => by
    cases r with
    | tup h1 h2 => exact .tup h1.sq (Reps.dp ts _ h2 h)
  | .lst ts, _, r, h => by
    cases r with
    | lst h1 h2 => exact .lst h1.sq (Reps.dp ts _ h2 h)
  | .ref _, _, _, hx => by cases hx
  | .exc _ _ _, _, _, hx => by cases hx
  | .dct _ _ _, _, _, hx => by cases hx
  | .obj _ _ _, _, _, hx => by cases hx
  | .fn _, _, _, hx => by cases hx
  | .scr _, _, _, hx => by cases hx
  | .clo .., _, _, hx => by cases hx
theorem Reps.dp : ∀ (ts : List T) (vs : List V), Reps G H S ts vs → plains ts = true → DpAll G.K H vs (dats ts)
  | [], _, r, _ => by cases r; exact .nil
  | t :: ts, _, r, h => by
    simp only [plains, Bool.and_eq_true] at h
    cases r with
    | cons h1 h2 => exact .cons (Rep.dp t _ h1 h.1) (Reps.dp ts _ h2 h.2)
end
/-- a cell that holds a list, as a list -/
def res (S : Sto) : T → T
  | .ref a => match S a with
    | some (.lst ts) => .lst ts
    | _ => .ref a
  | t => t
theorem res_dp (o : StoOk G H S) {t : T} {v : V} (r : Rep G H S t v) (h : plain (res S t) = true) : Dp G.K H v (dat (res S t)) := by
  cases t with
  | ref a =>
    cases r
    cases e : S a with
    | none => simp [res, e, plain] at h
    | some c =>
      cases c with
      | lst ts =>
        simp only [res, e] at h ⊢
        obtain ⟨ws, hw, q⟩ := o.at_ a _ e
        exact .lst (SqL.of hw) (Reps.dp ts ws q h)
      | dct _ _ _ => simp [res, e, plain] at h
      | ins _ _ _ => simp [res, e, plain] at h
      | tab _ => simp [res, e, plain] at h
  | _ => exact Rep.dp _ v r h
end
/-- plain, and not too deep -/
def okd (t : T) : Bool := plain t && decide (dep t ≤ 64)
theorem okd_shaped {t : T} (h : okd t = true) : SeqAt.shaped (dat t) = true := by
  obtain ⟨h1, h2⟩ := Bool.and_eq_true_iff.mp h
  have h2' := of_decide_eq_true h2
  refine Bool.and_eq_true_iff.mpr ⟨lay_dat t h1, decide_eq_true ?_⟩
  rw [dep_dat t h1]
  exact h2'
theorem okd_plain {t : T} (h : okd t = true) : plain t = true := (Bool.and_eq_true_iff.mp h).1

def eqT (S : Sto) (x y : T) : Option T := if (okd (res S x) && okd (res S y)) = true then some (.bl (eqt (res S x) (res S y))) else none
def neT (S : Sto) (x y : T) : Option T := if (okd (res S x) && okd (res S y)) = true then some (.bl (!eqt (res S x) (res S y))) else none
section
variable {X : Cx}
theorem op_eqT (hu : X.A.units + 64 < cLine) : OpT X (compareOp .Eq) eqT := by
  intro pins s σ H x y v u Q I rx ry h
  obtain ⟨M, S, tx, ty, t, o, hx, hy, e, fin⟩ := h
  unfold eqT at e
  split at e
  · rename_i c
    obtain ⟨c1, c2⟩ := Bool.and_eq_true_iff.mp c
    obtain rfl := Option.some.inj e
    refine op_eqD hu pins s σ H x y v u Q I rx ry ⟨_, _, res_dp o hx (okd_plain c1), res_dp o hy (okd_plain c2), okd_shaped c1, okd_shaped c2, ?_⟩
    rw [eqt_dat _ _ (okd_plain c1) (okd_plain c2)]
    exact fin _ H o Ext.refl (.bl _)
  · cases e
theorem op_neT (hu : X.A.units + 64 < cLine) : OpT X (compareOp .NotEq) neT := by
  intro pins s σ H x y v u Q I rx ry h
  obtain ⟨M, S, tx, ty, t, o, hx, hy, e, fin⟩ := h
  unfold neT at e
  split at e
  · rename_i c
    obtain ⟨c1, c2⟩ := Bool.and_eq_true_iff.mp c
    obtain rfl := Option.some.inj e
    refine op_neD hu pins s σ H x y v u Q I rx ry ⟨_, _, res_dp o hx (okd_plain c1), res_dp o hy (okd_plain c2), okd_shaped c1, okd_shaped c2, ?_⟩
    rw [eqt_dat _ _ (okd_plain c1) (okd_plain c2)]
    exact fin _ H o Ext.refl (.bl _)
  · cases e
def cmpOk (x y : T) : Bool := okd x && (okd y && (alk x y && (match x with | .non => false | _ => true)))
theorem cmpOk_of {x y : T} (h : cmpOk x y = true) : okd x = true ∧ okd y = true ∧ alk x y = true ∧ x ≠ .non := by
  simp only [cmpOk, Bool.and_eq_true] at h
  obtain ⟨h1, h2, h3, h4⟩ := h
  refine ⟨h1, h2, h3, fun e => ?_⟩
  subst e
  cases h4
def ltT (_ : Sto) (x y : T) : Option T := if cmpOk x y = true then some (.bl (ltt x y)) else none
def gtT (_ : Sto) (x y : T) : Option T := if cmpOk x y = true then some (.bl (ltt y x)) else none
def leT (_ : Sto) (x y : T) : Option T := if cmpOk x y = true then some (.bl (!ltt y x)) else none
def geT (_ : Sto) (x y : T) : Option T := if cmpOk x y = true then some (.bl (!ltt x y)) else none
mutual
theorem alk_symm : ∀ x y : T, alk x y = alk y x
  | .non, y => by cases y <;> simp [alk]
  | .bl _, y => by cases y <;> simp [alk]
  | .int _, y => by cases y <;> simp [alk]
  | .str _, y => by cases y <;> simp [alk]
  | .tup xs, y => by
    cases y with
    | tup ys => simp only [alk]; exact alks_symm xs ys
    | _ => simp [alk]
  | .lst xs, y => by
    cases y with
    | lst ys => simp only [alk]; exact alks_symm xs ys
    | _ => simp [alk]
  | .ref _, y => by cases y <;> simp [alk]
  | .exc _ _ _, y => by cases y <;> simp [alk]
  | .dct _ _ _, y => by cases y <;> simp [alk]
  | .obj _ _ _, y => by cases y <;> simp [alk]
  | .fn _, y => by cases y <;> simp [alk]
  | .scr _, y => by cases y <;> simp [alk]
  | .clo .., y => by cases y <;> simp [alk]
theorem alks_symm : ∀ xs ys : List T, alks xs ys = alks ys xs
  | [], [] => rfl
  | [], _ :: _ => by simp [alks]
  | _ :: _, [] => by simp [alks]
  | x :: xs, y :: ys => by
    simp only [alks]
    rw [alk_symm x y, alks_symm xs ys]
end
theorem cmp_facts {x y : T} (h : cmpOk x y = true) : PySem.W.alike (dat x) (dat y) = true ∧ dat x ≠ .none ∧ PySem.W.dataLt (dat x) (dat y) = ltt x y ∧ PySem.W.dataLt (dat y) (dat x) = ltt y x := by
  obtain ⟨h1, h2, h3, h4⟩ := cmpOk_of h
  have p1 := okd_plain h1
  have p2 := okd_plain h2
  refine ⟨by rw [alk_dat x y p1 p2]; exact h3, ?_, ltt_dat x y p1 p2 h3 h4, ltt_dat y x p2 p1 (by rw [alk_symm]; exact h3) fun e => ?_⟩
  · cases x <;> first | exact absurd rfl h4 | (cases p1; done) | (intro z; cases z)
  · subst e
    cases x <;> first | exact absurd rfl h4 | simp [alk] at h3
theorem room_cmp {A : Around} {x y : T} (h : cmpOk x y = true) (hu : A.units + 64 < cLine) : A.units + min (dat x).depth (dat y).depth < cLine := SeqAt.room_of_shaped (okd_shaped (cmpOk_of h).1) hu
theorem op_ltT (hu : X.A.units + 64 < cLine) : OpT X (compareOp .Lt) ltT := by
  intro pins s σ H x y v u Q I rx ry h
  obtain ⟨M, S, tx, ty, t, o, hx, hy, e, fin⟩ := h
  unfold ltT at e
  split at e
  · rename_i c
    obtain rfl := Option.some.inj e
    obtain ⟨c1, c2, c3, c4⟩ := cmp_facts c
    obtain ⟨as, r1⟩ := Dp.reads I _ _ _ (Rep.dp _ _ hx (okd_plain (cmpOk_of c).1)) rx
    obtain ⟨bs, r2⟩ := Dp.reads I _ _ _ (Rep.dp _ _ hy (okd_plain (cmpOk_of c).2.1)) ry
    exact PySem.W.lt_data r1 r2 c1 c2 (room_cmp c hu) ⟨.bl _, H, I, rfl, by rw [c3]; exact fin _ H o Ext.refl (.bl _)⟩
  · cases e
theorem op_gtT (hu : X.A.units + 64 < cLine) : OpT X (compareOp .Gt) gtT := by
  intro pins s σ H x y v u Q I rx ry h
  obtain ⟨M, S, tx, ty, t, o, hx, hy, e, fin⟩ := h
  unfold gtT at e
  split at e
  · rename_i c
    obtain rfl := Option.some.inj e
    obtain ⟨c1, c2, c3, c4⟩ := cmp_facts c
    obtain ⟨as, r1⟩ := Dp.reads I _ _ _ (Rep.dp _ _ hx (okd_plain (cmpOk_of c).1)) rx
    obtain ⟨bs, r2⟩ := Dp.reads I _ _ _ (Rep.dp _ _ hy (okd_plain (cmpOk_of c).2.1)) ry
    exact PySem.W.gt_data r1 r2 c1 c2 (room_cmp c hu) ⟨.bl _, H, I, rfl, by rw [c4]; exact fin _ H o Ext.refl (.bl _)⟩
  · cases e
theorem op_leT (hu : X.A.units + 64 < cLine) : OpT X (compareOp .LtE) leT := by
  intro pins s σ H x y v u Q I rx ry h
  obtain ⟨M, S, tx, ty, t, o, hx, hy, e, fin⟩ := h
  unfold leT at e
  split at e
  · rename_i c
    obtain rfl := Option.some.inj e
    obtain ⟨c1, c2, c3, c4⟩ := cmp_facts c
    obtain ⟨as, r1⟩ := Dp.reads I _ _ _ (Rep.dp _ _ hx (okd_plain (cmpOk_of c).1)) rx
    obtain ⟨bs, r2⟩ := Dp.reads I _ _ _ (Rep.dp _ _ hy (okd_plain (cmpOk_of c).2.1)) ry
    exact PySem.W.le_data r1 r2 c1 c2 (room_cmp c hu) ⟨.bl _, H, I, rfl, by rw [c4]; exact fin _ H o Ext.refl (.bl _)⟩
  · cases e
theorem op_geT (hu : X.A.units + 64 < cLine) : OpT X (compareOp .GtE) geT := by
  intro pins s σ H x y v u Q I rx ry h
  obtain ⟨M, S, tx, ty, t, o, hx, hy, e, fin⟩ := h
  unfold geT at e
  split at e
  · rename_i c
    obtain rfl := Option.some.inj e
    obtain ⟨c1, c2, c3, c4⟩ := cmp_facts c
    obtain ⟨as, r1⟩ := Dp.reads I _ _ _ (Rep.dp _ _ hx (okd_plain (cmpOk_of c).1)) rx
    obtain ⟨bs, r2⟩ := Dp.reads I _ _ _ (Rep.dp _ _ hy (okd_plain (cmpOk_of c).2.1)) ry
    exact PySem.W.ge_data r1 r2 c1 c2 (room_cmp c hu) ⟨.bl _, H, I, rfl, by rw [c3]; exact fin _ H o Ext.refl (.bl _)⟩
  · cases e
def inQ (S : Sto) (x y : T) : Option Bool := match res S y with
  | .lst ts => if (okd x && okd (.lst ts)) = true then some (ts.any fun z => eqt z x) else none
  | .tup ts => if (okd x && okd (.tup ts)) = true then some (ts.any fun z => eqt z x) else none
  | .str z => match x with
    | .str [c] => some (decide (c ∈ z))
    | _ => none
  | _ => none
def inT (S : Sto) (x y : T) : Option T := (inQ S x y).map .bl
def ninT (S : Sto) (x y : T) : Option T := (inQ S x y).map fun b => .bl (!b)
theorem any_dats (x : T) : ∀ ts : List T, plains ts = true → plain x = true → ((dats ts).any fun y => PyData.eqv y (dat x)) = ts.any fun z => eqt z x
  | [], _, _ => rfl
  | t :: ts, h, hx => by
    simp only [plains, Bool.and_eq_true] at h
    simp only [dats, List.any_cons]
    rw [eqt_dat t x h.1 hx, any_dats x ts h.2 hx]
theorem in_listQ (hu : X.A.units + 65 < cLine) {pins : List (Addr × Obj)} {s : Shared} {σ : L2.St} {H : Hp} {x y : V} {v u : Value} {dx : PyData} {ds : List PyData} {b : Bool} (I : Inv X pins σ H s) (rx : RelV x v) (ry : RelV y u) (hx : Dp X.K H x dx) (hy : Dp X.K H y (.list ds) ∨ Dp X.K H y (.tuple ds))
    (h1 : PyData.canLayAll0 ds = true) (h2 : SeqAt.shaped dx = true) (e : (ds.any fun y => PyData.eqv y dx) = b) {E : Value → Shared → Prop} {Q : Value → Shared → Prop} :
    (Q (.bool b) s → wpAny (model X.prog X.w) X.A (compareOp .In v u) Q E s) ∧ (Q (.bool (!b)) s → wpAny (model X.prog X.w) X.A (compareOp .NotIn v u) Q E s) := by
  obtain ⟨as, r1⟩ := Dp.reads I _ _ _ hx rx
  have rm : X.A.units + 1 + min (PyData.depthAll ds) dx.depth < cLine := PyProof.Rows.room_in_shaped h2 hu
  have l2 := SeqAt.canLay_of_shaped h2
  rcases hy with hy | hy
  · obtain ⟨bs, r2⟩ := Dp.reads I _ _ _ hy ry
    exact ⟨fun q => SeqAt.in_list_reads r2 r1 h1 l2 rm (by rw [e]; exact q), fun q => SeqAt.notIn_list_reads r2 r1 h1 l2 rm (by rw [e]; exact q)⟩
  · obtain ⟨bs, r2⟩ := Dp.reads I _ _ _ hy ry
    exact ⟨fun q => SeqAt.in_tuple_reads r2 r1 h1 l2 rm (by rw [e]; exact q), fun q => SeqAt.notIn_tuple_reads r2 r1 h1 l2 rm (by rw [e]; exact q)⟩
theorem sg_mem (c : Sg) (z : List Sg) : decide (c.val ∈ (txt z).cps.toList) = decide (c ∈ z) := by
  apply decide_eq_decide.mpr
  rw [txt_list]
  constructor
  · intro h
    obtain ⟨d, hd, e⟩ := List.mem_map.mp h
    rw [← Fin.ext e]
    exact hd
  · exact fun h => List.mem_map.mpr ⟨c, h, rfl⟩
theorem inQ_run (hu : X.A.units + 65 < cLine) {pins : List (Addr × Obj)} {s : Shared} {σ : L2.St} {H : Hp} {S : Sto} {M : Addr → Prop} {x y : V} {tx ty : T} {v u : Value} {b : Bool} (I : Inv X pins σ H s) (rx : RelV x v) (ry : RelV y u) (o : StoOk (gdOf X M) H S)
    (hx : Rep (gdOf X M) H S tx x) (hy : Rep (gdOf X M) H S ty y) (e : inQ S tx ty = some b) {Q : VK} :
    (Q (.bl b) H → wpAny (model X.prog X.w) X.A (compareOp .In v u) (EP X pins σ Q) X.xe s) ∧ (Q (.bl (!b)) H → wpAny (model X.prog X.w) X.A (compareOp .NotIn v u) (EP X pins σ Q) X.xe s) := by
  have ep : ∀ {b : Bool}, Q (.bl b) H → EP X pins σ Q (.bool b) s := fun q => ⟨.bl _, H, I, rfl, q⟩
  have hr := res_dp o hy
  unfold inQ at e
  split at e
  · rename_i ts hts
    rw [hts] at hr
    split at e
    · rename_i c
      obtain ⟨c1, c2⟩ := Bool.and_eq_true_iff.mp c
      obtain rfl := Option.some.inj e
      have k := in_listQ (Q := EP X pins σ Q) (E := X.xe) hu I rx ry (Rep.dp _ _ hx (okd_plain c1)) (.inl (hr (okd_plain c2))) (lays_dat ts (okd_plain c2)) (okd_shaped c1) (any_dats tx ts (okd_plain c2) (okd_plain c1))
      exact ⟨fun q => k.1 (ep q), fun q => k.2 (ep q)⟩
    · cases e
  · rename_i ts hts
    rw [hts] at hr
    split at e
    · rename_i c
      obtain ⟨c1, c2⟩ := Bool.and_eq_true_iff.mp c
      obtain rfl := Option.some.inj e
      have k := in_listQ (Q := EP X pins σ Q) (E := X.xe) hu I rx ry (Rep.dp _ _ hx (okd_plain c1)) (.inr (hr (okd_plain c2))) (lays_dat ts (okd_plain c2)) (okd_shaped c1) (any_dats tx ts (okd_plain c2) (okd_plain c1))
      exact ⟨fun q => k.1 (ep q), fun q => k.2 (ep q)⟩
    · cases e
  · rename_i z hz
    split at e
    · rename_i c
      obtain rfl := Option.some.inj e
      cases hx
      have hty : ty = .str z := by
        cases ty with
        | ref a =>
          cases q : S a with
          | none => simp [res, q] at hz
          | some c => cases c <;> simp [res, q] at hz
        | _ => exact hz
      subst hty
      cases hy
      rw [← sg_mem]
      exact ⟨fun q => op_in_sign pins s σ H _ _ v u Q I rx ry ⟨c.val, txt z, rfl, rfl, q⟩, fun q => op_notIn_sign pins s σ H _ _ v u Q I rx ry ⟨c.val, txt z, rfl, rfl, q⟩⟩
    · cases e
  · cases e
theorem op_ninT (hu : X.A.units + 65 < cLine) : OpT X (compareOp .NotIn) ninT := by
  intro pins s σ H x y v u Q I rx ry h
  obtain ⟨M, S, tx, ty, t, o, hx, hy, e, fin⟩ := h
  obtain ⟨b, hb, rfl⟩ := Option.map_eq_some_iff.mp e
  exact (inQ_run hu I rx ry o hx hy hb).2 (fin _ H o Ext.refl (.bl _))
end
end TL
namespace TL
open PySem PySem.Spec PyProof.Rows L2
section
variable {X : Cx}
def addT (S : Sto) (x y : T) : Option T := match res S x, res S y with
  | .int i, .int j => some (.int (i + j))
  | .str a, .str b => if a.length + b.length ≤ sizeLine then some (.str (a ++ b)) else none
  | .tup a, .tup b => if a.length + b.length ≤ sizeLine then some (.tup (a ++ b)) else none
  | .lst a, .lst b => if a.length + b.length ≤ sizeLine then some (.lst (a ++ b)) else none
  | _, _ => none
/-- a value that is a list, frozen or a cell -/
theorem res_lst {G : Gd} {H : Hp} {S : Sto} {t : T} {v : V} {ts : List T} (o : StoOk G H S) (r : Rep G H S t v) (e : res S t = .lst ts) : ∃ a xs, v = .ref a ∧ H a = some (.lst xs) ∧ Reps G H S ts xs := by
  cases t with
  | ref a =>
    cases r
    cases q : S a with
    | none => simp [res, q] at e
    | some c =>
      cases c with
      | lst us =>
        simp only [res, q] at e
        cases e
        obtain ⟨xs, h1, h2⟩ := o.at_ a _ q
        exact ⟨a, xs, rfl, h1, h2⟩
      | dct _ _ _ => simp [res, q] at e
      | ins _ _ _ => simp [res, q] at e
      | tab _ => simp [res, q] at e
  | lst us =>
    cases e
    cases r with
    | lst h1 h2 => exact ⟨_, _, rfl, h1.1, h2⟩
  | _ => cases e
theorem res_id {S : Sto} {t u : T} (e : res S t = u) (h : ∀ ts, u ≠ .lst ts) : t = u := by
  cases t with
  | ref a =>
    cases q : S a with
    | none => simpa [res, q] using e
    | some c =>
      cases c with
      | lst us => simp only [res, q] at e; exact absurd e.symm (h us)
      | dct _ _ _ => simpa [res, q] using e
      | ins _ _ _ => simpa [res, q] using e
      | tab _ => simpa [res, q] using e
  | _ => exact e
theorem op_addT : OpT X (binaryOp .Add) addT := by
  intro pins s σ H x y v u Q I rx ry h
  obtain ⟨M, S, tx, ty, t, o, hx, hy, e, fin⟩ := h
  unfold addT at e
  split at e
  · rename_i i j h1 h2
    obtain rfl := res_id h1 fun _ z => nomatch z
    obtain rfl := res_id h2 fun _ z => nomatch z
    obtain rfl := Option.some.inj e
    cases hx
    cases hy
    exact op_add pins s σ H _ _ v u Q I rx ry ⟨i, j, rfl, rfl, fin _ H o Ext.refl (.int _)⟩
  · rename_i a b h1 h2
    obtain rfl := res_id h1 fun _ z => nomatch z
    obtain rfl := res_id h2 fun _ z => nomatch z
    split at e
    · rename_i hz
      obtain rfl := Option.some.inj e
      cases hx
      cases hy
      refine op_add_str pins s σ H _ _ v u Q I rx ry ⟨txt a, txt b, rfl, rfl, by rw [txt_len, txt_len]; exact hz, ?_⟩
      rw [← txt_app]
      exact fin _ H o Ext.refl (.str _)
    · cases e
  · rename_i a b h1 h2
    obtain rfl := res_id h1 fun _ z => nomatch z
    obtain rfl := res_id h2 fun _ z => nomatch z
    split at e
    · rename_i hz
      obtain rfl := Option.some.inj e
      cases hx with
      | tup a1 a2 =>
        cases hy with
        | tup b1 b2 =>
          have l1 := a2.length
          have l2 := b2.length
          refine op_catF pins s σ H _ _ v u Q I rx ry ⟨_, _, _, _, rfl, rfl, a1.sq, b1.sq, by omega, fun z => ?_, fun _ z => ?_, fun _ _ p ob n nd => ?_⟩
          · subst z
            cases a2
            exact fin _ H o Ext.refl (.tup b1 b2)
          · subst z
            cases b2
            refine fin _ H o Ext.refl ?_
            rw [List.append_nil]
            exact .tup a1 a2
          · exact fin _ _ (o.new n) (Ext.new n) (.tup (.inl ⟨ob, ⟨upd_same, nd⟩, o.free n, o.nom n⟩) (Reps.ext (Ext.new n) _ _ (a2.append b2)))
    · cases e
  · rename_i a b h1 h2
    split at e
    · rename_i hz
      obtain rfl := Option.some.inj e
      obtain ⟨p1, xs, rfl, q1, r1⟩ := res_lst o hx h1
      obtain ⟨p2, ys, rfl, q2, r2⟩ := res_lst o hy h2
      have l1 := r1.length
      have l2 := r2.length
      refine op_cat pins s σ H _ _ v u Q I rx ry ⟨p1, p2, xs, ys, rfl, rfl, q1, q2, by omega, fun p n => ?_⟩
      exact fin _ _ (o.new n) (Ext.new n) (.lst ⟨upd_same, o.free n, o.nom n⟩ (Reps.ext (Ext.new n) _ _ (r1.append r2)))
    · cases e
  · cases e
def i2 (c : Int → Int → Bool) (f : Int → Int → T) (_ : Sto) (x y : T) : Option T := match x, y with
  | .int i, .int j => if c i j = true then some (f i j) else none
  | _, _ => none
theorem op_i2 {f : Value → Value → Sem Value} {c : Int → Int → Bool} {C : Int → Int → Prop} {g : Int → Int → V} {gt : Int → Int → T} (h : OpR X f (rI C g)) (hc : ∀ i j, c i j = true → C i j) (hg : ∀ G H S i j, Rep G H S (gt i j) (g i j)) : OpT X f (i2 c gt) := by
  intro pins s σ H x y v u Q I rx ry h'
  obtain ⟨M, S, tx, ty, t, o, hx, hy, e, fin⟩ := h'
  unfold i2 at e
  split at e
  · rename_i i j
    split at e
    · rename_i hij
      obtain rfl := Option.some.inj e
      cases hx
      cases hy
      exact h pins s σ H _ _ v u Q I rx ry ⟨i, j, rfl, rfl, hc _ _ hij, fin _ H o Ext.refl (hg _ _ _ _ _)⟩
    · cases e
  · cases e
theorem rI_of {f : Value → Value → Sem Value} {g : Int → Int → V} (h : OpR X f (rI0 g)) : OpR X f (rI (fun _ _ => True) g) := fun pins s σ H x y v u Q I rx ry ⟨i, j, e1, e2, _, q⟩ => h pins s σ H x y v u Q I rx ry ⟨i, j, e1, e2, q⟩
def tt2 (_ _ : Int) : Bool := true
def subT := i2 tt2 fun i j => .int (i - j)
def mulI (i j : Int) : Bool := decide (i.natAbs.log2 + j.natAbs.log2 < 1000000)
def divI (_ j : Int) : Bool := decide (j ≠ 0) && decide (j.natAbs.log2 < 9000)
def fdivT := i2 divI fun i j => .int (i.fdiv j)
def modI (_ j : Int) : Bool := decide (j ≠ 0)
def modT := i2 modI fun i j => .int (i.fmod j)
def powI (i j : Int) : Bool := decide (0 ≤ j) && (decide (j ≤ 1000000) && decide (i.natAbs < 2 ^ 64))
def powT := i2 powI fun i j => .int (i ^ j.toNat)
theorem op_subT : OpT X (binaryOp .Sub) subT := op_i2 (rI_of op_sub) (fun _ _ _ => trivial) fun _ _ _ _ _ => .int _
theorem op_fdivG : OpR X (binaryOp .FloorDiv) (rI (fun _ j => j ≠ 0 ∧ j.natAbs.log2 < 9000) fun i j => .int (i.fdiv j)) := opI fun _ _ _ _ _ _ _ hc q => floordiv_int hc.1 q (.inl (PyProof.noPylong_of_log2 hc.2))
theorem op_fdivT : OpT X (binaryOp .FloorDiv) fdivT := op_i2 op_fdivG (fun _ _ h => by simp only [divI, Bool.and_eq_true, decide_eq_true_eq] at h; exact h) fun _ _ _ _ _ => .int _
theorem op_modT : OpT X (binaryOp .Mod) modT := op_i2 op_modN (fun _ _ h => of_decide_eq_true h) fun _ _ _ _ _ => .int _
theorem op_powT : OpT X (binaryOp .Pow) powT := op_i2 op_pow (fun _ _ h => by simp only [powI, Bool.and_eq_true, decide_eq_true_eq] at h; exact ⟨h.1, h.2.1, h.2.2⟩) fun _ _ _ _ _ => .int _
def negT (_ : Sto) : T → Option T
  | .int i => some (.int (-i))
  | _ => none
theorem op_negT : UnT X (unaryOp .USub) negT := by
  intro pins s σ H x v Q I rx h
  obtain ⟨M, S, tx, t, o, hx, e, fin⟩ := h
  cases tx <;> first | cases e; done | skip
  rename_i i
  obtain rfl := Option.some.inj e
  cases hx
  exact un_neg pins s σ H _ v Q I rx ⟨i, rfl, fin _ H o Ext.refl (.int _)⟩
theorem Reps.atI {G : Gd} {H : Hp} {S : Sto} {ts : List T} {vs : List V} {i : Int} {t : T} (r : Reps G H S ts vs) (e : L2.atI ts i = some t) : ∃ v, L2.atI vs i = some v ∧ Rep G H S t v := by
  unfold L2.atI at e ⊢
  rw [← r.length]
  cases q : ixN ts.length i with
  | none => rw [q] at e; cases e
  | some j =>
    rw [q] at e
    exact r.get e
def ixT (S : Sto) (x y : T) : Option T := match res S x, y with
  | .lst ts, .int i => L2.atI ts i
  | .tup ts, .int i => L2.atI ts i
  | .str z, .int i => if z.length ≤ sizeLine then (L2.atI z i).map fun c => .str [c] else none
  | _, _ => none
theorem atI_map {α β : Type} (f : α → β) (xs : List α) (i : Int) : L2.atI (xs.map f) i = (L2.atI xs i).map f := by
  unfold L2.atI
  rw [List.length_map]
  cases ixN xs.length i with
  | none => rfl
  | some j => simp
variable {a b : Expr} {ta tb : TTE} {pos : Pos}
theorem te_ix (ha : TE X a ta) (hb : TE X b tb) (hs : PlainIx b := by intro _ _; rfl) : TE X (.Subscript a b pos) (cOp ixT ta tb) := fun M S0 H0 E tk =>
  (pe_ix ix_seq (ha M S0 H0 E tk) (hb M S0 H0 E tk) hs).weak fun σ H Q h => two (fun x y H Q ⟨M, S, tx, ty, t, o, hx, hy, e, fin⟩ => by
    unfold ixT at e
    split at e
    · rename_i ts i h1
      obtain ⟨p, xs, rfl, q1, r1⟩ := res_lst o hx h1
      cases hy
      obtain ⟨w, hw, rw_⟩ := r1.atI e
      exact .inl ⟨p, xs, i, w, rfl, rfl, SqL.of q1, hw, fin _ H o Ext.refl rw_⟩
    · rename_i ts i h1
      obtain rfl := res_id h1 fun _ z => nomatch z
      cases hx with
      | tup a1 a2 =>
        cases hy
        obtain ⟨w, hw, rw_⟩ := a2.atI e
        exact .inr (.inl ⟨_, _, i, w, rfl, rfl, a1.sq, hw, fin _ H o Ext.refl rw_⟩)
    · rename_i z i h1
      obtain rfl := res_id h1 fun _ z => nomatch z
      cases hx
      cases hy
      split at e
      · rename_i hz
        obtain ⟨c, hc, rfl⟩ := Option.map_eq_some_iff.mp e
        exact .inr (.inr ⟨txt z, i, c.val, rfl, rfl, by rw [txt_len]; exact hz, by rw [txt_list, atI_map, hc]; rfl, fin (.str (txt [c])) H o Ext.refl (.str [c])⟩)
      · cases e
    · cases e) h
def cutT {α : Type} (xs : List α) (lo hi : Option Int) : List α := (xs.drop (HT.sIx xs.length 0 lo)).take (HT.sIx xs.length xs.length hi - HT.sIx xs.length 0 lo)
theorem Reps.cut {G : Gd} {H : Hp} {S : Sto} {ts : List T} {vs : List V} (r : Reps G H S ts vs) (lo hi : Option Int) : Reps G H S (cutT ts lo hi) (cutV vs lo hi) := by
  unfold cutT cutV
  rw [r.length]
  exact (r.drop _).take _
theorem reps_ints {G : Gd} {H : Hp} {S : Sto} : ∀ ms : List Int, Reps G H S (ms.map T.int) (ms.map V.int)
  | [] => .nil
  | m :: ms => .cons (.int m) (reps_ints ms)
def slT (S : Sto) (x : T) (lo hi : Option Int) : Option T := match res S x with
  | .lst ts => some (.lst (cutT ts lo hi))
  | .tup ts => some (.tup (cutT ts lo hi))
  | .str z => if z.length ≤ sizeLine then some (.str (cutT z lo hi)) else none
  | .scr ns => some (.lst ((cutT ns lo hi).map T.int))
  | _ => none
abbrev TTO := TEnv → Sto → (Option Int → Sto → Prop) → (T → Sto → Prop) → Prop
def oNo : TTO := fun _ S Q _ => Q none S
def oSome (e : TTE) : TTO := fun τ S Q E => e τ S (fun x S1 => ∃ i, x = .int i ∧ Q (some i) S1) E
def cSl (e : TTE) (lo hi : TTO) : TTE := fun τ S Q E => e τ S (fun x S1 => lo τ S1 (fun l S2 => hi τ S2 (fun u S3 => ∃ z, slT S3 x l u = some z ∧ Q z S3) E) E) E
def LO (X : Cx) (M : Addr → Prop) (S0 : Sto) (H0 : Hp) (t : TTO) (E : T → TEnv → Sto → Prop) : TO := fun σ H Q => ∃ τ S Qt, Rel (gdOf X M) S0 H0 σ H τ S ∧ t τ S Qt (fun x S' => E x τ S') ∧
  ∀ i S' H', Qt i S' → StoOk (gdOf X M) H' S' → Ext S H S' H' → Q i H'
def TOp (X : Cx) (e : Option Expr) (t : TTO) : Prop := ∀ M S0 H0 E, Takes X (wOf X M S0 H0 E) → PO X e (LO X M S0 H0 t E)
theorem to_no : TOp X none oNo := fun M S0 H0 E tk => ⟨fun pins s σ H Q I ⟨τ, S, Qt, rel, h, k⟩ => po_none.run pins s σ H Q I (k none S H h rel.sto Ext.refl)⟩
theorem to_some {e : Expr} {te : TTE} (h : TE X e te) : TOp X (some e) (oSome te) := fun M S0 H0 E tk => ⟨fun pins s σ H Q I ⟨τ, S, Qt, rel, q, k⟩ => (po_some (h M S0 H0 E tk)).run pins s σ H Q I
  ⟨τ, S, _, rel, q, fun z S1 v H1 ⟨i, e, hq⟩ o1 x1 r1 => by
    subst e
    cases r1
    exact ⟨i, rfl, k _ S1 H1 hq o1 x1⟩⟩⟩
theorem txt_cut (z : List Sg) (lo hi : Option Int) : cutS (txt z) lo hi = txt (cutT z lo hi) := by
  unfold cutS cutT txt
  show (⟨_⟩ : Str) = _
  congr 1
  have l : (Str.mk (z.map (·.val)).toArray).length = z.length := txt_len z
  rw [l]
  simp [List.map_drop, List.map_take]
theorem te_slice {e : Expr} {lo hi : Option Expr} {te : TTE} {tl th : TTO} {p2 : Pos} (he : TE X e te) (hl : TOp X lo tl) (hh : TOp X hi th) : TE X (.Subscript e (.Slice lo hi none p2) pos) (cSl te tl th) := fun M S0 H0 E tk =>
  (pe_slice (sl_list.or (sl_tupF.or sl_str)) (he M S0 H0 E tk) (hl M S0 H0 E tk) (hh M S0 H0 E tk)).weak fun σ H Q ⟨τ, S, Qt, rel, h, k⟩ => ⟨τ, S, _, rel, h, fun z S1 v H1 h1 o1 x1 r1 =>
    ⟨τ, S1, _, rel.step o1 x1, h1, fun l S2 H2 h2 o2 x2 => ⟨τ, S2, _, (rel.step o1 x1).step o2 x2, h2, fun u S3 H3 h3 o3 x3 => by
      obtain ⟨w, e, hq⟩ := h3
      have r3 := Rep.ext (x2.trans x3) _ _ r1
      have fin := fun v H' o4 x4 r4 => k w S3 v H' hq o4 (((x1.trans x2).trans x3).trans x4) r4
      unfold slT at e
      split at e
      · rename_i ts h1
        obtain rfl := Option.some.inj e
        obtain ⟨p, xs, rfl, q1, r1⟩ := res_lst o3 r3 h1
        exact .inl ⟨p, xs, rfl, SqL.of q1, fun p n => fin _ _ (o3.new n) (Ext.new n) (.lst ⟨upd_same, o3.free n, o3.nom n⟩ (Reps.ext (Ext.new n) _ _ (r1.cut l u)))⟩
      · rename_i ts h1
        obtain rfl := Option.some.inj e
        obtain rfl := res_id h1 fun _ z => nomatch z
        cases r3 with
        | tup a1 a2 =>
          refine .inr (.inl ⟨_, _, rfl, a1.sq, fun hw => ?_, fun _ p ob n nd => ?_⟩)
          · refine fin _ _ o3 Ext.refl ?_
            have e2 : cutT ts l u = ts := by
              unfold cutT
              rw [a2.length, hw.1, hw.2]
              simp [← a2.length]
            rw [e2]
            exact .tup a1 a2
          · exact fin _ _ (o3.new n) (Ext.new n) (.tup (.inl ⟨ob, ⟨upd_same, nd⟩, o3.free n, o3.nom n⟩) (Reps.ext (Ext.new n) _ _ (a2.cut l u)))
      · rename_i y h1
        obtain rfl := res_id h1 fun _ z => nomatch z
        split at e
        · rename_i hz
          obtain rfl := Option.some.inj e
          cases r3
          exact .inr (.inr ⟨txt y, rfl, by rw [txt_len]; exact hz, by rw [txt_cut]; exact fin _ _ o3 Ext.refl (.str _)⟩)
        · cases e
      · rename_i ns h1
        obtain rfl := res_id h1 fun _ z => nomatch z
        obtain rfl := Option.some.inj e
        cases r3 with
        | scr a1 =>
          refine .inl ⟨_, _, rfl, a1.sq, fun p n => fin _ _ (o3.new n) (Ext.new n) (.lst ⟨upd_same, o3.free n, o3.nom n⟩ ?_)⟩
          have : cutV (ns.map V.int) l u = (cutT ns l u).map V.int := by
            unfold cutV cutT
            rw [List.length_map]
            simp [List.map_drop, List.map_take]
          rw [this]
          exact reps_ints _
      · cases e⟩⟩⟩
end
end TL
namespace TL
open PySem PySem.Spec PyProof.Rows L2
section
variable {X : Cx} {x : Str} {p pos : Pos} {e : Expr} {es : List Expr} {ta : TTA} {bid Ty : String}
def CallT (X : Cx) (f : Value) (g : Sto → List T → Option T) : Prop := CallR X f fun xs H Q => ∃ M S ts t, StoOk (gdOf X M) H S ∧ Reps (gdOf X M) H S ts xs ∧ g S ts = some t ∧ ∀ v H', StoOk (gdOf X M) H' S → Ext S H S H' → Rep (gdOf X M) H' S t v → Q v H'
def cFn (g : Sto → List T → Option T) (a : TTA) : TTE := fun τ S Q E => a τ S (fun ts S1 => ∃ t, g S1 ts = some t ∧ Q t S1) E
theorem te_fnB {g : Sto → List T → Option T} (hc : CallT X (.builtin bid) g) (hg : Gl X x) (hm : X.mg x = none) (hv : bootBuiltins x = some (.builtin bid)) (ha : TA X (e :: es) ta) (hn : x ≠ "__name__" := by decide) (hdb : (x == ("__debug__" : Str)) = false := by decide)
    (he : starEach (e :: es) X.env = (false, eval e X.env) :: starEach es X.env := by rfl) (hpl : (backTo pos (starEach es X.env)).any (·.1) = false := by rfl) : TE X (.Call (.Name x p) (e :: es) [] pos) (cFn g ta) := fun M S0 H0 E tk =>
  (pe_callB hc hg hm hv (ha M S0 H0 E tk) hn hdb he hpl).weak fun σ H Q ⟨τ, S, Qt, rel, q, k⟩ => ⟨τ, S, _, rel, q, fun ts S1 vs H1 ⟨t, e, hq⟩ o1 x1 r1 => ⟨M, S1, ts, t, o1, r1, e, fun v H' o2 x2 r2 => k t S1 v H' hq o2 (x1.trans x2) r2⟩⟩
theorem te_fnT {g : Sto → List T → Option T} (hc : CallT X (.type Ty) g) (hg : Gl X x) (hm : X.mg x = none) (hv : bootBuiltins x = some (.type Ty)) (ha : TA X (e :: es) ta) (hn : x ≠ "__name__" := by decide) (hdb : (x == ("__debug__" : Str)) = false := by decide)
    (he : starEach (e :: es) X.env = (false, eval e X.env) :: starEach es X.env := by rfl) (hpl : (backTo pos (starEach es X.env)).any (·.1) = false := by rfl) : TE X (.Call (.Name x p) (e :: es) [] pos) (cFn g ta) := fun M S0 H0 E tk =>
  (pe_callTy hc hg hm hv (ha M S0 H0 E tk) hn hdb he hpl).weak fun σ H Q ⟨τ, S, Qt, rel, q, k⟩ => ⟨τ, S, _, rel, q, fun ts S1 vs H1 ⟨t, e, hq⟩ o1 x1 r1 => ⟨M, S1, ts, t, o1, r1, e, fun v H' o2 x2 r2 => k t S1 v H' hq o2 (x1.trans x2) r2⟩⟩
theorem Reps.one {G : Gd} {H : Hp} {S : Sto} {t : T} {vs : List V} (r : Reps G H S [t] vs) : ∃ v, vs = [v] ∧ Rep G H S t v := by
  cases r with
  | cons a b => cases b; exact ⟨_, rfl, a⟩
theorem Reps.twos {G : Gd} {H : Hp} {S : Sto} {t u : T} {vs : List V} (r : Reps G H S [t, u] vs) : ∃ v w, vs = [v, w] ∧ Rep G H S t v ∧ Rep G H S u w := by
  cases r with
  | cons a b => cases b with
    | cons b c => cases c; exact ⟨_, _, rfl, a, b⟩
def lenF (S : Sto) : List T → Option T
  | [t] => match res S t with
    | .lst ts => some (.int ts.length)
    | .tup ts => some (.int ts.length)
    | .str z => if z.length ≤ sizeLine then some (.int z.length) else none
    | _ => none
  | _ => none
theorem fn_len : CallT X (.builtin "len") lenF := by
  intro pins s σ H xs us Q I r h
  obtain ⟨M, S, ts, t, o, rs, e, fin⟩ := h
  unfold lenF at e
  split at e
  · rename_i y
    obtain ⟨v, rfl, ry⟩ := rs.one
    split at e
    · rename_i zs hz
      obtain rfl := Option.some.inj e
      obtain ⟨a, ws, rfl, h1, h2⟩ := res_lst o ry hz
      exact call_len pins s σ H _ us Q I r ⟨_, _, rfl, .inl ⟨ws, SqL.of h1, rfl⟩, by rw [← h2.length]; exact fin _ H o Ext.refl (.int _)⟩
    · rename_i zs hz
      obtain rfl := Option.some.inj e
      obtain rfl := res_id hz fun _ z => nomatch z
      cases ry with
      | tup h1 h2 => exact call_len pins s σ H _ us Q I r ⟨_, _, rfl, .inr ⟨_, h1.sq, rfl⟩, by rw [← h2.length]; exact fin _ H o Ext.refl (.int _)⟩
    · rename_i z hz
      obtain rfl := res_id hz fun _ z => nomatch z
      split at e
      · rename_i hl
        obtain rfl := Option.some.inj e
        cases ry
        exact call_len pins s σ H _ us Q I r ⟨_, _, rfl, ⟨by rw [txt_len]; exact hl, rfl⟩, by rw [txt_len]; exact fin _ H o Ext.refl (.int _)⟩
      · cases e
    · cases e
  · cases e
def absF (_ : Sto) : List T → Option T
  | [.int i] => some (.int (if i < 0 then -i else i))
  | _ => none
theorem fn_abs : CallT X (.builtin "abs") absF := by
  intro pins s σ H xs us Q I r h
  obtain ⟨M, S, ts, t, o, rs, e, fin⟩ := h
  unfold absF at e
  split at e
  · rename_i i
    obtain rfl := Option.some.inj e
    obtain ⟨v, rfl, ry⟩ := rs.one
    cases ry
    exact call_abs pins s σ H _ us Q I r ⟨i, rfl, fin _ H o Ext.refl (.int _)⟩
  · cases e
def intF (_ : Sto) : List T → Option T
  | [.int i] => some (.int i)
  | [.bl b] => some (.int (if b then 1 else 0))
  | _ => none
theorem fn_int : CallT X (.type "int") intF := by
  intro pins s σ H xs us Q I r h
  obtain ⟨M, S, ts, t, o, rs, e, fin⟩ := h
  unfold intF at e
  split at e
  · rename_i i
    obtain rfl := Option.some.inj e
    obtain ⟨v, rfl, ry⟩ := rs.one
    cases ry
    exact call_int1 pins s σ H _ us Q I r (.inl ⟨i, rfl, fin _ H o Ext.refl (.int _)⟩)
  · rename_i i
    obtain rfl := Option.some.inj e
    obtain ⟨v, rfl, ry⟩ := rs.one
    cases ry
    exact call_int1 pins s σ H _ us Q I r (.inr ⟨i, rfl, fin _ H o Ext.refl (.int _)⟩)
  · cases e
def tupleF (S : Sto) : List T → Option T
  | [t] => match res S t with
    | .lst ts => some (.tup ts)
    | .tup ts => some (.tup ts)
    | _ => none
  | _ => none
theorem fn_tuple : CallT X (.type "tuple") tupleF := by
  intro pins s σ H xs us Q I r h
  obtain ⟨M, S, ts, t, o, rs, e, fin⟩ := h
  unfold tupleF at e
  split at e
  · obtain ⟨v, rfl, ry⟩ := rs.one
    split at e
    · rename_i zs hz
      obtain rfl := Option.some.inj e
      obtain ⟨a, ws, rfl, h1, h2⟩ := res_lst o ry hz
      exact call_tupleF pins s σ H _ us Q I r ⟨a, ws, rfl, .inl ⟨SqL.of h1, fun l ob n nd => fin _ _ (o.new n) (Ext.new n) (.tup (.inl ⟨ob, ⟨upd_same, nd⟩, o.free n, o.nom n⟩) (Reps.ext (Ext.new n) _ _ h2))⟩⟩
    · rename_i zs hz
      obtain rfl := Option.some.inj e
      obtain rfl := res_id hz fun _ z => nomatch z
      cases ry with
      | tup h1 h2 => exact call_tupleF pins s σ H _ us Q I r ⟨_, _, rfl, .inr ⟨h1.sq, fin _ _ o Ext.refl (.tup h1 h2)⟩⟩
    · cases e
  · cases e
def listF (S : Sto) : List T → Option T
  | [t] => match res S t with
    | .lst ts => some (.lst ts)
    | .tup ts => some (.lst ts)
    | _ => none
  | _ => none
theorem fn_list : CallT X (.type "list") listF := by
  intro pins s σ H xs us Q I r h
  obtain ⟨M, S, ts, t, o, rs, e, fin⟩ := h
  unfold listF at e
  split at e
  · obtain ⟨v, rfl, ry⟩ := rs.one
    split at e
    · rename_i zs hz
      obtain rfl := Option.some.inj e
      obtain ⟨a, ws, rfl, h1, h2⟩ := res_lst o ry hz
      exact call_list_of pins s σ H _ us Q I r ⟨a, ws, rfl, .inl (SqL.of h1), fun l n => fin _ _ (o.new n) (Ext.new n) (.lst ⟨upd_same, o.free n, o.nom n⟩ (Reps.ext (Ext.new n) _ _ h2))⟩
    · rename_i zs hz
      obtain rfl := Option.some.inj e
      obtain rfl := res_id hz fun _ z => nomatch z
      cases ry with
      | tup h1 h2 => exact call_list_of pins s σ H _ us Q I r ⟨_, _, rfl, .inr h1.sq, fun l n => fin _ _ (o.new n) (Ext.new n) (.lst ⟨upd_same, o.free n, o.nom n⟩ (Reps.ext (Ext.new n) _ _ h2))⟩
    · cases e
  · cases e
def max2F (_ : Sto) : List T → Option T
  | [.int i, .int j] => some (.int (if j > i then j else i))
  | _ => none
def min2F (_ : Sto) : List T → Option T
  | [.int i, .int j] => some (.int (if j < i then j else i))
  | _ => none
theorem fn_max2 (hc : X.calm = true) : CallT X (.builtin "max") max2F := by
  intro pins s σ H xs us Q I r h
  obtain ⟨M, S, ts, t, o, rs, e, fin⟩ := h
  unfold max2F at e
  split at e
  · rename_i i j
    obtain rfl := Option.some.inj e
    obtain ⟨v, w, rfl, r1, r2⟩ := rs.twos
    cases r1
    cases r2
    exact call_max2 hc pins s σ H _ us Q I r ⟨i, j, rfl, fin _ _ o Ext.refl (.int _)⟩
  · cases e
def leT' (x y : T) : Bool := !ltt y x
/-- all alike, and of tuples with something in them, or of none -/
def sortOk (ts : List T) : Bool := ts.all (fun x => okd x && ts.all fun y => alk x y) && (ts.all (fun x => match x with | .tup (_ :: _) => true | _ => false) || ts.all fun x => match x with | .tup _ => false | .non => false | _ => true)
theorem sortOk_of {ts : List T} (h : sortOk ts = true) : (∀ x ∈ ts, okd x = true) ∧ PySem.W.AllAlike (ts.map dat) ∧ PySem.W.Sortable (ts.map dat) ∧ ∀ x ∈ ts, ∀ y ∈ ts, PySem.W.dataLt (dat x) (dat y) = ltt x y := by
  simp only [sortOk, Bool.and_eq_true, Bool.or_eq_true, List.all_eq_true] at h
  obtain ⟨h1, h2⟩ := h
  have ok : ∀ x ∈ ts, okd x = true := fun x hx => (h1 x hx).1
  have al : ∀ x ∈ ts, ∀ y ∈ ts, alk x y = true := fun x hx y hy => (h1 x hx).2 y hy
  refine ⟨ok, fun d hd d' hd' => ?_, ?_, fun x hx y hy => ?_⟩
  · obtain ⟨x, hx, rfl⟩ := List.mem_map.mp hd
    obtain ⟨y, hy, rfl⟩ := List.mem_map.mp hd'
    rw [alk_dat x y (okd_plain (ok x hx)) (okd_plain (ok y hy))]
    exact al x hx y hy
  · rcases h2 with h2 | h2
    · refine .inl fun d hd => ?_
      obtain ⟨x, hx, rfl⟩ := List.mem_map.mp hd
      have := h2 x hx
      cases x with
      | tup l =>
        cases l with
        | nil => cases this
        | cons a b => exact ⟨_, _, rfl⟩
      | _ => cases this
    · refine .inr fun d hd => ?_
      obtain ⟨x, hx, rfl⟩ := List.mem_map.mp hd
      have := h2 x hx
      have pl := okd_plain (ok x hx)
      cases x <;> first | (cases this; done) | (cases pl; done) | exact ⟨(fun z => nomatch z), fun _ z => nomatch z⟩
  · by_cases hn : x = .non
    · subst hn
      have hyn := al _ hx y hy
      have hxx := h2
      cases y <;> first | (simp [alk] at hyn; done) | skip
      rcases h2 with h2 | h2
      · exact absurd (h2 _ hx) (by simp)
      · exact absurd (h2 _ hx) (by simp)
    · exact ltt_dat x y (okd_plain (ok x hx)) (okd_plain (ok y hy)) (al x hx y hy) hn
def sortedF (S : Sto) : List T → Option T
  | [t] => match res S t with
    | .lst ts => if (sortOk ts && decide (ts.length ≤ sizeLine)) = true then some (.lst (ts.mergeSort leT')) else none
    | .tup ts => if (sortOk ts && decide (ts.length ≤ sizeLine)) = true then some (.lst (ts.mergeSort leT')) else none
    | _ => none
  | _ => none
end
end TL
namespace TL
open PySem PySem.Spec PyProof.Rows L2
/-- values that lie as trees -/
abbrev VT (G : Gd) (H : Hp) (S : Sto) (u : Value) (t : T) : Prop := ∃ v, RelV v u ∧ Rep G H S t v
theorem eachVT {G : Gd} {H : Hp} {S : Sto} : ∀ {ts : List T} {vs : List V} {us : List Value}, Reps G H S ts vs → Vals vs us → PySem.W.EachIs (VT G H S) us ts
  | [], _, _, r, q => by cases r; cases q; exact .nil
  | _ :: _, _, _, r, q => by
    cases r with
    | cons a b => cases q with
      | cons c d => exact .cons ⟨_, c, a⟩ (eachVT b d)
theorem ofVT {G : Gd} {H : Hp} {S : Sto} : ∀ {ts : List T} {us : List Value}, PySem.W.EachIs (VT G H S) us ts → ∃ vs, Reps G H S ts vs ∧ Vals vs us
  | [], _, r => by cases r; exact ⟨[], .nil, .nil⟩
  | _ :: _, _, r => by
    cases r with
    | cons a b =>
      obtain ⟨v, h1, h2⟩ := a
      obtain ⟨vs, h3, h4⟩ := ofVT b
      exact ⟨v :: vs, .cons h2 h3, .cons h1 h4⟩
theorem mergeSort_leT (ts : List T) (h : ∀ x ∈ ts, ∀ y ∈ ts, PySem.W.dataLt (dat x) (dat y) = ltt x y) : ts.mergeSort (PySem.W.dataLe false dat) = ts.mergeSort leT' :=
  PySem.W.sort_congr fun a ha b hb => by
    rw [PySem.W.dataLe_eq]
    show (!PySem.W.dataLt (dat b) (dat a)) = !ltt b a
    rw [h b hb a ha]
section
variable {X : Cx} {pins : List (Addr × Obj)} {s : Shared} {σ : L2.St} {H : Hp} {S : Sto} {M : Addr → Prop} {Q : VK}
/-- sorted(src), src anything that is collected into trees -/
theorem sorted_via (hu : X.A.units + 70 < cLine) {src : Value} {Pt : List T → Prop} (o : StoOk (gdOf X M) H S)
    (hcol : ∀ (A : Around) (E : Value → Shared → Prop) (R : List Value → Shared → Prop), A.handled = X.A.handled → (∀ out s1 ts, Inv X pins σ H s1 → PySem.W.EachIs (VT (gdOf X M) H S) out ts → Pt ts → R out s1) → wpAny (model X.prog X.w) A (collect src) R E s)
    (ok : ∀ ts, Pt ts → sortOk ts = true ∧ ts.length ≤ sizeLine)
    (fin : ∀ ts v H', Pt ts → StoOk (gdOf X M) H' S → Ext S H S H' → Rep (gdOf X M) H' S (.lst (ts.mergeSort leT')) v → (∀ p, v = .ref p → H p = none ∧ ∃ xs, H' = upd H p (.lst xs)) → Q v H') :
    wpAny (model X.prog X.w) X.A (call (.builtin "sorted") [src]) (EP X pins σ Q) X.xe s := by
  refine call_function_entry_kw kind_sorted plain_sorted entry_sorted (args_sorted1 _) ?_
  unfold Builtin.«sorted»
  refine wpAny_bind (m := checkCount "sorted" 1 1 _) (wpAny_pure ?_)
  refine wpAny_bind (hcol _ _ _ rfl fun out s1 ts I1 each pt => ?_)
  obtain ⟨so, hl⟩ := ok ts pt
  obtain ⟨k1, k2, k3, k4⟩ := sortOk_of so
  have lo := each.length
  refine wpAny_bind (wpAny_newList ?_ (by rw [lo]; exact hl))
  have hat : (s1.heap.push (seqObj "list" out.toArray 0)).get? s1.heap.objs.size = some (seqObj "list" out.toArray 0) := Heap.get?_push_size _ rfl
  have rd : PySem.W.EachIs (fun v b => ∃ as, Reads (PySem.W.sortingHeap (s1.heap.push (seqObj "list" out.toArray 0)) s1.heap.objs.size out) v (dat b) as) out ts := by
    refine PySem.W.EachIs.mono (fun u t z => ?_) (PySem.W.each_mem each)
    obtain ⟨⟨v, r1, r2⟩, hm⟩ := z
    obtain ⟨as, q⟩ := Dp.reads I1 _ _ _ (Rep.dp _ _ r2 (okd_plain (k1 t hm))) r1
    exact ⟨as, Reads.keeps (fun b ob e => PySem.W.sortingHeap_old (Nat.ne_of_lt (Heap.lt_size e)) (Heap.get?_push_of_some _ e)) q⟩
  have dp : ∀ d, d ∈ ts.map dat → X.A.in1.in1.units + d.depth < cLine := fun d hd => by
    obtain ⟨t, ht, rfl⟩ := List.mem_map.mp hd
    have z := SeqAt.depth_of_shaped (okd_shaped (k1 t ht))
    show X.A.units + 1 + 1 + _ < _
    omega
  have srt := PySem.W.SortsAt.data (prog := X.prog) (w := X.w) (A := X.A.in1.in1) (s := { s1 with heap := PySem.W.sortingHeap (s1.heap.push (seqObj "list" out.toArray 0)) s1.heap.objs.size out }) (PySem.W.each_map dat (R := fun v d => ∃ as, Reads (PySem.W.sortingHeap (s1.heap.push (seqObj "list" out.toArray 0)) s1.heap.objs.size out) v d as) rd) k2 k3 dp
  have val := PySem.W.sortVals_data false each rd k2
  rw [mergeSort_leT ts k4] at val
  refine wpAny_bind (wpAny_holding (wpAny_call_entry_kw slot_list_sort ⟨_, hat, rfl⟩ entry_list_sort (PySem.W.list_sort_vals (s := { s1 with heap := s1.heap.push (seqObj "list" out.toArray 0) }) hat srt (by rw [lo]; exact hl) ⟨.none, rfl, ?_⟩) (args_list_sort _)))
  obtain ⟨ep, hnew⟩ := sortedHeap_at (vs := out) (out := (PySem.W.sortVals (PySem.W.dataKind (PySem.W.sortingHeap (s1.heap.push (seqObj "list" out.toArray 0)) s1.heap.objs.size out) (ts.map dat)) false out out).toArray) hat
  obtain ⟨ws, rw1, rw2⟩ := ofVT val
  have nH : H s1.heap.objs.size = none := I1.hok.fresh (Nat.le_refl _)
  have lw : ws.length ≤ sizeLine := by rw [← rw1.length, List.length_mergeSort]; exact hl
  have I2 : Inv X pins σ (upd H s1.heap.objs.size (.lst ws)) { s1 with heap := sortedHeap (s1.heap.push (seqObj "list" out.toArray 0)) s1.heap.objs.size out (PySem.W.sortVals (PySem.W.dataKind (PySem.W.sortingHeap (s1.heap.push (seqObj "list" out.toArray 0)) s1.heap.objs.size out) (ts.map dat)) false out out).toArray } :=
    I1.laid (t' := s1.toks) (fun b ob e => by
      rw [sortedHeap_old (Nat.ne_of_lt (Heap.lt_size e)) (by rw [size_push']; exact Nat.lt_succ_of_lt (Heap.lt_size e))]
      exact Heap.get?_push_of_some _ e) (Nat.le_refl _) ⟨lw, _, ep, rw2, hnew⟩
  exact wpAny_pure ⟨_, rfl, .ref s1.heap.objs.size, _, I2, rfl, fin ts _ _ pt (o.new nH) (Ext.new nH) (.lst ⟨upd_same, o.free nH, o.nom nH⟩ (Reps.ext (Ext.new nH) _ _ rw1)) fun p e => by
    injection e with e
    subst e
    exact ⟨nH, ws, rfl⟩⟩
/-- what a tuple or a list collects -/
theorem collect_seqT (I : Inv X pins σ H s) {a : Addr} {vs : List V} {ts : List T} (h : SqL X.K H a vs ∨ SqT X.K H a vs) (r : Reps (gdOf X M) H S ts vs) {A : Around} {E : Value → Shared → Prop} {R : List Value → Shared → Prop}
    (k : ∀ out s1, Inv X pins σ H s1 → PySem.W.EachIs (VT (gdOf X M) H S) out ts → R out s1) : wpAny (model X.prog X.w) A (collect (.ref a)) R E s := by
  have main : ∀ (Ty : String) (ob : Obj) (its : List Value) (n : Nat), (Ty = "list" ∨ Ty = "tuple") → s.heap.get? a = some ob → ob.cls = .type Ty → ob.data = .seq its.toArray n → Vals vs its → its.length ≤ sizeLine → wpAny (model X.prog X.w) A (collect (.ref a)) R E s := by
    intro Ty ob its n hT ho hc hd hv hz
    unfold collect
    refine wpAny_bind (wpAny_runValue (codeAny_builtin entry_proto_collect' ?_))
    show wpAny _ _ (do again (.builtin "list.__iadd__" ⟨[← newList [], .ref a], []⟩)) _ _ s
    have nw : (s.heap.push (seqObj "list" #[] 0)).get? s.heap.objs.size = some { cls := .type "list", data := .seq #[] 0 } := Heap.get?_push_size _ rfl
    refine wpAny_bind (wpAny_newList (wpAny_pure ⟨Code.quiet_builtin _ (by decide +kernel), codeAny_builtin entry_list_iadd' ?_⟩))
    have ho' : (s.heap.push (seqObj "list" #[] 0)).get? a = some ob := Heap.get?_push_of_some _ ho
    show wpAny _ _ (Builtin.List.listExtendWith (Value.ref s.heap.objs.size) (Value.ref a) (Value.ref s.heap.objs.size)) _ _ { s with heap := s.heap.push (seqObj "list" #[] 0) }
    unfold Builtin.List.listExtendWith
    refine wpAny_bind (wpAny_typeOf (T := Ty) ⟨ob, ho', hc⟩ ?_)
    have yes1 : (Builtin.List.listSameRef (Value.ref s.heap.objs.size) (Value.ref a) || Value.type Ty == Value.type "list" || Value.type Ty == Value.type "tuple") = true := by
      rcases hT with z | z <;> (subst z; simp)
    rw [if_pos yes1]
    refine wpAny_bind (listItems_at ho' hd ?_)
    refine wpAny_bind (listItems_at (xs := #[]) (n := 0) nw rfl ?_)
    have no1 : ¬(!(#[] : Array Value).isEmpty && Builtin.List.listTooLong ((#[] : Array Value).size + its.toArray.size)) = true := by simp
    rw [if_neg no1]
    have fits1 : ((#[] : Array Value) ++ its.toArray).size ≤ sizeLine + 1 := by
      simp
      omega
    refine wpAny_bind (listUpdate_at (xs := #[]) (n := 0) nw rfl ?_ (Nat.zero_le _) fits1)
    refine wpAny_pure ?_
    show wpAny (model X.prog X.w) A (do
      let o ← load s.heap.objs.size
      match o.data with
      | .seq xs _ => pure xs.toList
      | _ => unsupported "internal:collect") R E { s with heap := (s.heap.push (seqObj "list" #[] 0)).update s.heap.objs.size (Obj.mapSeq (· ++ its.toArray)) }
    refine wpAny_bind (wpAny_load (get?_update_seq (Heap.get?_push_size _ rfl) _) ?_)
    show wpAny _ _ (pure ((#[] : Array Value) ++ its.toArray).toList) R E _
    rw [show ((#[] : Array Value) ++ its.toArray).toList = its by simp]
    refine wpAny_pure (k its _ (I.kept (t' := s.toks) fun b u e => ?_) (eachVT r hv))
    rw [Heap.get?_update_ne _ _ _ _ (Nat.ne_of_lt (Heap.lt_size e))]
    exact Heap.get?_push_of_some _ e
  rcases h with h | h
  · obtain ⟨its, hv, ⟨ob, n, h1, h2, _, h4⟩, hz⟩ := I.list h
    exact main "list" ob its n (.inl rfl) h1 h2 h4 hv (by rw [← hv.length]; exact hz)
  · obtain ⟨its, hv, ⟨ob, h1, h2, n, h4⟩, hz⟩ := I.tuple h
    exact main "tuple" ob its n (.inr rfl) h1 h2 h4 hv (by rw [← hv.length]; exact hz)
theorem fn_sorted (hu : X.A.units + 70 < cLine) : CallT X (.builtin "sorted") sortedF := by
  intro pins s σ H xs us Q I r h
  obtain ⟨M, S, ts, t, o, rs, e, fin⟩ := h
  unfold sortedF at e
  split at e
  · rename_i y
    obtain ⟨v, rfl, ry⟩ := rs.one
    obtain ⟨u, rfl, ru⟩ := vals1 r
    have go : ∀ (a : Addr) (ws : List V) (zs : List T), v = .ref a → (SqL X.K H a ws ∨ SqT X.K H a ws) → Reps (gdOf X M) H S zs ws → (if (sortOk zs && decide (zs.length ≤ sizeLine)) = true then some (T.lst (zs.mergeSort leT')) else none) = some t →
        wpAny (model X.prog X.w) X.A (call (.builtin "sorted") [u]) (EP X pins σ Q) X.xe s := by
      intro a ws zs ev hs rz e
      subst ev
      obtain rfl : u = .ref a := ru
      split at e
      · rename_i c
        obtain ⟨c1, c2⟩ := Bool.and_eq_true_iff.mp c
        obtain rfl := Option.some.inj e
        exact sorted_via (Pt := fun x => x = zs) hu o (fun A E R _ k => collect_seqT I hs rz fun out s1 I1 ee => k out s1 zs I1 ee rfl) (fun x hx => by rw [hx]; exact ⟨c1, of_decide_eq_true c2⟩) fun x w H' hx o2 x2 r2 _ => by
          subst hx
          exact fin w H' o2 x2 r2
      · cases e
    split at e
    · rename_i zs hz
      obtain ⟨a, ws, rfl, h1, h2⟩ := res_lst o ry hz
      exact go a ws zs rfl (.inl (SqL.of h1)) h2 e
    · rename_i zs hz
      obtain rfl := res_id hz fun _ z => nomatch z
      cases ry with
      | tup h1 h2 => exact go _ _ zs rfl (.inr h1.sq) h2 e
    · cases e
  · cases e
end
end TL
namespace TL
open PySem PySem.Spec PyProof.Rows L2
abbrev NoE : T → Sto → Prop := fun _ _ => False
theorem takesN {X : Cx} {M : Addr → Prop} {S0 : Sto} {H0 : Hp} : Takes X (wOf X M S0 H0 EN) := takes0.imp fun c d σ H ⟨_, _, _, _, _, z⟩ => z.elim
/-- xs.extend(t), t a tuple -/
theorem meets_extT (l : Addr) (items : Array Value) (n : Nat) (b : Addr) (items2 : Array Value) (n2 : Nat) (h1 : items.size ≤ sizeLine) (h2 : items.size + items2.size ≤ sizeLine) :
    Meets (Builtin.«list.extend» ⟨[.ref l, .ref b], []⟩) (fun _ R s => s.heap.get? l = some { cls := .type "list", dict := none, data := .seq items n, slots := #[] } ∧ (∃ ob, s.heap.get? b = some ob ∧ ob.cls = .type "tuple" ∧ ob.data = .seq items2 n2) ∧ R (.ok (.ret Value.none)) { s with heap := s.heap.update l (Obj.mapSeq fun x => x ++ items2) }) :=
  .of_wp fun prog w A R s ⟨hl, ⟨ob, hb, hc, hd⟩, hR⟩ => by
    show wpAny _ _ (Builtin.List.listExtendWith (.ref l) (.ref b) .none) _ _ s
    unfold Builtin.List.listExtendWith
    refine wpAny_bind (wpAny_typeOf (T := "tuple") ⟨ob, hb, hc⟩ ?_)
    rw [if_pos (by simp)]
    refine wpAny_bind (listItems_at hb hd ?_)
    refine wpAny_bind (listItems_at hl rfl ?_)
    have no1 : ¬(!items.isEmpty && Builtin.List.listTooLong (items.size + items2.size)) = true := by
      rw [notLongL h2, Bool.and_false]
      exact Bool.false_ne_true
    rw [if_neg no1]
    refine wpAny_bind (listUpdate_at hl rfl ?_ h1 (by rw [Array.size_append]; omega))
    exact wpAny_pure ⟨_, rfl, hR⟩
def rExtB (K : PySem.W.Frag) : V → List V → Hp → VK → Prop := fun x vs H Q => ∃ l b xs zs, x = .ref l ∧ vs = [.ref b] ∧ H l = some (.lst xs) ∧ (H b = some (.lst zs) ∨ SqT K H b zs) ∧ xs.length + zs.length ≤ sizeLine ∧ Q .non (upd H l (.lst (xs ++ zs)))
theorem mt_extB {X : Cx} : MtM X "list.extend" (rExtB X.K) := by
  intro pins s σ H x vs v us Q I rx rv h
  obtain ⟨l, b, xs, zs, rfl, rfl, hH, hB, hz, q⟩ := h
  rcases hB with hB | hB
  · exact mt_extend pins s σ H (.ref l) [.ref b] v us Q I rx rv ⟨l, b, xs, zs, rfl, rfl, hH, hB, hz, q⟩
  cases rx
  obtain ⟨u, rfl, ru⟩ := rv.one
  cases ru
  obtain ⟨z, its, n, r, hl, e⟩ := I.lstM hH
  obtain ⟨its2, r2, ⟨ob, hb, hc, n2, hd⟩, _⟩ := I.tuple hB
  have l2 := r2.length
  have hsz : its.toArray.size + its2.toArray.size ≤ sizeLine := by rw [List.size_toArray, List.size_toArray]; omega
  refine call_meets F.slot_list_extend ⟨_, e, rfl⟩ F.entry_list_extend (F.args_list_extend_2 _ _) (meets_extT l its.toArray n b its2.toArray n2 (by rw [List.size_toArray]; omega) hsz) ⟨e, ⟨ob, hb, hc, hd⟩, ?_⟩
  refine ⟨.non, _, I.lset (its' := its ++ its2) hH e (by simp) (r.append r2) ?_, rfl, q⟩
  rw [List.length_append]
  omega
def sqv : T → Option (List T)
  | .lst zs => some zs
  | .tup zs => some zs
  | _ => none
def cApp (o e : TTE) : TTE := fun τ S Q E => o τ S (fun x S1 => ∃ a us, x = .ref a ∧ S1 a = some (.lst us) ∧ e τ S1 (fun y S2 => ∃ ts, S2 a = some (.lst ts) ∧ ts.length < sizeLine ∧ Q .non (ups S2 a (.lst (ts ++ [y])))) E) E
def cExt (o e : TTE) : TTE := fun τ S Q E => o τ S (fun x S1 => ∃ a us, x = .ref a ∧ S1 a = some (.lst us) ∧ e τ S1 (fun y S2 => ∃ ts zs, S2 a = some (.lst ts) ∧ sqv (res S2 y) = some zs ∧ ts.length + zs.length ≤ sizeLine ∧ Q .non (ups S2 a (.lst (ts ++ zs)))) E) E
def cPop (o : TTE) : TTE := fun τ S Q E => o τ S (fun x S1 => ∃ a ts y, x = .ref a ∧ S1 a = some (.lst ts) ∧ ts.getLast? = some y ∧ Q y (ups S1 a (.lst ts.dropLast))) E
def cClr (o : TTE) : TTE := fun τ S Q E => o τ S (fun x S1 => ∃ a ts, x = .ref a ∧ S1 a = some (.lst ts) ∧ Q .non (ups S1 a (.lst []))) E
def gIx (o i : TTE) : TTG := fun z τ S Q => o τ S (fun x S1 => i τ S1 (fun k S2 => ∃ a ts n j, x = .ref a ∧ S2 a = some (.lst ts) ∧ k = .int n ∧ ixN ts.length n = some j ∧ Q τ (ups S2 a (.lst (ts.set j z)))) NoE) NoE
section
variable {X : Cx} {o e i : Expr} {to te ti : TTE} {apos cpos pos : Pos}
theorem ty_list {M : Addr → Prop} {S : Sto} {H : Hp} {a : Addr} {us : List T} (ok : StoOk (gdOf X M) H S) (h : S a = some (.lst us)) : tyV X.K "list" (.ref a) H := by
  obtain ⟨xs, h1, _⟩ := ok.at_ a _ h
  exact .inl ⟨rfl, xs, SqL.of h1⟩
/-- a cell of a list is written -/
theorem cell_set {M : Addr → Prop} {S : Sto} {H : Hp} {a : Addr} {ts us : List T} {ys : List V} (ok : StoOk (gdOf X M) H S) (h : S a = some (.lst ts)) (r : Reps (gdOf X M) H S us ys) :
    StoOk (gdOf X M) (upd H a (.lst ys)) (ups S a (.lst us)) ∧ Ext S H (ups S a (.lst us)) (upd H a (.lst ys)) :=
  have x : Ext S H (ups S a (.lst us)) (upd H a (.lst ys)) := Ext.cell (.inr ⟨_, h⟩)
  ⟨ok.cell (.inr ⟨_, h⟩) ⟨ys, upd_same, Reps.ext x _ _ r⟩, x⟩
theorem te_app (ho : TE X o to) (he : TE X e te) (hbase : attributeBase o "append" X.env (eval o X.env) = eval o X.env := by rfl)
    (hfew : ((backTo cpos (starEach [e] X.env)).all (fun x => !x.1) && (backToKw cpos (keywordEach [] X.env)).all (fun x => x.1.isSome) && decide (([e] : List Expr).length + ([] : List Keyword).length + (if ([] : List Keyword).isEmpty then 0 else 1) < 30)) = true := by rfl)
    (hline : (apos.endLine == cpos.line) = true := by rfl) (hs : starEach [e] X.env = (false, eval e X.env) :: starEach [] X.env := by rfl) (hplain : (backTo cpos (starEach [] X.env)).any (·.1) = false := by rfl) :
    TE X (.Call (.Attribute o "append" apos) [e] [] cpos) (cApp to te) := fun M S0 H0 E tk =>
  (pe_bm PySem.F.plainAttrs_list PySem.F.slot_list_append PySem.F.type_list_append mt_append (ho M S0 H0 E tk) (ta_cons he ta_nil hs M S0 H0 E tk) hbase hfew hline hs hplain).weak fun σ H Q ⟨τ, S, Qt, rel, h, k⟩ =>
    ⟨τ, S, _, rel, h, fun z S1 v H1 ⟨a, us, ez, hs1, h1⟩ o1 x1 r1 => by
      subst ez
      cases r1
      refine ⟨ty_list o1 hs1, τ, S1, fun zs S2 => ∃ y, zs = [y] ∧ ∃ ts, S2 a = some (.lst ts) ∧ ts.length < sizeLine ∧ Qt .non (ups S2 a (.lst (ts ++ [y]))), rel.step o1 x1, ?_, fun zs S2 vs H2 h2 o2 x2 r2 => ?_⟩
      · show te τ S1 (fun y S2 => ∃ y', [y] = [y'] ∧ ∃ ts, S2 a = some (.lst ts) ∧ ts.length < sizeLine ∧ Qt .non (ups S2 a (.lst (ts ++ [y'])))) fun x S' => E x τ S'
        have e : ∀ (y : T) (S2 : Sto), (∃ y', [y] = [y'] ∧ ∃ ts, S2 a = some (.lst ts) ∧ ts.length < sizeLine ∧ Qt .non (ups S2 a (.lst (ts ++ [y'])))) = ∃ ts, S2 a = some (.lst ts) ∧ ts.length < sizeLine ∧ Qt .non (ups S2 a (.lst (ts ++ [y]))) := fun y S2 => by
          simp only [List.cons.injEq, and_true, exists_eq_left']
        simp only [e]
        exact h1
      · obtain ⟨y, rfl, ts, q1, q2, q3⟩ := h2
        obtain ⟨w, rfl, rw1⟩ := r2.one
        obtain ⟨xs, p1, p2⟩ := o2.at_ a _ q1
        have l := p2.length
        obtain ⟨o3, x3⟩ := cell_set (us := ts ++ [y]) (ys := xs ++ [w]) o2 q1 (p2.append (.cons rw1 .nil))
        exact ⟨a, xs, w, rfl, rfl, p1, by omega, k _ _ _ _ q3 o3 ((x1.trans x2).trans x3) .non⟩⟩
theorem res_sqv {M : Addr → Prop} {S : Sto} {H : Hp} {y : T} {v : V} {zs : List T} (o : StoOk (gdOf X M) H S) (r : Rep (gdOf X M) H S y v) (e : sqv (res S y) = some zs) : ∃ b ws, v = .ref b ∧ (H b = some (.lst ws) ∨ SqT X.K H b ws) ∧ Reps (gdOf X M) H S zs ws := by
  cases q : res S y with
  | lst us =>
    rw [q] at e
    cases e
    obtain ⟨b, ws, e1, h1, h2⟩ := res_lst o r q
    exact ⟨b, ws, e1, .inl h1, h2⟩
  | tup us =>
    rw [q] at e
    cases e
    obtain rfl := res_id q fun _ z => nomatch z
    cases r with
    | tup h1 h2 => exact ⟨_, _, rfl, .inr h1.sq, h2⟩
  | _ => rw [q] at e; cases e
theorem te_ext (ho : TE X o to) (he : TE X e te) (hbase : attributeBase o "extend" X.env (eval o X.env) = eval o X.env := by rfl)
    (hfew : ((backTo cpos (starEach [e] X.env)).all (fun x => !x.1) && (backToKw cpos (keywordEach [] X.env)).all (fun x => x.1.isSome) && decide (([e] : List Expr).length + ([] : List Keyword).length + (if ([] : List Keyword).isEmpty then 0 else 1) < 30)) = true := by rfl)
    (hline : (apos.endLine == cpos.line) = true := by rfl) (hs : starEach [e] X.env = (false, eval e X.env) :: starEach [] X.env := by rfl) (hplain : (backTo cpos (starEach [] X.env)).any (·.1) = false := by rfl) :
    TE X (.Call (.Attribute o "extend" apos) [e] [] cpos) (cExt to te) := fun M S0 H0 E tk =>
  (pe_bm PySem.F.plainAttrs_list PySem.F.slot_list_extend PySem.F.type_list_extend mt_extB (ho M S0 H0 E tk) (ta_cons he ta_nil hs M S0 H0 E tk) hbase hfew hline hs hplain).weak fun σ H Q ⟨τ, S, Qt, rel, h, k⟩ =>
    ⟨τ, S, _, rel, h, fun z S1 v H1 ⟨a, us, ez, hs1, h1⟩ o1 x1 r1 => by
      subst ez
      cases r1
      refine ⟨ty_list o1 hs1, τ, S1, fun ys S2 => ∃ y, ys = [y] ∧ ∃ ts zs, S2 a = some (.lst ts) ∧ sqv (res S2 y) = some zs ∧ ts.length + zs.length ≤ sizeLine ∧ Qt .non (ups S2 a (.lst (ts ++ zs))), rel.step o1 x1, ?_, fun zs S2 vs H2 h2 o2 x2 r2 => ?_⟩
      · show te τ S1 (fun y S2 => ∃ y', [y] = [y'] ∧ ∃ ts zs, S2 a = some (.lst ts) ∧ sqv (res S2 y') = some zs ∧ ts.length + zs.length ≤ sizeLine ∧ Qt .non (ups S2 a (.lst (ts ++ zs)))) fun x S' => E x τ S'
        have e : ∀ (y : T) (S2 : Sto), (∃ y', [y] = [y'] ∧ ∃ ts zs, S2 a = some (.lst ts) ∧ sqv (res S2 y') = some zs ∧ ts.length + zs.length ≤ sizeLine ∧ Qt .non (ups S2 a (.lst (ts ++ zs)))) = ∃ ts zs, S2 a = some (.lst ts) ∧ sqv (res S2 y) = some zs ∧ ts.length + zs.length ≤ sizeLine ∧ Qt .non (ups S2 a (.lst (ts ++ zs))) := fun y S2 => by
          simp only [List.cons.injEq, and_true, exists_eq_left']
        simp only [e]
        exact h1
      · obtain ⟨y, rfl, ts, zs, q1, qz, q2, q3⟩ := h2
        obtain ⟨w, rfl, rw1⟩ := r2.one
        obtain ⟨xs, p1, p2⟩ := o2.at_ a _ q1
        obtain ⟨b, ws, rfl, b1, b2⟩ := res_sqv o2 rw1 qz
        have l := p2.length
        have l2 := b2.length
        obtain ⟨o3, x3⟩ := cell_set (us := ts ++ zs) (ys := xs ++ ws) o2 q1 (p2.append b2)
        exact ⟨a, b, xs, ws, rfl, rfl, p1, b1, by omega, k _ _ _ _ q3 o3 ((x1.trans x2).trans x3) .non⟩⟩
theorem te_pop (ho : TE X o to) (hbase : attributeBase o "pop" X.env (eval o X.env) = eval o X.env := by rfl) (hline : (apos.endLine == cpos.line) = true := by rfl) :
    TE X (.Call (.Attribute o "pop" apos) [] [] cpos) (cPop to) := fun M S0 H0 E tk =>
  (pe_bm0 PySem.F.plainAttrs_list PySem.F.slot_list_pop PySem.F.type_list_pop mt_pop (ho M S0 H0 E tk) hbase hline).weak fun σ H Q ⟨τ, S, Qt, rel, h, k⟩ =>
    ⟨τ, S, _, rel, h, fun z S1 v H1 ⟨a, ts, y, ez, hs1, hy, h1⟩ o1 x1 r1 => by
      subst ez
      cases r1
      obtain ⟨xs, p1, p2⟩ := o1.at_ a _ hs1
      have l := p2.length
      have hy' : ts[ts.length - 1]? = some y := by rw [← List.getLast?_eq_getElem?]; exact hy
      obtain ⟨w, hw, rw1⟩ := p2.get hy'
      obtain ⟨o3, x3⟩ := cell_set (us := ts.dropLast) (ys := xs.dropLast) o1 hs1 (by rw [List.dropLast_eq_take, List.dropLast_eq_take, ← l]; exact p2.take _)
      exact ⟨ty_list o1 hs1, a, xs, w, rfl, rfl, p1, by rw [← l]; exact hw, k _ _ _ _ h1 o3 (x1.trans x3) (Rep.ext x3 _ _ rw1)⟩⟩
/-- xs[i] = v, xs a list -/
theorem tg_ix {vs : List Nat} (ho : TE X o to) (hi : TE X i ti) (ha : ∀ v, assign (.Subscript o i pos) X.env v = (do
      let ov ← holding [v] (eval o X.env)
      let iv ← holding [v, ov] (eval i X.env)
      standAt pos
      holding [v, ov, iv] (setItem ov iv v)
      release [v, ov, iv] []) := by intro _; rfl) : TGt X vs (.Subscript o i pos) (gIx to ti) := fun M S0 H0 E tk =>
  (pg_sub (ho M S0 H0 EN takesN) (hi M S0 H0 EN takesN) set_list ha).weak fun v σ H Q ⟨τ, S, z, Qt, rel, hz, h, k⟩ => ⟨τ, S, _, rel, h, fun x S1 xv H1 h1 o1 x1 r1 =>
    ⟨τ, S1, _, rel.step o1 x1, h1, fun y S2 yv H2 ⟨a, ts, n, j, ex, hs2, ey, hj, h2⟩ o2 x2 r2 => by
      subst ex ey
      cases r1
      cases r2
      obtain ⟨xs, p1, p2⟩ := o2.at_ a _ hs2
      have x12 := x1.trans x2
      obtain ⟨o3, x3⟩ := cell_set (us := ts.set j z) (ys := xs.set j v) o2 hs2 (p2.set (Rep.ext x12 _ _ hz) j)
      exact ⟨a, xs, n, j, rfl, rfl, p1, by rw [← p2.length]; exact hj, k _ _ _ _ ((rel.step o2 x12).step o3 x3) (x12.trans x3) rfl h2⟩⟩⟩
end
inductive Kd where
  | non | bool | int | str | tup | lst | dct
  deriving DecidableEq
def Kd.nm : Kd → String
  | .non => "NoneType"
  | .bool => "bool"
  | .int => "int"
  | .str => "str"
  | .tup => "tuple"
  | .lst => "list"
  | .dct => "dict"
def Kd.is : Kd → Kd → Bool
  | .bool, .int => true
  | a, b => decide (a = b)
def kdOf (S : Sto) : T → Option Kd
  | .non => some .non
  | .bl _ => some .bool
  | .int _ => some .int
  | .str _ => some .str
  | .tup _ => some .tup
  | .lst _ => some .lst
  | .dct false _ _ => some .dct
  | .ref a => match S a with
    | some (.lst _) => some .lst
    | some (.dct false _ _) => some .dct
    | _ => none
  | _ => none
def isiT (ks : List Kd) (S : Sto) (x : T) : Option T := (kdOf S x).map fun k => .bl (ks.any fun c => k.is c)
section
variable {X : Cx} {a : Expr} {ta : TTE} {p p2 pos tpos : Pos} {c : Str}
end
end TL
namespace TL
open PySem PySem.Spec PyProof.Rows L2
def repS (n : Nat) (x : List Sg) : List Sg := (List.replicate n x).flatten
theorem repS_succ (n : Nat) (x : List Sg) : repS (n + 1) x = x ++ repS n x := by simp [repS, List.replicate_succ]
theorem repS_nil (n : Nat) : repS n [] = [] := by
  induction n with
  | zero => rfl
  | succ n ih => rw [repS_succ, ih]; rfl
theorem repS_one (x : List Sg) : repS 1 x = x := by simp [repS]
theorem txt_repS (n : Nat) (x : List Sg) : (⟨(List.replicate n (txt x).cps).foldl (· ++ ·) #[]⟩ : Str) = txt (repS n x) := by
  have h : ∀ (n : Nat) (acc : Array Nat), (List.replicate n (txt x).cps).foldl (· ++ ·) acc = acc ++ (txt (repS n x)).cps := by
    intro n
    induction n with
    | zero => intro acc; simp [repS, txt]
    | succ n ih =>
      intro acc
      rw [List.replicate_succ, List.foldl_cons, ih, repS_succ]
      simp [txt]
  rw [h n #[]]
  simp [txt]
theorem txt_mul (x : List Sg) (n : Int) : Txt.mul (txt x) n = txt (repS n.toNat x) := by
  unfold Txt.mul
  split
  · rename_i h
    have : n.toNat = 0 := by omega
    rw [this]
    rfl
  · split
    · rename_i h h2
      simp only [Bool.or_eq_true, beq_iff_eq] at h2
      rcases h2 with h2 | h2
      · subst h2
        show txt x = txt (repS 1 x)
        rw [repS_one]
      · rw [txt_len] at h2
        have : x = [] := List.eq_nil_of_length_eq_zero h2
        subst this
        rw [repS_nil]
    · exact txt_repS _ _
def mulS (x : List Sg) (n : Int) : Bool := decide (x.length * n.toNat ≤ 1000000) && (decide (n < 1000000) && decide (-1000000 < n))
theorem mulS_ok {x : List Sg} {n : Int} (h : mulS x n = true) : MulOk (txt x) n := by
  simp only [mulS, Bool.and_eq_true, decide_eq_true_eq] at h
  obtain ⟨h1, h2, h3⟩ := h
  refine ⟨by rw [decide_eq_false (by omega), decide_eq_false (by omega)]; rfl, fun h4 _ => ?_, fun h4 _ => ?_⟩
  · rw [txt_len]
    have hn : 0 < n := by omega
    have h5 : (x.length : Int) * n ≤ 1000000 := by
      have : ((x.length * n.toNat : Nat) : Int) ≤ ((1000000 : Nat) : Int) := Int.ofNat_le.mpr h1
      rw [Int.natCast_mul, Int.toNat_of_nonneg (by omega)] at this
      exact this
    have : (x.length : Int) ≤ (2 ^ 63 - 1) / n := by
      apply Int.le_ediv_of_mul_le hn
      omega
    omega
  · rw [txt_len]
    unfold Builtin.Str.tooLong
    rw [sizeLine_eq]
    exact decide_eq_false (by omega)
def mulT2 (_ : Sto) (x y : T) : Option T := match x, y with
  | .int i, .int j => if mulI i j = true then some (.int (i * j)) else none
  | .str a, .int n => if mulS a n = true then some (.str (repS n.toNat a)) else none
  | _, _ => none
section
variable {X : Cx}
theorem op_mulT2 : OpT X (binaryOp .Mult) mulT2 := by
  intro pins s σ H x y v u Q I rx ry h
  obtain ⟨M, S, tx, ty, t, o, hx, hy, e, fin⟩ := h
  unfold mulT2 at e
  split at e
  · rename_i i j
    split at e
    · rename_i hz
      obtain rfl := Option.some.inj e
      cases hx
      cases hy
      exact op_mulW pins s σ H _ _ v u Q I rx ry ⟨i, j, rfl, rfl, by unfold CMulW; exact of_decide_eq_true hz, fin _ H o Ext.refl (.int _)⟩
    · cases e
  · rename_i a n
    split at e
    · rename_i hz
      obtain rfl := Option.some.inj e
      cases hx
      cases hy
      obtain ⟨t1, rfl⟩ := rx
      obtain ⟨t2, rfl⟩ := ry
      refine SB.mul (mulS_ok hz) fun t' k => ⟨.str _, H, I.tok k, ⟨t', rfl⟩, ?_⟩
      rw [txt_mul]
      exact fin _ H o Ext.refl (.str _)
    · cases e
  · cases e

def strI (i : Int) : List Sg := q (Str.ofString (toString i))
def strF (_ : Sto) : List T → Option T
  | [.int i] => if i.natAbs.log2 < 1000 then some (.str (strI i)) else none
  | _ => none
/-- a method of a thing of the kind k, with its arguments -/
def MetT (X : Cx) (id : String) (f : Sto → T → List T → Option T) : Prop := MtR X id fun x xs H Q => ∃ M S tx ts t, StoOk (gdOf X M) H S ∧ Rep (gdOf X M) H S tx x ∧ Reps (gdOf X M) H S ts xs ∧ f S tx ts = some t ∧ ∀ v H', StoOk (gdOf X M) H' S → Ext S H S H' → Rep (gdOf X M) H' S t v → Q v H'
def cM (k : T → Bool) (f : Sto → T → List T → Option T) (o : TTE) (a : TTA) : TTE := fun τ S Q E => o τ S (fun x S1 => k x = true ∧ a τ S1 (fun ys S2 => ∃ t, f S2 x ys = some t ∧ Q t S2) E) E
def isStr : T → Bool
  | .str _ => true
  | _ => false
def isTup : T → Bool
  | .tup _ => true
  | _ => false
theorem isStr_is {t : T} (h : isStr t = true) : ∃ x, t = .str x := by cases t <;> first | exact ⟨_, rfl⟩ | cases h
theorem isTup_is {t : T} (h : isTup t = true) : ∃ x, t = .tup x := by cases t <;> first | exact ⟨_, rfl⟩ | cases h
variable {o e : Expr} {es : List Expr} {to te : TTE} {ta : TTA} {id : String} {name : Str} {apos cpos : Pos} {f : Sto → T → List T → Option T}
theorem te_sm1 (slot : Slot "str" name id) (ty : typeOf (.builtin id) = pure (.type "method_descriptor")) (hm : MetT X id f) (ho : TE X o to) (he : TE X e te)
    (hs : starEach [e] X.env = [(false, eval e X.env)] := by rfl) (hbase : attributeBase o name X.env (eval o X.env) = eval o X.env := by rfl) (hline : (apos.endLine == cpos.line) = true := by rfl) :
    TE X (.Call (.Attribute o name apos) [e] [] cpos) (cM isStr f to (cCons te cNil)) := fun M S0 H0 E tk =>
  (pe_m1 slot ty hm (ho M S0 H0 E tk) (he M S0 H0 E tk) hs hbase hline).weak fun σ H Q ⟨τ, S, Qt, rel, h, k⟩ => ⟨τ, S, _, rel, h, fun zx S1 x H1 ⟨hk, h1⟩ o1 x1 r1 => by
    obtain ⟨y, rfl⟩ := isStr_is hk
    cases r1
    refine ⟨⟨_, rfl⟩, τ, S1, _, rel.step o1 x1, h1, fun zy S2 w H2 ⟨t, e, hq⟩ o2 x2 r2 => ⟨M, S2, _, [zy], t, o2, .str y, .cons r2 .nil, e, fun v H' o3 x3 r3 => k t S2 v H' hq o3 ((x1.trans x2).trans x3) r3⟩⟩⟩
def strsOf : List T → Option (List (List Sg))
  | [] => some []
  | .str x :: ts => (strsOf ts).map (x :: ·)
  | _ :: _ => none
theorem strsOf_is : ∀ {ts : List T} {xs : List (List Sg)}, strsOf ts = some xs → ts = xs.map T.str
  | [], xs, e => by
    obtain rfl := Option.some.inj e
    rfl
  | t :: ts, xs, e => by
    cases t with
    | str x =>
      obtain ⟨ys, h1, rfl⟩ := Option.map_eq_some_iff.mp (show (strsOf ts).map (x :: ·) = some xs from e)
      rw [strsOf_is h1]
      rfl
    | _ => cases e
theorem strsOf_map (xs : List (List Sg)) : strsOf (xs.map T.str) = some xs := by
  induction xs with
  | nil => rfl
  | cons x xs ih =>
    show (strsOf (xs.map T.str)).map (x :: ·) = _
    rw [ih]
    rfl
theorem reps_strs {G : Gd} {H : Hp} {S : Sto} : ∀ {xs : List (List Sg)} {vs : List V}, Reps G H S (xs.map T.str) vs → vs = (xs.map txt).map V.str
  | [], _, r => by cases r; rfl
  | x :: xs, _, r => by
    cases r with
    | cons a b =>
      cases a
      rw [reps_strs b]
      rfl
/-- joined -/
def jnL (a : List Sg) : List (List Sg) → List Sg
  | [] => []
  | x :: xs => x ++ (xs.map (a ++ ·)).flatten
theorem txt_join (a : List Sg) (xs : List (List Sg)) : Txt.join (txt a) (xs.map txt) = txt (jnL a xs) := by
  unfold Txt.join Builtin.Str.glued
  cases xs with
  | nil => rfl
  | cons x xs =>
    have h : ∀ (xs : List (List Sg)) (acc : Array Nat), (xs.map txt).foldl (fun acc p => acc ++ (txt a).cps ++ p.cps) acc = acc ++ (txt (xs.map (a ++ ·)).flatten).cps := by
      intro xs
      induction xs with
      | nil => intro acc; simp [txt]
      | cons y ys ih =>
        intro acc
        rw [List.map_cons, List.foldl_cons, ih]
        simp [txt]
    show (⟨(xs.map txt).foldl (fun acc p => acc ++ (txt a).cps ++ p.cps) (txt x).cps⟩ : Str) = _
    rw [h]
    simp [txt, jnL]
def joinSz (a : List Sg) (xs : List (List Sg)) : Bool := decide ((xs.map (·.length)).sum + xs.length * a.length ≤ 1000000)
def joinF (S : Sto) (o : T) (ys : List T) : Option T := match o, ys with
  | .str a, [y] => match res S y with
    | .lst ts => match strsOf ts with
      | some xs => if joinSz a xs = true then some (.str (jnL a xs)) else none
      | none => none
    | .tup ts => match strsOf ts with
      | some xs => if joinSz a xs = true then some (.str (jnL a xs)) else none
      | none => none
    | _ => none
  | _, _ => none
theorem mt_joinT : MetT X "str.join" joinF := by
  intro pins s σ H x xs v us Q I rx rs h
  obtain ⟨M, S, tx, ts, t, o, hx, hs, e, fin⟩ := h
  unfold joinF at e
  split at e
  · rename_i a y
    cases hx
    obtain ⟨w, rfl, ry⟩ := hs.one
    have key : ∀ {xs : List (List Sg)} {p : Addr}, joinSz a xs = true → (SqL X.K H p ((xs.map txt).map V.str) ∨ SqT X.K H p ((xs.map txt).map V.str)) → w = .ref p → t = .str (jnL a xs) → wpAny (model X.prog X.w) X.A (call (.builtin "str.join") (v :: us)) (EP X pins σ Q) X.xe s := by
      intro xs p hz hp hw ht
      subst hw ht
      refine mt_join pins s σ H _ _ v us Q I rx rs ⟨txt a, p, xs.map txt, rfl, rfl, hp, ?_, ?_⟩
      · have h1 := of_decide_eq_true hz
        have e1 : ((xs.map txt).map (·.length)).sum = (xs.map (·.length)).sum := by
          rw [List.map_map]
          congr 1
          apply List.map_congr_left
          intro x _
          exact txt_len x
        rw [e1, List.length_map, txt_len]
        omega
      · rw [txt_join]
        exact fin _ H o Ext.refl (.str _)
    split at e
    · rename_i zs hz
      split at e
      · rename_i xs hx
        split at e
        · rename_i hj
          obtain rfl := Option.some.inj e
          obtain ⟨p, ws, rfl, h1, h2⟩ := res_lst o ry hz
          have := strsOf_is hx
          subst this
          have := reps_strs h2
          subst this
          exact key hj (.inl (SqL.of h1)) rfl rfl
        · cases e
      · cases e
    · rename_i zs hz
      split at e
      · rename_i xs hx
        split at e
        · rename_i hj
          obtain rfl := Option.some.inj e
          obtain rfl := res_id hz fun _ z => nomatch z
          cases ry with
          | tup h1 h2 =>
            have := strsOf_is hx
            subst this
            have := reps_strs h2
            subst this
            exact key hj (.inr h1.sq) rfl rfl
        · cases e
      · cases e
    · cases e
  · cases e
/-- the first place of z -/
def plc (z : List Sg) : List (List Sg) → Option Nat
  | [] => none
  | x :: xs => if x = z then some 0 else (plc z xs).map (· + 1)
def cChain (f g : Sto → T → T → Option T) (a b c : TTE) : TTE := fun τ S Q E => a τ S (fun x S1 => b τ S1 (fun y S2 => ∃ k, f S2 x y = some (.bl k) ∧ if k = true then c τ S2 (fun z S3 => ∃ w, g S3 y z = some w ∧ Q w S3) E else Q (.bl false) S2) E) E
variable {a b c : Expr} {tb tc : TTE} {pos : Pos}
end
end TL
namespace TL
open PySem PySem.Spec PyProof.Rows L2
/-- a def of the module by its name keeps its promise -/
def Okf (P : Program) (w : World) (K : PySem.W.Frag) (mg : Str → Option Value) (base : Heap) (k : Nat) (x : Str) (ps : List Str) (sp : SpT) : Prop :=
  ∃ fd, FnOk P w K mg base (L2N.CX P w) k (He.ga K x) fd ps (liftSp P K w sp) ∧ mg x = some (.ref (He.ga K x)) ∧ PySem.W.keepIn K (.ref (He.ga K x)) = true ∧ Binds K fd ps []
section
variable {X : Cx} {j k : Nat} {ps : List Str} {sp : SpT} {x : Str} {p pos : Pos} {e : Expr} {es : List Expr} {ta : TTA}
theorem te_callO (F : Okf X.prog X.w X.K X.mg X.base k x ps sp) (hr : Room j X.A) (hkj : k ≤ j) (hg : Gl X x) (ha : TA X (e :: es) ta) (hdb : (x == ("__debug__" : Str)) = false := by decide)
    (he : starEach (e :: es) X.env = (false, eval e X.env) :: starEach es X.env := by rfl) (hpl : (backTo pos (starEach es X.env)).any (·.1) = false := by rfl) : TE X (.Call (.Name x p) (e :: es) [] pos) (cCall sp ta) := by
  obtain ⟨fd, h1, h2, h3, h4⟩ := F
  exact te_call h1 (hr.mono hkj) hg h2 h3 h4 ha hdb he hpl
end
theorem u64 {k : Nat} {A : Around} (r : Room k A) : A.units + 64 < cLine := r.units
theorem u65 {k : Nat} {A : Around} (r : Room k A) : A.units + 65 < cLine := by have := r.un; omega
theorem u70 {k : Nat} {A : Around} (r : Room k A) : A.units + 70 < cLine := by have := r.un; omega

def sp1 (p : T → Sto → (T → Sto → Prop) → (T → Sto → Prop) → Prop) : SpT := fun ts S Q E => ∃ a, ts = [a] ∧ p a S Q E
def sp2 (p : T → T → Sto → (T → Sto → Prop) → (T → Sto → Prop) → Prop) : SpT := fun ts S Q E => ∃ a b, ts = [a, b] ∧ p a b S Q E
def sp3 (p : T → T → T → Sto → (T → Sto → Prop) → (T → Sto → Prop) → Prop) : SpT := fun ts S Q E => ∃ a b c, ts = [a, b, c] ∧ p a b c S Q E
def sp4 (p : T → T → T → T → Sto → (T → Sto → Prop) → (T → Sto → Prop) → Prop) : SpT := fun ts S Q E => ∃ a b c d, ts = [a, b, c, d] ∧ p a b c d S Q E
def sp5 (p : T → T → T → T → T → Sto → (T → Sto → Prop) → (T → Sto → Prop) → Prop) : SpT := fun ts S Q E => ∃ a b c d e, ts = [a, b, c, d, e] ∧ p a b c d e S Q E
/-- what is to be shown of a def's tree -/
def VC (N : List Str) (sp : SpT) (c : TTS) : Prop := ∀ ts S Q E, sp ts S Q E → c { nx := fun _ S' => Fin Q .non S', rt := Fin Q } (startT N ts) S (fun x _ S' => FinX E x S')
end TL
namespace TL
open PySem PySem.Spec PyProof.Rows L2
section
variable {S : Sto} {i j : Int} {x y : List Sg} {xs ys ts : List T} {a b : T} {p : Addr}
theorem ex_ite {α : Type} {c : Prop} [Decidable c] {v : α} {P : α → Prop} : (∃ z, (if c then some v else none) = some z ∧ P z) ↔ c ∧ P v := by
  constructor
  · rintro ⟨z, e, h⟩
    split at e
    · cases e; exact ⟨by assumption, h⟩
    · cases e
  · rintro ⟨h1, h2⟩
    exact ⟨v, if_pos h1, h2⟩
theorem addT_int : addT S (.int i) (.int j) = some (.int (i + j)) := rfl
theorem addT_str : addT S (.str x) (.str y) = if x.length + y.length ≤ sizeLine then some (.str (x ++ y)) else none := rfl
theorem addT_lst : addT S (.lst xs) (.lst ys) = if xs.length + ys.length ≤ sizeLine then some (.lst (xs ++ ys)) else none := rfl
theorem addT_tup : addT S (.tup xs) (.tup ys) = if xs.length + ys.length ≤ sizeLine then some (.tup (xs ++ ys)) else none := rfl
theorem subT_int : subT S (.int i) (.int j) = some (.int (i - j)) := rfl
theorem mulT2_int : mulT2 S (.int i) (.int j) = if mulI i j = true then some (.int (i * j)) else none := rfl
theorem mulT2_str : mulT2 S (.str x) (.int j) = if mulS x j = true then some (.str (repS j.toNat x)) else none := rfl
theorem fdivT_int : fdivT S (.int i) (.int j) = if divI i j = true then some (.int (i.fdiv j)) else none := rfl
theorem modT_int : modT S (.int i) (.int j) = if modI i j = true then some (.int (i.fmod j)) else none := rfl
theorem powT_int : powT S (.int i) (.int j) = if powI i j = true then some (.int (i ^ j.toNat)) else none := rfl
theorem negT_int : negT S (.int i) = some (.int (-i)) := rfl
theorem okd_str : okd (.str x) = true := rfl
theorem eqT_int : eqT S (.int i) (.int j) = some (.bl (decide (i = j))) := rfl
theorem neT_int : neT S (.int i) (.int j) = some (.bl (!decide (i = j))) := rfl
theorem eqT_str : eqT S (.str x) (.str y) = some (.bl (decide (x = y))) := rfl
theorem neT_str : neT S (.str x) (.str y) = some (.bl (!decide (x = y))) := rfl
theorem eqT_bl {k l : Bool} : eqT S (.bl k) (.bl l) = some (.bl (k == l)) := rfl
theorem neT_bl {k l : Bool} : neT S (.bl k) (.bl l) = some (.bl (!(k == l))) := rfl
theorem ltT_int : ltT S (.int i) (.int j) = some (.bl (decide (i < j))) := by simp [ltT, cmpOk, okd, plain, dep, alk, ltt]
theorem gtT_int : gtT S (.int i) (.int j) = some (.bl (decide (j < i))) := by simp [gtT, cmpOk, okd, plain, dep, alk, ltt]
theorem leT_int : leT S (.int i) (.int j) = some (.bl (decide (i ≤ j))) := by
  simp only [leT, cmpOk, okd, plain, dep, alk, ltt, Bool.and_true, Nat.zero_le, decide_true, if_true, Option.some.injEq, T.bl.injEq]
  by_cases h : i ≤ j
  · rw [decide_eq_true h, decide_eq_false (by omega)]; rfl
  · rw [decide_eq_false h, decide_eq_true (by omega)]; rfl
theorem geT_int : geT S (.int i) (.int j) = some (.bl (decide (j ≤ i))) := by
  simp only [geT, cmpOk, okd, plain, dep, alk, ltt, Bool.and_true, Nat.zero_le, decide_true, if_true, Option.some.injEq, T.bl.injEq]
  by_cases h : j ≤ i
  · rw [decide_eq_true h, decide_eq_false (by omega)]; rfl
  · rw [decide_eq_false h, decide_eq_true (by omega)]; rfl
theorem ixT_lst : ixT S (.lst xs) (.int i) = L2.atI xs i := rfl
theorem ixT_tup : ixT S (.tup xs) (.int i) = L2.atI xs i := rfl
theorem ixT_str : ixT S (.str x) (.int i) = if x.length ≤ sizeLine then (L2.atI x i).map fun c => .str [c] else none := rfl
theorem res_ref {ts : List T} (h : S p = some (.lst ts)) : res S (.ref p) = .lst ts := by simp only [res, h]
theorem ixT_ref (h : S p = some (.lst xs)) : ixT S (.ref p) (.int i) = L2.atI xs i := by simp only [ixT, res_ref h]
theorem atI_natE {α : Type} {xs : List α} {n : Nat} : L2.atI xs (n : Int) = xs[n]? := by
  unfold L2.atI ixN
  by_cases h : n < xs.length
  · have : ((n : Int) < (xs.length : Int)) := by omega
    simp [h, this]
  · have h2 : ¬ ((n : Int) < (xs.length : Int)) := by omega
    simp [h, h2]
theorem atI_0 {α : Type} {u : α} {xs : List α} : L2.atI (u :: xs) 0 = some u := atI_natE (n := 0)
theorem atI_1 {α : Type} {u v : α} {xs : List α} : L2.atI (u :: v :: xs) 1 = some v := atI_natE (n := 1)
theorem atI_2 {α : Type} {u v w : α} {xs : List α} : L2.atI (u :: v :: w :: xs) 2 = some w := atI_natE (n := 2)
theorem atI_3 {α : Type} {u v w z : α} {xs : List α} : L2.atI (u :: v :: w :: z :: xs) 3 = some z := atI_natE (n := 3)
theorem ixT_ups {i : Int} : ixT (ups S p (.lst xs)) (.ref p) (.int i) = L2.atI xs i := ixT_ref ups_same
theorem atI_ok {α : Type} {us : List α} {i : Int} (h0 : 0 ≤ i) (h1 : i < us.length) : ∃ y, y ∈ us ∧ L2.atI us i = some y := by
  obtain ⟨n, rfl⟩ := Int.eq_ofNat_of_zero_le h0
  have : n < us.length := by omega
  exact ⟨us[n], List.getElem_mem _, by rw [atI_natE, List.getElem?_eq_getElem this]⟩
theorem ixN_30 : ixN 3 0 = some 0 := rfl
theorem ixN_31 : ixN 3 1 = some 1 := rfl
theorem ixN_32 : ixN 3 2 = some 2 := rfl
theorem lenF_lst : lenF S [.lst xs] = some (.int xs.length) := rfl
theorem lenF_tup : lenF S [.tup xs] = some (.int xs.length) := rfl
theorem lenF_str : lenF S [.str x] = if x.length ≤ sizeLine then some (.int x.length) else none := rfl
theorem lenF_ref (h : S p = some (.lst xs)) : lenF S [.ref p] = some (.int xs.length) := by simp only [lenF, res_ref h]
theorem lenF_ups : lenF (ups S p (.lst xs)) [.ref p] = some (.int xs.length) := lenF_ref ups_same
theorem absF_int : absF S [.int i] = some (.int (if i < 0 then -i else i)) := rfl
theorem intF_int : intF S [.int i] = some (.int i) := rfl
theorem intF_bl {k : Bool} : intF S [.bl k] = some (.int (if k = true then 1 else 0)) := rfl
theorem max2F_int : max2F S [.int i, .int j] = some (.int (if j > i then j else i)) := rfl
theorem min2F_int : min2F S [.int i, .int j] = some (.int (if j < i then j else i)) := rfl
theorem strF_int : strF S [.int i] = if i.natAbs.log2 < 1000 then some (.str (strI i)) else none := rfl
theorem isi_str {ks : List Kd} : isiT ks S (.str x) = some (.bl (ks.any fun c => Kd.is .str c)) := rfl
theorem isi_int {ks : List Kd} : isiT ks S (.int i) = some (.bl (ks.any fun c => Kd.is .int c)) := rfl
theorem isi_tup {ks : List Kd} : isiT ks S (.tup xs) = some (.bl (ks.any fun c => Kd.is .tup c)) := rfl
theorem isi_lst {ks : List Kd} : isiT ks S (.lst xs) = some (.bl (ks.any fun c => Kd.is .lst c)) := rfl
theorem slT_lst {lo hi : Option Int} : slT S (.lst xs) lo hi = some (.lst (cutT xs lo hi)) := rfl
theorem slT_tup {lo hi : Option Int} : slT S (.tup xs) lo hi = some (.tup (cutT xs lo hi)) := rfl
theorem slT_str {lo hi : Option Int} : slT S (.str x) lo hi = if x.length ≤ sizeLine then some (.str (cutT x lo hi)) else none := rfl
theorem slT_scr {ns : List Int} {lo hi : Option Int} : slT S (.scr ns) lo hi = some (.lst ((cutT ns lo hi).map T.int)) := rfl
theorem ups_ups {c d : Cell} : ups (ups S p c) p d = ups S p d := by
  funext b
  unfold ups
  split <;> rfl
theorem ups_eq {c : Cell} (h : S p = some c) : ups S p c = S := by
  funext b
  unfold ups
  split
  · rename_i e; subst e; exact h.symm
  · rfl
end
theorem sp1_at {p : T → Sto → (T → Sto → Prop) → (T → Sto → Prop) → Prop} {a : T} {S : Sto} {Q E : T → Sto → Prop} : sp1 p [a] S Q E = p a S Q E := by
  apply propext
  exact ⟨fun ⟨x, e, h⟩ => by cases e; exact h, fun h => ⟨_, rfl, h⟩⟩
theorem sp2_at {p : T → T → Sto → (T → Sto → Prop) → (T → Sto → Prop) → Prop} {a b : T} {S : Sto} {Q E : T → Sto → Prop} : sp2 p [a, b] S Q E = p a b S Q E := by
  apply propext
  exact ⟨fun ⟨x, y, e, h⟩ => by cases e; exact h, fun h => ⟨_, _, rfl, h⟩⟩
theorem sp3_at {p : T → T → T → Sto → (T → Sto → Prop) → (T → Sto → Prop) → Prop} {a b c : T} {S : Sto} {Q E : T → Sto → Prop} : sp3 p [a, b, c] S Q E = p a b c S Q E := by
  apply propext
  exact ⟨fun ⟨x, y, z, e, h⟩ => by cases e; exact h, fun h => ⟨_, _, _, rfl, h⟩⟩
theorem sp4_at {p : T → T → T → T → Sto → (T → Sto → Prop) → (T → Sto → Prop) → Prop} {a b c d : T} {S : Sto} {Q E : T → Sto → Prop} : sp4 p [a, b, c, d] S Q E = p a b c d S Q E := by
  apply propext
  exact ⟨fun ⟨x, y, z, w, e, h⟩ => by cases e; exact h, fun h => ⟨_, _, _, _, rfl, h⟩⟩
theorem sp5_at {p : T → T → T → T → T → Sto → (T → Sto → Prop) → (T → Sto → Prop) → Prop} {a b c d e : T} {S : Sto} {Q E : T → Sto → Prop} : sp5 p [a, b, c, d, e] S Q E = p a b c d e S Q E := by
  apply propext
  exact ⟨fun ⟨x, y, z, w, u, e, h⟩ => by cases e; exact h, fun h => ⟨_, _, _, _, _, rfl, h⟩⟩

theorem log2_lt {n k : Nat} (h : n < 2 ^ k) (hk : 0 < k) : n.log2 < k := by
  by_cases h0 : n = 0
  · subst h0; simpa using hk
  · exact (Nat.log2_lt h0).mpr h
theorem cut_to {α : Type} (xs : List α) (k : Nat) : cutT xs none (some (k : Int)) = xs.take k := by
  unfold cutT
  rw [HT.sIx_none, HT.sIx_nat, List.drop_zero, Nat.sub_zero]
  by_cases h : k ≤ xs.length
  · rw [Nat.min_eq_left h]
  · rw [Nat.min_eq_right (by omega), List.take_of_length_le (by omega), List.take_of_length_le (by omega)]
theorem cut_from {α : Type} (xs : List α) (k : Nat) : cutT xs (some (k : Int)) none = xs.drop k := by
  unfold cutT
  rw [HT.sIx_none, HT.sIx_nat]
  by_cases h : k ≤ xs.length
  · rw [Nat.min_eq_left h, List.take_of_length_le (by simp)]
  · rw [Nat.min_eq_right (by omega), Nat.sub_self, List.take_zero, List.drop_of_length_le (by omega)]
theorem cut_le {α : Type} (xs : List α) (lo : Option Int) (k : Int) (hk : 0 ≤ k) : (cutT xs lo (some k)).length ≤ k.toNat := by
  obtain ⟨n, rfl⟩ := Int.eq_ofNat_of_zero_le hk
  unfold cutT
  rw [HT.sIx_nat, List.length_take, Int.toNat_natCast]
  omega
/-- nothing is changed: a filter and a map -/
theorem compT_pure {g : TTG} {c : TTB} {e : TTE} {own : List Nat} {gd : Sto → Prop} {τ : TEnv} {K : List T → Sto → Prop} (p : T → Bool) (f : T → T) {S : Sto} (hgd : gd S) : ∀ (xs acc : List T), acc.length + xs.length ≤ sizeLine → K (acc ++ (xs.filter p).map f) S →
    (∀ x ∈ xs, ∀ (R : T → Sto → Prop) (N : Sto → Prop), (p x = true → R (f x) S) → (p x = false → N S) → g x (wipeT τ own) S fun τ1 S1 => c τ1 S1 (fun k S2 => if k = true then e τ1 S2 R (fun _ _ => False) else N S2) (fun _ _ => False)) →
    compT g c e own gd τ K xs acc S
  | [], acc, _, h, _ => ⟨hgd, by simpa using h⟩
  | x :: xs, acc, hl, h, hs => by
    rw [List.length_cons] at hl
    refine ⟨hgd, hs x List.mem_cons_self _ _ (fun hp => ⟨by omega, ?_⟩) fun hp => ?_⟩
    · refine compT_pure p f hgd xs _ (by rw [List.length_append]; simp; omega) ?_ fun y hy => hs y (List.mem_cons_of_mem _ hy)
      rw [List.filter_cons_of_pos hp] at h
      simpa using h
    · refine compT_pure p f hgd xs _ (by omega) ?_ fun y hy => hs y (List.mem_cons_of_mem _ hy)
      rwa [List.filter_cons_of_neg (by simp [hp])] at h
/-- nothing is changed: a map -/
theorem compT_map {g : TTG} {c : TTB} {e : TTE} {own : List Nat} {gd : Sto → Prop} {τ : TEnv} {K : List T → Sto → Prop} (f : T → T) {S : Sto} {xs : List T} (hgd : gd S) (hl : xs.length ≤ sizeLine) (hk : K (xs.map f) S)
    (hs : ∀ x ∈ xs, ∀ (R : T → Sto → Prop) (N : Sto → Prop), R (f x) S → g x (wipeT τ own) S fun τ1 S1 => c τ1 S1 (fun k S2 => if k = true then e τ1 S2 R (fun _ _ => False) else N S2) (fun _ _ => False)) : compT g c e own gd τ K xs [] S :=
  compT_pure (fun _ => true) f hgd xs [] (by simpa using hl) (by rw [List.filter_eq_self.mpr (fun _ _ => rfl)]; simpa using hk) fun x hx R N h _ => hs x hx R N (h rfl)

/-- more than enough -/
abbrev big : Nat := 1000000000000000000000000000000
/-- a pen that was drawn from n times at most -/
def PenC (n : Nat) (c : Cell) : Prop := ∃ (ns : List Int) (at_ rest : Int), c = .lst [.lst (ns.map T.int), .int at_, .int rest] ∧ 0 ≤ at_ ∧ at_ ≤ n ∧ 0 ≤ rest ∧ ns.length ≤ 63
theorem PenC.mono {m n : Nat} {c : Cell} (h : PenC m c) (k : m ≤ n) : PenC n c := by
  obtain ⟨ns, at_, rest, e, h1, h2, h3, h4⟩ := h
  exact ⟨ns, at_, rest, e, h1, by omega, h3, h4⟩
theorem mulI_b {i j : Int} (h1 : i.natAbs < 2 ^ 250) (h2 : j.natAbs < 2 ^ 250) : mulI i j = true := by
  unfold mulI
  have a := log2_lt h1 (by decide)
  have b := log2_lt h2 (by decide)
  exact decide_eq_true (by omega)
theorem divI_b {i j : Int} (h1 : 0 < j) (h2 : j < 1000000000000000000000000000001) : divI i j = true := by
  unfold divI
  rw [decide_eq_true (by omega), decide_eq_true (Nat.lt_trans (log2_lt (k := 250) (by omega) (by decide)) (by decide))]
  rfl
theorem modI_b {i j : Int} (h1 : 0 < j) : modI i j = true := by
  unfold modI
  exact decide_eq_true (by omega)
theorem fmod_lo {i j : Int} (h : 0 < j) : 0 ≤ i.fmod j := Int.fmod_nonneg_of_pos i h
theorem fmod_hi {i j : Int} (h : 0 < j) : i.fmod j < j := Int.fmod_lt_of_pos i h
theorem fdiv_lo {i j : Int} (h0 : 0 ≤ i) (h : 0 < j) : 0 ≤ i.fdiv j := Int.fdiv_nonneg h0 (by omega)
end TL
namespace TL
open PySem PySem.Spec PyProof.Rows L2
theorem cx_none {P : Program} {w : World} {H : Hp} {s : Shared} {e : Value} {s' : Shared} (h : L2N.CX P w [] H s (fun _ _ _ => False) e s') : False := by
  obtain ⟨_, _, _, _, _, _, _, _, _, _, _, _, z⟩ := h
  exact z
/-- a row of facts, one by its place -/
theorem all_at {bs : List Bool} (h : bs.all id = true) (i : Nat) {b : Bool} (e : bs[i]? = some b := by rfl) : b = true := List.all_eq_true.mp h b (List.mem_of_getElem? e)
/-- a def's promise, its binding for a law's call -/
theorem law_def {K : PySem.W.Frag} {x y : Str} {qual : Str} {params : Arguments} {body : List Stmt} {scope : Scope} {fd : FuncData} (F : FunD K y qual params body scope [] [] (He.ga K y) fd)
    (h : ∀ (kV doc pm : Value) (an : Option Addr) (cdv ct : Value) (us : List Value), us.length = 1 → bindArgs (PySem.W.fnOf y qual params body scope .none kV doc pm an cdv ct) ⟨us, []⟩ = pure (([x] : List Str).zip us)) (s : Shared) (u : Value) : BindsTo s fd ⟨[u], []⟩ [(x, u)] :=
  (FunD.bindsA (ps := [x]) F h) s [u] rfl
end TL
namespace TL
open PySem PySem.Spec PyProof.Rows L2
section
variable {P : Program} {w : World}
/-- is of no class statement, n deep -/
def NoCls (P : Program) (w : World) (n : Nat) (s : Shared) (v : Value) : Prop := ∀ (A : Around) (E : Value → Shared → Prop) (Q : Bool → Shared → Prop), Q false s → wpAny (model P w) A (ofAClassStatement n v) Q E s
/-- the question of the hash is answered, somehow -/
def HashBy (P : Program) (w : World) (n : Nat) (s : Shared) (v : Value) : Prop := ∀ (A : Around) (E : Value → Shared → Prop) (Q : Bool → Shared → Prop), (∀ b, Q b s) → wpAny (model P w) A (hashByValue n v) Q E s
theorem NoCls.row {n : Nat} {s : Shared} {b : Addr} {o : Obj} {us : Array Value} {m : Nat} (h1 : s.heap.get? b = some o) (h2 : o.cls = .type "tuple") (h3 : o.data = .seq us m) (hq : ∀ u ∈ us.toList, NoCls P w n s u) : NoCls P w (n + 1) s (.ref b) := fun A E Q h => by
  have ty : s.TypeIs (.ref b) "tuple" := ⟨o, h1, h2⟩
  have same : (("tuple" : String) == "tuple") = true := by decide
  unfold ofAClassStatement
  refine wpAny_bind (wpAny_typeOf ty ?_)
  simp only [same, if_true]
  first | refine wpAny_bind (wpAny_pure ?_) | skip
  simp only [Bool.not_true, Bool.false_eq_true, if_false]
  refine wpAny_bind (wpAny_seqItems h1 h3 ?_)
  refine wpAny_bind ?_
  show wpAny _ _ (forIn us _ _) _ _ s
  rw [← Array.forIn_toList]
  refine wpAny_forIn_list _ (fun more z s' => z.1 = none ∧ s' = s ∧ ∀ u ∈ more, NoCls P w n s u) _ ?_ ?_ _ _ ⟨rfl, rfl, hq⟩
  · rintro u more z s' ⟨hz, rfl, all⟩
    refine wpAny_bind (all u List.mem_cons_self _ _ _ ?_)
    simp only [Bool.false_eq_true, if_false]
    exact wpAny_pure ⟨rfl, rfl, fun y hy => all y (List.mem_cons_of_mem _ hy)⟩
  · rintro ⟨z1, z2⟩ s' ⟨hz, rfl, _⟩
    obtain rfl : z1 = none := hz
    exact wpAny_pure h
theorem HashBy.row {n : Nat} {s : Shared} {b : Addr} {o : Obj} {us : Array Value} {m : Nat} (h1 : s.heap.get? b = some o) (h2 : o.cls = .type "tuple") (h3 : o.data = .seq us m) (hq : ∀ u ∈ us.toList, HashBy P w n s u) : HashBy P w (n + 1) s (.ref b) := fun A E Q h => by
  have ty : s.TypeIs (.ref b) "tuple" := ⟨o, h1, h2⟩
  unfold hashByValue
  refine wpAny_bind (wpAny_specialOf ty F.slot_tuple_hash.lookup ?_)
  show wpAny _ _ (seqItems? (.ref b) >>= _) _ _ s
  refine wpAny_bind (wpAny_seqItems h1 h3 ?_)
  refine wpAny_bind ?_
  show wpAny _ _ (forIn us _ _) _ _ s
  rw [← Array.forIn_toList]
  refine wpAny_forIn_list _ (fun more z s' => z.1 = none ∧ s' = s ∧ ∀ u ∈ more, HashBy P w n s u) _ ?_ ?_ _ _ ⟨rfl, rfl, hq⟩
  · rintro u more z s' ⟨hz, rfl, all⟩
    refine wpAny_bind (all u List.mem_cons_self _ _ _ fun c => ?_)
    cases c with
    | true =>
      simp only [Bool.not_true, Bool.false_eq_true, if_false]
      exact wpAny_pure ⟨rfl, rfl, fun y hy => all y (List.mem_cons_of_mem _ hy)⟩
    | false =>
      simp only [Bool.not_false, if_true]
      exact wpAny_pure (wpAny_pure (h false))
  · rintro ⟨z1, z2⟩ s' ⟨hz, rfl, _⟩
    obtain rfl : z1 = none := hz
    exact wpAny_pure (h true)
mutual
theorem noCls_key : ∀ (k : NestedKey) (v : Value) (n : Nat) (s : Shared), NestedIs s.heap k v → k.depth ≤ n → NoCls P w n s v
  | .none, _, n, s, x, _ => by cases x; intro A E Q h; cases n <;> exact wpAny_pure h
  | .num _, _, n, s, x, _ => by cases x <;> (intro A E Q h; cases n <;> exact wpAny_pure h)
  | .text _, _, n, s, x, _ => by cases x; intro A E Q h; cases n <;> exact wpAny_pure h
  | .tup ks, _, n, s, x, hn => by
    cases x with
    | tup h1 h2 h3 h4 =>
      simp only [NestedKey.depth] at hn
      cases n with
      | zero => omega
      | succ n => exact .row h1 h2 h3 (noCls_keys ks _ n s h4 (by omega))
theorem noCls_keys : ∀ (ks : List NestedKey) (vs : List Value) (n : Nat) (s : Shared), NestedAll s.heap ks vs → NestedKey.depthAll ks ≤ n → ∀ v ∈ vs, NoCls P w n s v
  | [], _, _, _, x, _, v, hv => by cases x; cases hv
  | k :: ks, _, n, s, x, hn, v, hv => by
    cases x with
    | cons x1 x2 =>
      simp only [NestedKey.depthAll] at hn
      rcases List.mem_cons.mp hv with e | hv
      · subst e; exact noCls_key k _ n s x1 (by omega)
      · exact noCls_keys ks _ n s x2 (by omega) v hv
end
mutual
theorem hashBy_key : ∀ (k : NestedKey) (v : Value) (n : Nat) (s : Shared), NestedIs s.heap k v → k.depth ≤ n → HashBy P w n s v
  | .none, _, n, s, x, _ => by cases x; intro A E Q h; cases n <;> exact wpAny_pure (h _)
  | .num _, _, n, s, x, _ => by cases x <;> (intro A E Q h; cases n <;> exact wpAny_pure (h _))
  | .text _, _, n, s, x, _ => by cases x; intro A E Q h; cases n <;> exact wpAny_pure (h _)
  | .tup ks, _, n, s, x, hn => by
    cases x with
    | tup h1 h2 h3 h4 =>
      simp only [NestedKey.depth] at hn
      cases n with
      | zero => omega
      | succ n => exact .row h1 h2 h3 (hashBy_keys ks _ n s h4 (by omega))
theorem hashBy_keys : ∀ (ks : List NestedKey) (vs : List Value) (n : Nat) (s : Shared), NestedAll s.heap ks vs → NestedKey.depthAll ks ≤ n → ∀ v ∈ vs, HashBy P w n s v
  | [], _, _, _, x, _, v, hv => by cases x; cases hv
  | k :: ks, _, n, s, x, hn, v, hv => by
    cases x with
    | cons x1 x2 =>
      simp only [NestedKey.depthAll] at hn
      rcases List.mem_cons.mp hv with e | hv
      · subst e; exact hashBy_key k _ n s x1 (by omega)
      · exact hashBy_keys ks _ n s x2 (by omega) v hv
end
/-- an element: the tuple at the address is this key -/
def El (h : Heap) (p : NestedKey × Addr) : Prop := NestedIs h p.1 (.ref p.2) ∧ p.1.depth ≤ 8
theorem El.at {h h' : Heap} {p : NestedKey × Addr} (x : El h p) (hk : ∀ b o us n, h.get? b = some o → o.data = .seq us n → h'.get? b = some o) : El h' p := ⟨NestedIs.at hk _ _ x.1, x.2⟩
theorem El.but {h h' : Heap} {p : NestedKey × Addr} {a : Addr} {o : Obj} {es : Array (Int × Value)} {ep : Nat} {t : SetTable} (x : El h p) (h1 : h.get? a = some o) (h2 : o.data = .set es ep t) (sb : Heap.SameBut a h h') : El h' p :=
  x.at fun b u us n g1 g2 => (sb.2 b fun e => by subst e; rw [h1] at g1; cases g1; rw [h2] at g2; cases g2).trans g1
/-- a search among such elements shows nothing -/
theorem el_unseen {A : Around} {E : Value → Shared → Prop} {s : Shared} {p : NestedKey × Addr} {Q : Bool → Shared → Prop} (hp : El s.heap p) {ys : List Value} (hy : ∀ y ∈ ys, ∃ p', y = Value.ref p'.2 ∧ El s.heap p') (h : Q false s) :
    wpAny (model P w) A (searchCouldBeSeen (.ref p.2) ys) Q E s := by
  unfold searchCouldBeSeen
  refine wpAny_bind ?_
  refine wpAny_forIn_list _ (fun more z s' => z.1 = none ∧ s' = s ∧ ∀ y ∈ more, ∃ p', y = Value.ref p'.2 ∧ El s.heap p') _ ?_ ?_ _ _ ⟨rfl, rfl, hy⟩
  · rintro y more z s' ⟨hz, rfl, all⟩
    obtain ⟨p', rfl, hp'⟩ := all y List.mem_cons_self
    have left : ∀ y ∈ more, ∃ p', y = Value.ref p'.2 ∧ El s'.heap p' := fun u hu => all u (List.mem_cons_of_mem _ hu)
    dsimp only
    by_cases hv : (p.2 == p'.2 || (carriedByValue (.ref p.2) && carriedByValue (.ref p'.2))) = true
    · exact wp_if_pos hv (wpAny_pure ⟨rfl, rfl, left⟩)
    · refine wp_if_neg hv (wpAny_bind (quiet_key _ _ 8 _ hp.1 hp.2 _ _ _ ?_))
      simp only [Bool.not_true, Bool.false_eq_true, if_false]
      refine wpAny_bind (quiet_key _ _ 8 _ hp'.1 hp'.2 _ _ _ ?_)
      simp only [Bool.not_true, Bool.false_eq_true, if_false]
      refine wpAny_bind (noCls_key _ _ 8 _ hp.1 hp.2 _ _ _ ?_)
      simp only [Bool.false_eq_true, if_false]
      refine wpAny_bind (noCls_key _ _ 8 _ hp'.1 hp'.2 _ _ _ ?_)
      simp only [Bool.false_eq_true, if_false]
      exact wpAny_pure ⟨rfl, rfl, left⟩
  · rintro ⟨z1, z2⟩ s' ⟨hz, rfl, _⟩
    obtain rfl : z1 = none := hz
    exact wpAny_pure h

abbrev hw (w : World) (p : NestedKey × Addr) : Int := p.1.hash w
def rowS (w : World) (L : List (NestedKey × Addr)) : List (Int × Value) := L.map fun p => (hw w p, Value.ref p.2)
structure TabS (w : World) (h : Heap) (a : Addr) (L : List (NestedKey × Addr)) (es : Array (Int × Value)) (ep : Nat) (t : SetTable) : Prop where
  obj : ∃ o, h.get? a = some o ∧ o.ExactSet ∧ o.data = .set es ep t
  row : es.toList = rowS w L
  tab : TabOk t (L.map (hw w))
  ndp : (L.map (·.1)).Nodup
  els : ∀ p ∈ L, El h p
  led : w.params.followText "set-order" = true ∨ t.led = true
  gap : L.length * 5 < t.mask * 3
  few : L.length < 64
section
variable {h : Heap} {a : Addr} {L : List (NestedKey × Addr)} {es : Array (Int × Value)} {ep : Nat} {t : SetTable}
theorem row_len (e : es.toList = rowS w L) : es.size = L.length := by
  have := congrArg List.length e
  rwa [rowS, Array.length_toList, List.length_map] at this
theorem row_at (e : es.toList = rowS w L) {i : Nat} {p : NestedKey × Addr} (hp : L[i]? = some p) : es[i]? = some (hw w p, Value.ref p.2) := by
  have : es.toList[i]? = some (hw w p, Value.ref p.2) := by rw [e, rowS, List.getElem?_map, hp]; rfl
  rwa [Array.getElem?_toList] at this
theorem TabS.fits (R : TabS w h a L es ep t) : t.fits es.size = true := by
  have z1 := R.tab.sz
  have z2 := row_len R.row
  have z3 := R.gap
  rw [List.length_map] at z1
  simp only [SetTable.fits, SetTable.fill, R.tab.dm, Bool.and_eq_true, beq_iff_eq, decide_eq_true_eq]
  exact ⟨by omega, by simp; omega⟩
theorem TabS.gw (R : TabS w h a L es ep t) : ¬ t.gaveWay = true := by
  simp only [SetTable.gaveWay, mask_odd R.tab.mok]
  decide
end
/-- the c-th step of a hash's way -/
abbrev pr (m : Nat) (x : Int) (c : Nat) : SetTable.Probe := nth m (runAt m (SetTable.bits x % (m + 1)) (SetTable.bits x)) c
theorem nth_dummy (m : Nat) : ∀ (n : Nat) (p : SetTable.Probe), p.dummy = none → (nth m p n).dummy = none
  | 0, _, h => h
  | n + 1, p, h => nth_dummy m n (adv m p) (by unfold adv; split <;> exact h)
theorem pr_dummy (m : Nat) (x : Int) (c : Nat) : (pr m x c).dummy = none := nth_dummy m c _ rfl
theorem pr_on (m : Nat) (x : Int) (c d : Nat) : nth m (pr m x c) d = pr m x (c + d) := (nth_add m c _ d).symm
section
variable {A : Around} {E : Value → Shared → Prop} {s : Shared} {a : Addr} {L : List (NestedKey × Addr)} {es : Array (Int × Value)} {ep : Nat} {t : SetTable} {p : NestedKey × Addr}
theorem tab_from (R : TabS w s.heap a L es ep t) (hp : El s.heap p) (hu : A.units + 8 < cLine) {K : Nat} (kf : K < 10 * SetTable.turns t.mask) (kn : way t.mask (hw w p) K ∉ t.place.toList) (kb : ∀ c, c < K → way t.mask (hw w p) c ∈ t.place.toList)
    {Q : SetFound → Shared → Prop} (yes : p.1 ∈ L.map (·.1) → Q (.there none) s) (no : p.1 ∉ L.map (·.1) → Q (.free (way t.mask (hw w p) K) false) s) (f : Nat) :
    ∀ (c : Nat) (stand : Option SetTable.Probe), stand.getD (t.probeStart (hw w p)) = pr t.mask (hw w p) c → c ≤ K → K - c < f →
      (∀ (i : Nat) (p' : NestedKey × Addr), L[i]? = some p' → p'.1 = p.1 → ∃ c', c ≤ c' ∧ c' < K ∧ t.place.toList[i]? = some (way t.mask (hw w p) c')) → wpAny (model P w) A (setSearchFrom a (.ref p.2) (hw w p) true f stand) Q E s := by
  induction f with
  | zero => intro c stand _ _ z; exact absurd z (Nat.not_lt_zero _)
  | succ f ih =>
    intro c stand at_ ck fuel near
    obtain ⟨o, g1, g2, g3⟩ := R.obj
    rw [setSearchFrom_succ]
    refine wpAny_bind (wpAny_setState_of g1 g3 R.fits ?_)
    dsimp only
    refine wp_if_neg R.gw ?_
    try refine wpAny_bind (wpAny_pure ?_)
    have ways : ∀ d, (nth t.mask (pr t.mask (hw w p) c) d).j = way t.mask (hw w p) (c + d) := fun d => congrArg SetTable.Probe.j (pr_on _ _ c d)
    have told : ∀ (i : Nat) (p' : NestedKey × Addr), L[i]? = some p' → (fun i => (es[i]?.map (·.1)).getD 0) i = hw w p' := fun i p' z => by
      show (es[i]?.map (·.1)).getD 0 = _
      rw [row_at R.row z]
      rfl
    have spec := go_spec t R.tab.ris R.tab.dm (fun i => (es[i]?.map (·.1)).getD 0) (hw w p) (10 * SetTable.turns t.mask) (K - c) _ (pr_dummy t.mask (hw w p) c) (by omega)
      (fun d hd => by rw [ways]; exact kb _ (by omega)) (by rw [ways, Nat.add_sub_of_le ck]; exact kn)
    rcases spec with ⟨d, i, hd, hi, hh, away, met⟩ | ⟨away, met⟩
    · have met' : t.probe (fun i => (es[i]?.map (·.1)).getD 0) (hw w p) (stand.getD (t.probeStart (hw w p))) = some (.candidate (way t.mask (hw w p) (c + d)) i (pr t.mask (hw w p) (c + (d + 1)))) := by
        rw [at_, ← ways, ← pr_on]
        exact met
      rw [met']
      dsimp only
      rw [ways] at hi
      have il : i < L.length := by
        have z1 : i < t.place.toList.length := (List.getElem?_eq_some_iff.mp hi).1
        have z2 := R.tab.sz
        rw [List.length_map] at z2
        rw [Array.length_toList] at z1
        omega
      obtain ⟨e, he⟩ : ∃ e, L[i]? = some e := ⟨_, List.getElem?_eq_getElem il⟩
      have hm : e ∈ L := List.mem_of_getElem? he
      have live := slot_live R.tab.ris hi
      have go : wpAny (model P w) A (searchRest a (.ref p.2) (hw w p) true f es t (way t.mask (hw w p) (c + d)) i (pr t.mask (hw w p) (c + (d + 1)))) Q E s := by
        unfold searchRest
        rw [row_at R.row he]
        dsimp only
        refine wpAny_bind (wpAny_holding ((nestedKind P w).eqBool hu (R.els e hm) hp ?_))
        refine wpAny_bind (wpAny_setState_of g1 g3 R.fits ?_)
        dsimp only
        by_cases same : e.1 = p.1
        · exact wp_if_pos (by simp [same]) (wpAny_pure (yes (List.mem_map.mpr ⟨e, hm, same⟩)))
        · refine wp_if_neg (by simp [same]) ?_
          try refine wpAny_bind (wpAny_pure ?_)
          rw [sameMem]
          dsimp only
          simp only [if_true, live, row_at R.row he]
          refine wpAny_bind (wpAny_isSame_ref_self (wpAny_bind (wpAny_pure ?_)))
          simp only [if_true]
          refine wp_if_neg (by simp [same]) (ih (c + (d + 1)) _ rfl (by omega) (by omega) fun i' p' hp' hk => ?_)
          obtain ⟨c', b1, b2, b3⟩ := near i' p' hp' hk
          refine ⟨c', ?_, b2, b3⟩
          rcases Nat.lt_trichotomy c' (c + d) with z | z | z
          · refine absurd ?_ (away (c' - c) i' (by omega) (by rw [ways, Nat.add_sub_of_le b1]; exact b3))
            exact (told i' p' hp').trans (congrArg (NestedKey.hash w) hk)
          · subst z
            have live' := slot_live R.tab.ris b3
            rw [live] at live'
            injection live' with z
            subst z
            rw [he] at hp'
            cases hp'
            exact absurd hk same
          · omega
      by_cases hl : t.led = true
      · refine wp_if_neg (by simp [hl]) ?_
        try refine wpAny_bind (wpAny_pure ?_)
        exact go
      · refine wp_if_pos (by simp [hl]) (wpAny_bind (el_unseen hp (fun y hy => ?_) ?_))
        · obtain ⟨r, hr, rfl⟩ := List.mem_map.mp hy
          have hr2 : r ∈ es.toList := by
            have : r ∈ es ∧ r.1 = hw w p := by simpa using hr
            simpa using this.1
          rw [R.row] at hr2
          obtain ⟨p', hp', rfl⟩ := List.mem_map.mp hr2
          exact ⟨p', rfl, R.els p' hp'⟩
        · refine wp_if_neg (by decide) ?_
          try refine wpAny_bind (wpAny_pure ?_)
          exact go
    · have met' : t.probe (fun i => (es[i]?.map (·.1)).getD 0) (hw w p) (stand.getD (t.probeStart (hw w p))) = some (.empty (way t.mask (hw w p) K) none) := by
        have z : way t.mask (hw w p) K = (nth t.mask (pr t.mask (hw w p) c) (K - c)).j := by rw [ways, Nat.add_sub_of_le ck]
        rw [at_, z]
        exact met
      rw [met']
      dsimp only
      refine wpAny_pure (no fun hm => ?_)
      obtain ⟨p', hp', hk⟩ := List.mem_map.mp hm
      obtain ⟨i', hi', e'⟩ := List.getElem_of_mem hp'
      have at' : L[i']? = some p' := by rw [List.getElem?_eq_getElem hi', e']
      obtain ⟨c', b1, b2, b3⟩ := near i' p' at' hk
      refine away (c' - c) i' (by omega) (by rw [ways, Nat.add_sub_of_le b1]; exact b3) ?_
      exact (told i' p' at').trans (congrArg (NestedKey.hash w) hk)
/-- the search as adding asks for it -/
theorem tab_search (R : TabS w s.heap a L es ep t) (hp : El s.heap p) (hu : A.units + 8 < cLine) {Q : SetFound → Shared → Prop} (yes : p.1 ∈ L.map (·.1) → Q (.there none) s)
    (no : ∀ K, p.1 ∉ L.map (·.1) → way t.mask (hw w p) K ∉ t.place.toList → (∀ c, c < K → way t.mask (hw w p) c ∈ t.place.toList) → Q (.free (way t.mask (hw w p) K) false) s) :
    wpAny (model P w) A (setSearch a (.ref p.2) (hw w p) true) Q E s := by
  obtain ⟨K, kf, kn, kb⟩ := R.tab.first (by have := R.gap; rw [List.length_map]; omega) (hw w p)
  have small : K < 100000 := by
    have : 10 * SetTable.turns t.mask ≤ 1420 := by
      simp only [SetTable.turns]
      rcases R.tab.mok with z | z | z <;> omega
    omega
  unfold setSearch
  refine tab_from R hp hu kf kn kb yes (fun z => no K z kn kb) 100000 0 none rfl (Nat.zero_le _) (by omega) fun i p' hp' hk => ?_
  have hi : (L.map (hw w))[i]? = some (hw w p) := by
    rw [List.getElem?_map, hp']
    exact congrArg some (congrArg (NestedKey.hash w) hk)
  have il : i < t.place.toList.length := by
    have z1 : i < L.length := (List.getElem?_eq_some_iff.mp hp').1
    have z2 := R.tab.sz
    rw [List.length_map] at z2
    rw [Array.length_toList]
    omega
  have pl := List.getElem?_eq_getElem il
  obtain ⟨c, hc, e⟩ := R.tab.before kn hi pl
  exact ⟨c, Nat.zero_le _, hc, by rw [pl, e]⟩
/-- the elements in another order -/
theorem row_order {order : Array Nat} (e : es.toList = rowS w L) (hp : order.toList.Perm (List.range L.length)) :
    ∃ L', (order.filterMap (es[·]?)).toList = rowS w L' ∧ L'.Perm L ∧ L'.map (hw w) = order.toList.map fun i => (es.map (·.1)).getD i 0 := by
  have size := row_len e
  have pick : ∀ l : List Nat, (∀ i ∈ l, i < L.length) → l.filterMap (fun i => es[i]?) = rowS w (l.filterMap fun i => L[i]?) ∧ (l.filterMap fun i => L[i]?).map (hw w) = l.map fun i => (es.map (·.1)).getD i 0 := fun l => by
    induction l with
    | nil => exact fun _ => ⟨rfl, rfl⟩
    | cons i l ih =>
      intro all
      obtain ⟨e1, e2⟩ := ih fun j hj => all j (List.mem_cons_of_mem _ hj)
      have il := all i List.mem_cons_self
      obtain ⟨q, hq⟩ : ∃ q, L[i]? = some q := ⟨_, List.getElem?_eq_getElem il⟩
      have ent := row_at e hq
      rw [List.filterMap_cons_some ent, List.filterMap_cons_some hq, e1, List.map_cons, List.map_cons, e2]
      refine ⟨rfl, ?_⟩
      have : (es.map (·.1))[i]? = some (hw w q) := by rw [Array.getElem?_map, ent]; rfl
      simp [Array.getD_eq_getD_getElem?, this]
  obtain ⟨e1, e2⟩ := pick order.toList fun i hi => List.mem_range.mp (hp.mem_iff.mp hi)
  refine ⟨_, by simpa using e1, ?_, e2⟩
  refine (hp.filterMap _).trans ?_
  have whole : ∀ n, n ≤ L.length → (List.range n).filterMap (fun i => L[i]?) = L.take n := fun n => by
    induction n with
    | zero => exact fun _ => rfl
    | succ n ih =>
      intro hn
      have q := List.getElem?_eq_getElem (show n < L.length from hn)
      rw [List.range_succ, List.filterMap_append, ih (by omega), List.take_succ, q, List.filterMap_cons_some q]
      rfl
  rw [whole _ (Nat.le_refl _), List.take_length]
/-- the table laid anew, larger -/
theorem tab_relay {o : Obj} (g1 : s.heap.get? a = some o) (g2 : o.ExactSet) (g3 : o.data = .set es ep t) (rw_ : es.toList = rowS w L) (pl : t.place.size = es.size) (dm : t.dummies = #[]) (fl : es.size ≤ t.mask) (nd : (L.map (·.1)).Nodup) (els : ∀ p ∈ L, El s.heap p)
    (led : w.params.followText "set-order" = true ∨ t.led = true) (few : L.length < 64) {wanted M : Nat} (hW : SetTable.sizeAbove wanted - 1 = M) (hM : MaskOk M) (hz : SetTable.sizeAbove wanted ≤ 128) (gap : L.length * 5 < M * 3) {Q : Unit → Shared → Prop}
    (hQ : ∀ h' L' es' ep' t', Heap.SameBut a s.heap h' → TabS w h' a L' es' ep' t' → L'.Perm L → Q () { s with heap := h' }) : wpAny (model P w) A (setRelay a wanted) Q E s := by
  have size := row_len rw_
  have fits : t.fits es.size = true := by
    simp only [SetTable.fits, SetTable.fill, dm, Bool.and_eq_true, beq_iff_eq, decide_eq_true_eq]
    exact ⟨pl, by simp; omega⟩
  obtain ⟨t', order, q1, q2, q3, q4, q5, q6, q7⟩ := relaid_ok t (hs := es.map (·.1)) (wanted := wanted) hW hM (by rw [Array.size_map]; omega)
  rw [Array.size_map, size] at q2
  obtain ⟨L', r1, r2, r3⟩ := row_order rw_ q2
  rw [← r3] at q3
  have size' : (order.filterMap (es[·]?)).size = es.size := by rw [row_len r1, r2.length_eq, size]
  have sl := sizeLine_eq
  rw [setRelay_eq]
  refine wpAny_bind (wpAny_setState_of g1 g3 fits ?_)
  dsimp only
  refine wp_if_neg (by omega) ?_
  try refine wpAny_bind (wpAny_pure ?_)
  rw [q1]
  dsimp only
  refine wpAny_bind (wp_if_neg (by rw [size']; simp) ?_)
  try refine wpAny_bind (wpAny_pure ?_)
  refine wpAny_pure ?_
  dsimp only
  refine wpAny_storeSet_of g1 g3 ?_ (by omega)
  have sb : Heap.SameBut a s.heap (s.heap.update a (Obj.putSet (order.filterMap (es[·]?)) t')) := Heap.SameBut.update ..
  refine hQ _ L' _ (ep + 1) t' sb ⟨⟨_, store_at g1 g3, ⟨g2.1, g2.2.1, g2.2.2⟩, rfl⟩, r1, q3, (r2.map (·.1)).nodup_iff.mpr nd, fun p hp => (els p (r2.mem_iff.mp hp)).but g1 g3 sb, by rw [q5]; exact led, ?_, by rw [r2.length_eq]; exact few⟩ r2
  rw [r2.length_eq, q4]
  exact gap
/-- one more is put in -/
theorem tab_add (R : TabS w s.heap a L es ep t) (hp : El s.heap p) (hu : A.units + 8 < cLine) (few : L.length + 1 < 64) {Q : Bool → Shared → Prop}
    (hQ : ∀ b h' L' es' ep' t', Heap.SameBut a s.heap h' → TabS w h' a L' es' ep' t' → (p.1 ∈ L.map (·.1) → L' = L) → (p.1 ∉ L.map (·.1) → L'.Perm (p :: L)) → Q b { s with heap := h' }) :
    wpAny (model P w) A (setAddHashed a (.ref p.2) (hw w p)) Q E s := by
  obtain ⟨o, g1, g2, g3⟩ := R.obj
  have size := row_len R.row
  have gap := R.gap
  have sl := sizeLine_eq
  unfold setAddHashed
  refine wpAny_holding ?_
  rw [show (100000 : Nat) = 99999 + 1 from rfl, setAddHashedIn_succ]
  refine wpAny_bind (wpAny_setState_of g1 g3 R.fits ?_)
  dsimp only
  refine wp_if_neg (by simp [byScan, Value.scannable]) ?_
  try refine wpAny_bind (wpAny_pure ?_)
  refine wpAny_bind (tab_search R hp hu (fun hm => ?_) fun K hm hK hb => ?_)
  · dsimp only
    exact wpAny_pure (hQ false s.heap L es ep t (Heap.SameBut.refl a s.heap) R (fun _ => rfl) fun z => absurd hm z)
  dsimp only
  refine wpAny_bind (wpAny_setState_of g1 g3 R.fits ?_)
  dsimp only
  obtain ⟨q1, q2, q3, q4, q5, q6, q7, q8, q9⟩ := R.tab.put hK hb
  generalize hpt : t.put (way t.mask (hw w p) K) = pt at q1 q3 q4 q5 q6 q7 q8 q9 ⊢
  obtain ⟨t1, j⟩ := pt
  dsimp only at q1 q3 q4 q5 q6 q7 q8 q9 ⊢
  subst q1
  have new : (SetTable.insertAt es (SetTable.below t.place (way t.mask (hw w p) K)) (hw w p, Value.ref p.2)).toList = rowS w (L.take (SetTable.below t.place (way t.mask (hw w p) K)) ++ p :: L.drop (SetTable.below t.place (way t.mask (hw w p) K))) := by
    rw [SetTable.toList_insertAt, R.row]
    simp only [rowS, List.map_append, List.map_cons, List.map_take, List.map_drop]
  generalize hj : SetTable.below t.place (way t.mask (hw w p) K) = j at q2 q3 new ⊢
  have pm := put_perm L j p
  have tab1 : TabOk t1 ((L.take j ++ p :: L.drop j).map (hw w)) := by
    rw [List.map_append, List.map_cons, List.map_take, List.map_drop]
    exact q3
  generalize SetTable.insertAt es j (hw w p, Value.ref p.2) = es1 at new ⊢
  generalize L.take j ++ p :: L.drop j = L1 at pm tab1 new
  have len1 : L1.length = L.length + 1 := pm.length_eq
  have size1 := row_len new
  have nd1 : (L1.map (·.1)).Nodup := (pm.map (·.1)).nodup_iff.mpr (by rw [List.map_cons]; exact List.nodup_cons.mpr ⟨hm, R.ndp⟩)
  have led1 : w.params.followText "set-order" = true ∨ t1.led = true := by rw [q5]; exact R.led
  /- whatever is told of the hash -/
  have rest : ∀ t2 : SetTable, TabOk t2 (L1.map (hw w)) → t2.mask = t.mask → t2.led = t1.led → t2.place = t1.place → t2.dummies = t1.dummies → wpAny (model P w) A (do
        storeSet a es1 t2
        if (!false && t2.tooFull) = true then do
            setRelay a (SetTable.grown (es.size + 1))
            pure true
          else pure true) Q E s := fun t2 tab2 m2 l2 p2 d2 => by
    refine wpAny_bind (wpAny_storeSet_of g1 g3 ?_ (by omega))
    have sb : Heap.SameBut a s.heap (s.heap.update a (Obj.putSet es1 t2)) := Heap.SameBut.update ..
    have k1 := store_at (es' := es1) (t' := t2) g1 g3
    generalize s.heap.update a (Obj.putSet es1 t2) = h1 at sb k1 ⊢
    have els1 : ∀ q ∈ L1, El h1 q := fun q hq => by
      rcases List.mem_cons.mp (pm.mem_iff.mp hq) with e | hq
      · subst e; exact hp.but g1 g3 sb
      · exact (R.els q hq).but g1 g3 sb
    have fill2 : t2.fill = L1.length := by
      have := tab2.sz
      rw [List.length_map] at this
      simp only [SetTable.fill, tab2.dm]
      simp [this]
    by_cases full : t2.tooFull = true
    · have much : (L.length + 1) * 5 ≥ t.mask * 3 := by
        have := full
        simp only [SetTable.tooFull, decide_eq_true_eq, fill2, len1, m2] at this
        exact this
      have two : (t.mask = 7 ∧ L.length = 4) ∨ (t.mask = 31 ∧ L.length = 18) := by
        rcases R.tab.mok with e | e | e
        · exact .inl ⟨e, by rw [e] at much gap; omega⟩
        · exact .inr ⟨e, by rw [e] at much gap; omega⟩
        · rw [e] at much; omega
      have go : ∀ M, SetTable.sizeAbove (SetTable.grown (L.length + 1)) - 1 = M → MaskOk M → SetTable.sizeAbove (SetTable.grown (L.length + 1)) ≤ 128 → (L.length + 1) * 5 < M * 3 →
          wpAny (model P w) A (setRelay a (SetTable.grown (es.size + 1))) (fun _ s' => wpAny (model P w) A (pure true) Q E s') E { s with heap := h1 } := fun M z1 z2 z3 z4 => by
        rw [size]
        refine tab_relay (s := { s with heap := h1 }) k1 ⟨g2.1, g2.2.1, g2.2.2⟩ rfl new (by rw [size1]; have := tab2.sz; rwa [List.length_map] at this) tab2.dm (by rw [size1, len1, m2]; rcases two with ⟨e, e2⟩ | ⟨e, e2⟩ <;> omega) nd1 els1 (by rw [l2]; exact led1) (by rw [len1]; exact few) z1 z2 z3 (by rw [len1]; exact z4) ?_
        exact fun h2 L2 es2 ep2 t3 sb2 R2 pm2 => wpAny_pure (hQ true h2 L2 es2 ep2 t3 (sb.trans sb2) R2 (fun z => absurd z hm) fun _ => pm2.trans pm)
      refine wp_if_pos (by simp [full]) (wpAny_bind ?_)
      rcases two with ⟨_, e⟩ | ⟨_, e⟩
      · exact go 31 (by rw [e, size_20]) (.inr (.inl rfl)) (by rw [e, size_20]; decide) (by omega)
      · exact go 127 (by rw [e, size_76]) (.inr (.inr rfl)) (by rw [e, size_76]; decide) (by omega)
    · refine wp_if_neg (by simp [full]) (wpAny_pure ?_)
      refine (hQ true h1 L1 es1 (ep + 1) t2 sb ⟨⟨_, k1, ⟨g2.1, g2.2.1, g2.2.2⟩, rfl⟩, new, tab2, nd1, els1, by rw [l2]; exact led1, ?_, by rw [len1]; exact few⟩ (fun z => absurd z hm) fun _ => pm)
      have := full
      simp only [SetTable.tooFull, decide_eq_true_eq, fill2, len1, m2] at this
      rw [len1, m2]
      omega
  have off : TabOk { t1 with plain := false } (L1.map (hw w)) := ⟨tab1.ris, tab1.dm, tab1.sz, tab1.mok, tab1.bd, tab1.reach⟩
  have both : ∀ b : Bool, wpAny (model P w) A (do
        storeSet a es1 (if b = true then t1 else { t1 with plain := false })
        if (!false && (if b = true then t1 else { t1 with plain := false }).tooFull) = true then do
            setRelay a (SetTable.grown (es.size + 1))
            pure true
          else pure true) Q E s := fun b => by
    cases b with
    | true => exact rest t1 tab1 q4 rfl rfl rfl
    | false => exact rest { t1 with plain := false } off q4 rfl rfl rfl
  by_cases hpl : t1.plain = true
  · exact wp_if_pos hpl (wpAny_bind (hashBy_key _ _ 8 _ hp.1 hp.2 _ _ _ both))
  · exact wp_if_neg hpl (wpAny_bind (wpAny_pure (both true)))
end
end
end TL
namespace TL
open PySem PySem.Spec PyProof.Rows L2
theorem perm_map {α β : Type} (f : α → β) {l m : List β} (p : l.Perm m) : ∀ L : List α, m = L.map f → ∃ L' : List α, L'.Perm L ∧ l = L'.map f := by
  induction p with
  | nil => exact fun L e => ⟨L, .refl _, e⟩
  | cons x _ ih =>
    intro L e
    cases L with
    | nil => cases e
    | cons y L =>
      rw [List.map_cons] at e
      injection e with e1 e2
      obtain ⟨L', p', e'⟩ := ih L e2
      exact ⟨y :: L', p'.cons y, by rw [List.map_cons, e1, e']⟩
  | swap x y l =>
    intro L e
    match L with
    | [] => cases e
    | [_] => cases e
    | u :: v :: L =>
      rw [List.map_cons, List.map_cons] at e
      injection e with e1 e2
      injection e2 with e2 e3
      exact ⟨v :: u :: L, .swap _ _ _, by rw [List.map_cons, List.map_cons, e1, e2, e3]⟩
  | trans _ _ ih1 ih2 =>
    intro L e
    obtain ⟨L1, p1, e1⟩ := ih2 L e
    obtain ⟨L2, p2, e2⟩ := ih1 L1 e1
    exact ⟨L2, p2.trans p1, e2⟩

section
variable {P : Program} {w : World} {A : Around} {E : Value → Shared → Prop} {s : Shared}
abbrev mk (P : Program) (w : World) := mixKind P w
def rowK (P : Program) (w : World) (p : Key × Value) : Int × Value := ((mk P w).hash p.1, p.2)
def Sc (P : Program) (w : World) (p : Key × Value) : Prop := (mk P w).is p.1 p.2 = true ∧ p.2.scannable = true
structure ScanS (P : Program) (w : World) (h : Heap) (a : Addr) (L : List (Key × Value)) (es : Array (Int × Value)) (ep : Nat) (t : SetTable) : Prop where
  obj : ∃ o, h.get? a = some o ∧ o.ExactSet ∧ o.data = .set es ep t
  row : es.toList = L.map (rowK P w)
  els : ∀ p ∈ L, Sc P w p
  ndp : (L.map (·.1)).Nodup
  few : L.length < scanBound
  fits : t.fits es.size = true
  ris : Ris t.place.toList
  led : w.params.followText "set-order" = true ∨ t.led = true
variable {a : Addr} {L : List (Key × Value)} {es : Array (Int × Value)} {ep : Nat} {t : SetTable} {p : Key × Value}
theorem scan_len (e : es.toList = L.map (rowK P w)) : es.size = L.length := by
  have := congrArg List.length e
  rwa [Array.length_toList, List.length_map] at this
theorem scan_els (e : es.toList = L.map (rowK P w)) (h : ∀ p ∈ L, Sc P w p) : ElemsOf (mk P w) es.toList := fun x hx => by
  rw [e] at hx
  obtain ⟨q, hq, rfl⟩ := List.mem_map.mp hx
  exact ⟨⟨q.1, (h q hq).1, rfl⟩, (h q hq).2⟩
/-- what is laid down behind a new element -/
theorem scan_tail {g : Bool → Sem Unit} (hg : ∀ (b : Bool) (s₁ : Shared) (Q' : Unit → Shared → Prop), Q' () s₁ → wpAny (model P w) A (g b) Q' E s₁) {o : Obj} (g1 : s.heap.get? a = some o) (g2 : o.ExactSet) (g3 : o.data = .set es ep t)
    {es1 : Array (Int × Value)} {t1 : SetTable} {L1 : List (Key × Value)} (row : es1.toList = L1.map (rowK P w)) (els : ∀ p ∈ L1, Sc P w p) (nd : (L1.map (·.1)).Nodup) (few : L1.length < scanBound) (fits : t1.fits es1.size = true) (ris : Ris t1.place.toList)
    (led : w.params.followText "set-order" = true ∨ t1.led = true) {dm : Bool} {R : Option Bool → Shared → Prop}
    (hR : ∀ h' L' es' ep' t', Heap.SameBut a s.heap h' → ScanS P w h' a L' es' ep' t' → L'.Perm L1 → R (some true) { s with heap := h' }) :
    wpAny (model P w) A (do
        storeSet a es1 t1
        if (!dm && t1.tooFull) = true then do
            g (relayAll t1 es1 (SetTable.grown es1.size)).2.2
            storeSet a (relayAll t1 es1 (SetTable.grown es1.size)).1 (relayAll t1 es1 (SetTable.grown es1.size)).2.1
            pure (some true)
          else pure (some true)) R E s := by
  have size := scan_len row
  refine wpAny_bind (wpAny_storeSet_of g1 g3 ?_ (fits_of_scanBound (by omega)))
  have k1 := store_at (es' := es1) (t' := t1) g1 g3
  have sb := Heap.SameBut.update s.heap a (Obj.putSet es1 t1)
  split
  · have pm := relayAll_perm t1 es1 (SetTable.grown es1.size)
    have f2 := relayAll_fits t1 es1 (SetTable.grown es1.size)
    have r2 := relayAll_ris t1 es1 (SetTable.grown es1.size)
    have l2 := relayAll_led t1 es1 (SetTable.grown es1.size)
    generalize relayAll t1 es1 (SetTable.grown es1.size) = Z at pm f2 r2 l2 ⊢
    obtain ⟨es2, t2, gave⟩ := Z
    dsimp only at pm f2 r2 l2 ⊢
    obtain ⟨L2, p2, e2⟩ := perm_map _ pm L1 row
    have size2 := scan_len e2
    have len2 := p2.length_eq
    refine wpAny_bind (hg _ _ _ (wpAny_bind (wpAny_storeSet_of k1 rfl ?_ (fits_of_scanBound (by omega)))))
    have k2 := store_at (es' := es2) (t' := t2) k1 rfl
    exact wpAny_pure (hR _ L2 es2 _ t2 (sb.trans (Heap.SameBut.update _ a _)) ⟨⟨_, k2, g2, rfl⟩, e2, fun q hq => els q (p2.mem_iff.mp hq), (p2.map (·.1)).nodup_iff.mpr nd, by omega, f2, r2, led.imp id fun z => by rw [l2]; exact z⟩ p2)
  · exact wpAny_pure (hR _ L1 es1 _ t1 sb ⟨⟨_, k1, g2, rfl⟩, row, els, nd, few, fits, ris, led⟩ (.refl _))
/-- one more is put in -/
theorem scan_add (R : ScanS P w s.heap a L es ep t) (hp : Sc P w p) (few : L.length + 1 < scanBound) {Q : Bool → Shared → Prop}
    (hQ : ∀ b h' L' es' ep' t', Heap.SameBut a s.heap h' → ScanS P w h' a L' es' ep' t' → (p.1 ∈ L.map (·.1) → L' = L) → (p.1 ∉ L.map (·.1) → L'.Perm (p :: L)) → Q b { s with heap := h' }) :
    wpAny (model P w) A (setAddHashed a p.2 ((mk P w).hash p.1)) Q E s := by
  obtain ⟨o, g1, g2, g3⟩ := R.obj
  have size := scan_len R.row
  have els := scan_els R.row R.els
  unfold setAddHashed setAddHashedIn
  refine wpAny_holding (wpAny_bind (wpAny_setState_of g1 g3 R.fits ?_))
  dsimp only
  rw [byScan_of hp.2 (by rw [size]; exact R.few) els]
  simp only [↓reduceIte]
  unfold setAddByScan
  refine wpAny_bind (wpAny_bind (wpAny_rule (wpAny_bind (wpAny_setScan_of hp.1 g1 g3 R.fits els ?_))))
  have same : ∀ q ∈ L, (mk P w).is p.1 q.2 = true → q.1 = p.1 := fun q hq z => (mk P w).inj q.2 _ _ (R.els q hq).1 z
  cases hf : List.findIdx? (fun e => (mk P w).is p.1 e.2) es.toList with
  | some j =>
    dsimp only
    obtain ⟨hj, pj, _⟩ := List.findIdx?_eq_some_iff_getElem.mp hf
    have hm : es.toList[j] ∈ L.map (rowK P w) := by rw [← R.row]; exact List.getElem_mem hj
    obtain ⟨q, hq, e⟩ := List.mem_map.mp hm
    rw [← e] at pj
    have there : p.1 ∈ L.map (·.1) := List.mem_map.mpr ⟨q, hq, same q hq pj⟩
    exact wpAny_pure (wpAny_pure (hQ false s.heap L es ep t (Heap.SameBut.refl a s.heap) R (fun _ => rfl) fun z => absurd there z))
  | none =>
    dsimp only
    have new : p.1 ∉ L.map (·.1) := fun z => by
      obtain ⟨q, hq, e⟩ := List.mem_map.mp z
      have c := List.findIdx?_eq_none_iff.mp hf (rowK P w q) (by rw [R.row]; exact List.mem_map.mpr ⟨q, hq, rfl⟩)
      rw [← e] at c
      have c2 : (mk P w).is q.1 q.2 = false := c
      rw [(R.els q hq).1] at c2
      cases c2
    have hgw : ∀ (b : Bool) {s₁ : Shared} {Q' : Unit → Shared → Prop}, Q' () s₁ → wpAny (model P w) A (match b with | true => rule "set.scan.the-table-gave-way" | false => pure ()) Q' E s₁ := fun b s₁ Q' z => by
      cases b
      · exact wpAny_pure z
      · exact wpAny_rule z
    have pm := layNew_perm t es ((mk P w).hash p.1) p.2
    have f1 := layNew_fits t es ((mk P w).hash p.1) p.2
    have r1 := layNew_ris t es ((mk P w).hash p.1) p.2 R.ris
    have l1 := layNew_led t es ((mk P w).hash p.1) p.2
    generalize layNew t es ((mk P w).hash p.1) p.2 = Z at pm f1 r1 l1 ⊢
    obtain ⟨es1, t1, dm, gave⟩ := Z
    dsimp only at pm f1 r1 l1 ⊢
    rw [Array.toList_push, R.row] at pm
    obtain ⟨L1, p1, e1⟩ := perm_map (rowK P w) (pm.trans (List.perm_append_singleton _ _)) (p :: L) rfl
    have len1 : L1.length = L.length + 1 := p1.length_eq
    have els1 : ∀ q ∈ L1, Sc P w q := fun q hq => by
      rcases List.mem_cons.mp (p1.mem_iff.mp hq) with z | z
      · subst z; exact hp
      · exact R.els q z
    have nd1 : (L1.map (·.1)).Nodup := (p1.map (·.1)).nodup_iff.mpr (List.nodup_cons.mpr ⟨new, R.ndp⟩)
    have led1 : w.params.followText "set-order" = true ∨ t1.led = true := R.led.imp id fun z => by rw [l1]; exact z
    have fin : ∀ h' L' es' ep' t', Heap.SameBut a s.heap h' → ScanS P w h' a L' es' ep' t' → L'.Perm L1 → Q true { s with heap := h' } := fun h' L' es' ep' t' sb r pm' => hQ true h' L' es' ep' t' sb r (fun z => absurd z new) fun _ => pm'.trans p1
    refine wpAny_bind (hgw _ ?_)
    split
    · refine wpAny_bind ?_
      rw [hashByValue_scannable 8 hp.2]
      refine wpAny_pure (scan_tail ?_ g1 g2 g3 e1 els1 nd1 (by omega) ?_ ?_ ?_ ?_)
      · intro b s₁ Q' z; cases b <;> first | exact wpAny_pure z | exact wpAny_rule z
      · split
        · exact f1
        · exact SetTable.fits_plain_off f1
      · split <;> exact r1
      · split <;> exact led1
      · exact fun h' L' es' ep' t' sb r pm' => wpAny_pure (fin h' L' es' ep' t' sb r pm')
    · refine wpAny_bind (wpAny_pure ?_)
      simp only [↓reduceIte]
      refine scan_tail ?_ g1 g2 g3 e1 els1 nd1 (by omega) f1 r1 led1 ?_
      · intro b s₁ Q' z; cases b <;> first | exact wpAny_pure z | exact wpAny_rule z
      · exact fun h' L' es' ep' t' sb r pm' => wpAny_pure (fin h' L' es' ep' t' sb r pm')
end
end TL
namespace TL
open PySem PySem.Spec PyProof.Rows L2
section
variable {P : Program} {w : World} {A : Around} {E : Value → Shared → Prop} {s : Shared}
abbrev newSet (w : World) : Obj := { cls := .type "set", dict := none, data := .set #[] 0 (.fresh 0 0 (!w.params.followText "set-order")) }
/-- how a set at S is filled: Bag i h: it holds the first i things; h0: what stays -/
structure Fills (P : Program) (w : World) (U : Nat) (S : Addr) (h0 : Heap) (n : Nat) (Pv : Nat → Value → Prop) (Bag : Nat → Heap → Prop) : Prop where
  keep : ∀ i h h', Bag i h → (∀ o, h.get? S = some o → h'.get? S = some o) → (∀ b o, h0.get? b = some o → h'.get? b = some o) → Bag i h'
  step : ∀ (A : Around) (i : Nat) (v : Value) (s : Shared) (Q : Bool → Shared → Prop) (E : Value → Shared → Prop), A.units ≤ U → i < n → Pv i v → Bag i s.heap → (∀ b o, h0.get? b = some o → s.heap.get? b = some o) →
    (∀ b h' tk, s.toks ≤ tk → Heap.SameBut S s.heap h' → Bag (i + 1) h' → Q b { s with heap := h', toks := tk }) → wpAny (model P w) A (setAdd S v) Q E s
theorem fill_loop {I : Addr} {fp wr : List Addr} {G : Array GenState → Array GenState → Prop} {n U : Nat} {Pv : Nat → Value → Prop} {St : Nat → Shared → Prop} {R : Result → Shared → Prop} (W : WalksS P w A.in1 I fp wr G n Pv St) {S : Addr} {h0 : Heap} {Bag : Nat → Heap → Prop}
    (FF : Fills P w U S h0 n Pv Bag) (hS : S ∉ fp) (nS : h0.get? S = none) (nw : ∀ b ∈ wr, h0.get? b = none) (hU : A.in1.units ≤ U) (left : Nat) :
    ∀ (i : Nat) (s : Shared), n - i = left → i ≤ n → St i s → (∀ b o, h0.get? b = some o → s.heap.get? b = some o) → Bag i s.heap →
      (∀ s', Moved (S :: wr) G s s' → Bag n s'.heap → (∀ b o, h0.get? b = some o → s'.heap.get? b = some o) → R (.ok (.ret .none)) s') → codeAny (model P w) A (.builtin "set.update.loop" ⟨[.ref S, .ref I], []⟩) R s := by
  have nSw : S ∉ wr := fun z => hS (W.sub _ z)
  have more : ∀ b ∈ wr, b ∈ S :: wr := fun b => List.mem_cons_of_mem S
  have stay : ∀ {x y : Shared}, Moved wr G x y → (∀ b o, h0.get? b = some o → x.heap.get? b = some o) → ∀ b o, h0.get? b = some o → y.heap.get? b = some o := fun mv old b o z =>
    mv.heap b o (fun hb => by rw [nw b hb] at z; cases z) (old b o z)
  induction left with
  | zero =>
    intro i s hl hi st old bag hR
    obtain rfl : i = n := by omega
    refine codeAny_builtin F.entry_set_update_loop ?_
    rw [Around.under_plainId F.plain_set_update_loop _]
    show wpAny _ A.in1 (pyNext (.ref I) >>= _) _ _ s
    refine wpAny_bind (W.done s _ _ st fun s' mv => ?_)
    show wpAny _ A.in1 (ret Value.none) _ _ s'
    exact wpAny_pure (hR s' (mv.mono more) (FF.keep _ _ _ bag (fun o z => mv.heap S o nSw z) (stay mv old)) (stay mv old))
  | succ left ih =>
    intro i s hl hi st old bag hR
    have lt : i < n := by omega
    refine codeAny_builtin F.entry_set_update_loop ?_
    rw [Around.under_plainId F.plain_set_update_loop _]
    show wpAny _ A.in1 (pyNext (.ref I) >>= _) _ _ s
    refine wpAny_bind (W.item i s _ _ lt st fun v s1 hv st1 mv => ?_)
    show wpAny _ A.in1 (holding [v] (setAdd S v) >>= _) _ _ s1
    have old1 := stay mv old
    refine wpAny_bind (wpAny_holding (FF.step _ i v s1 _ _ hU lt hv (FF.keep _ _ _ bag (fun o z => mv.heap S o nSw z) old1) old1 fun b h' tk ht sb bag' => ?_))
    have old2 : ∀ b o, h0.get? b = some o → h'.get? b = some o := fun b o z => (sb.2 b (fun e => by subst e; rw [nS] at z; cases z)).trans (old1 b o z)
    refine wpAny_pure ⟨plainId_quiet F.plain_set_update_loop _, ih (i + 1) _ (by omega) lt (W.frame _ s1 _ _ st1 ht fun b hb o z => (sb.2 b fun e => hS (e ▸ hb)).trans z) old2 bag' fun s2 mv2 bag2 old3 => ?_⟩
    exact hR s2 (Moved.trans W.gtrans ((mv.mono more).then_heap ht fun b o hb z => (sb.2 b fun e => hb (e ▸ List.mem_cons_self)).trans z) mv2) bag2 old3
theorem none_at {h : Heap} {b : Addr} (hb : h.objs.size ≤ b) : h.get? b = none := by
  cases q : h.get? b with
  | none => rfl
  | some o => exact absurd (Heap.lt_size q) (Nat.not_lt.mpr hb)
/-- set(xs), xs of the class T; it: what walks it -/
theorem fill_call {T itc : String} {l : Addr} {items : Array Value} {oT : Obj} (hT : oT.cls = .type T) (sub1 : isSubtype (.type T) (.type "set") = pure false) (sub2 : isSubtype (.type T) (.type "frozenset") = pure false) (nd : (Value.type T == Value.type "dict") = false)
    (hiter : ∀ (A : Around) (E : Value → Shared → Prop) (Q : Value → Shared → Prop) (s : Shared), A.handled = none → s.heap.get? l = some oT → Q (.ref s.heap.objs.size) { s with heap := s.heap.push { cls := .type itc, data := .fields #[.ref l, .int 0 0] } } → wpAny (model P w) A (pyIter (.ref l)) Q E s)
    {St : Addr → Nat → Heap → Prop} (hwalk : ∀ (A : Around) (I : Addr), A.handled = none → l ≠ I → Walks P w A I [I, l] [I] items.size (fun i v => items[i]? = some v) (St I))
    (hst : ∀ (h : Heap) (I : Addr), h.get? I = some { cls := .type itc, dict := none, data := .fields #[.ref l, .int 0 0] } → h.get? l = some oT → St I 0 h)
    {Q : Value → Shared → Prop} (hh : A.handled = none) (hl : s.heap.get? l = some oT) {Bag : Nat → Heap → Prop} (FF : Fills P w A.in1.in1.in1.units s.heap.objs.size s.heap items.size (fun i v => items[i]? = some v) Bag)
    (bag0 : ∀ h : Heap, h.get? s.heap.objs.size = some (newSet w) → (∀ b o, s.heap.get? b = some o → h.get? b = some o) → Bag 0 h)
    (fin : ∀ (h' : Heap) (tk : Nat), Bag items.size h' → (∀ b o, s.heap.get? b = some o → h'.get? b = some o) → Q (.ref s.heap.objs.size) { s with heap := h', toks := tk }) :
    wpAny (model P w) A (call (.type "set") [.ref l]) Q E s := by
  obtain ⟨c, tl, hmro⟩ := F.called_set.mro
  have hmade := F.called_set.made
  have hsub := F.called_set.sub
  refine wpAny_call (codeAny_of_tree ?_)
  show wpAny _ _ (callAny (.type "set") _) _ _ _
  refine wpAny_pure ⟨Code.quiet_builtin _ (by decide +kernel), codeAny_builtin F.entry_type_call ?_⟩
  rw [Around.under_plain (weight_type_call_type "set" [.ref l] []) rfl]
  have h1 := F.called_set.notType
  have h2 := F.called_set.canCreate
  have hct := F.typeCall_set_1 (.ref l)
  repeat (any_goals (first | assumption | wp_step))
  refine codeAny_mono (code_set_led1 (.ref l) (E := E) (Q₁ := fun obj s₁ => obj = .ref s.heap.objs.size ∧ s₁ = { s with heap := s.heap.push (newSet w) }) ⟨rfl, rfl⟩) fun r s₁ hr => ?_
  cases r with
  | error e => exact hr
  | ok fl =>
    cases fl with
    | ret obj =>
      obtain ⟨rfl, rfl⟩ := hr
      have hS : (s.heap.push (newSet w)).get? s.heap.objs.size = some (newSet w) := Heap.get?_push_size _ rfl
      have ty : Shared.TypeIs { s with heap := s.heap.push (newSet w) } (.ref s.heap.objs.size) "set" := ⟨_, hS, rfl⟩
      have hli := F.called_set.init.lookup
      have hbi := F.called_set.init.bind (.ref s.heap.objs.size)
      repeat (any_goals (first | assumption | wp_step))
      refine codeAny_mono (codeAny_call_builtin (R := wants (fun r s₂ => r = .none ∧ ∃ h' tk, s₂ = { s with heap := h', toks := tk } ∧ Bag items.size h' ∧ (∀ b o, s.heap.get? b = some o → h'.get? b = some o)) E)
        F.called_set.init.plain F.entry_set_init (check_set_init_1 ty ?_)) fun r₂ s₂ hr₂ => ?_
      · have hl' : (s.heap.push (newSet w)).get? l = some oT := Heap.get?_push_of_some _ hl
        obtain ⟨oc, od, odt, osl⟩ := oT
        obtain rfl : oc = .type T := hT
        unfold Builtin.«set.__init__» noKeywords Builtin.Frozenset.updateFrom
        generalize hPI : pyIter = PI
        wp_walk
        subst hPI
        have lt : l < s.heap.objs.size := Heap.lt_size hl
        have size : (s.heap.push (newSet w)).objs.size = s.heap.objs.size + 1 := Heap.size_push ..
        refine hiter _ _ _ _ (by simp [hh]) hl' (wpAny_bind (wpAny_runValue ?_))
        refine fill_loop (hwalk _ _ (by simp [hh]) ?_).toS FF ?_ (none_at (Nat.le_refl _)) (fun b hb => none_at ?_) (Nat.le_refl _) (items.size - 0) 0 _ rfl (Nat.zero_le _) ?_ ?_ ?_ ?_
        · show l ≠ (s.heap.push (newSet w)).objs.size
          exact Nat.ne_of_lt (by rw [size]; exact Nat.lt_succ_of_lt lt)
        · show s.heap.objs.size ∉ [(s.heap.push (newSet w)).objs.size, l]
          simp only [List.mem_cons, List.not_mem_nil, or_false, not_or]
          exact ⟨Nat.ne_of_lt (by rw [size]; exact Nat.lt_succ_self _), Nat.ne_of_gt lt⟩
        · have hb' : b = (s.heap.push (newSet w)).objs.size := List.mem_singleton.mp hb
          rw [hb', size]
          omega
        · exact hst _ _ (Heap.get?_push_size _ rfl) (Heap.get?_push_of_some _ hl')
        · exact fun b o z => Heap.get?_push_of_some _ (Heap.get?_push_of_some _ z)
        · exact bag0 _ (Heap.get?_push_of_some _ hS) fun b o z => Heap.get?_push_of_some _ (Heap.get?_push_of_some _ z)
        · intro s' mv bag old
          obtain ⟨h', g', d', tk, os'⟩ := s'
          obtain rfl : g' = s.gens := mv.gens
          obtain rfl : d' = s.drawn := mv.drawn
          obtain rfl : os' = s.os := mv.os
          refine wpAny_pure ?_
          show wpAny _ _ (ret Value.none) _ _ _
          exact wpAny_pure ⟨rfl, h', tk, rfl, bag, old⟩
      · cases r₂ with
        | error e => exact hr₂
        | ok fl₂ =>
          cases fl₂ with
          | ret r =>
            obtain ⟨rfl, h', tk, rfl, bag, old⟩ := hr₂
            repeat (any_goals (first | assumption | wp_step))
            exact fin h' tk bag old
          | _ => exact hr₂.elim
    | _ => exact hr.elim
theorem fill_list {l : Addr} {items : Array Value} {Q : Value → Shared → Prop} (hh : A.handled = none) (hl : s.heap.IsList l items) {Bag : Nat → Heap → Prop} (FF : Fills P w A.in1.in1.in1.units s.heap.objs.size s.heap items.size (fun i v => items[i]? = some v) Bag)
    (bag0 : ∀ h : Heap, h.get? s.heap.objs.size = some (newSet w) → (∀ b o, s.heap.get? b = some o → h.get? b = some o) → Bag 0 h)
    (fin : ∀ (h' : Heap) (tk : Nat), Bag items.size h' → (∀ b o, s.heap.get? b = some o → h'.get? b = some o) → Q (.ref s.heap.objs.size) { s with heap := h', toks := tk }) : wpAny (model P w) A (call (.type "set") [.ref l]) Q E s := by
  obtain ⟨o, h1, h2, n, h3⟩ := hl
  exact fill_call (itc := "list_iterator") h2 F.sub_list_set F.sub_list_frozenset (by decide) (fun A' E' Q' s' hh' hl' q => wpAny_pyIter_list ⟨o, hl', h2, n, h3⟩ q) (fun A' I hh' ne => Walks.list hh' I l ne items) (fun h I z1 z2 => ⟨⟨_, z1, rfl, rfl⟩, ⟨o, z2, h2, n, h3⟩⟩) hh h1 FF bag0 fin
theorem fill_tuple {l : Addr} {items : Array Value} {Q : Value → Shared → Prop} (hh : A.handled = none) (hl : s.heap.IsTuple l items) {Bag : Nat → Heap → Prop} (FF : Fills P w A.in1.in1.in1.units s.heap.objs.size s.heap items.size (fun i v => items[i]? = some v) Bag)
    (bag0 : ∀ h : Heap, h.get? s.heap.objs.size = some (newSet w) → (∀ b o, s.heap.get? b = some o → h.get? b = some o) → Bag 0 h)
    (fin : ∀ (h' : Heap) (tk : Nat), Bag items.size h' → (∀ b o, s.heap.get? b = some o → h'.get? b = some o) → Q (.ref s.heap.objs.size) { s with heap := h', toks := tk }) : wpAny (model P w) A (call (.type "set") [.ref l]) Q E s := by
  obtain ⟨o, h1, h2, n, h3⟩ := hl
  exact fill_call (itc := "tuple_iterator") h2 F.sub_tuple_set F.sub_tuple_frozenset (by decide) (fun A' E' Q' s' hh' hl' q => wpAny_pyIter_tuple ⟨o, hl', h2, n, h3⟩ q) (fun A' I hh' ne => Walks.tuple hh' I l ne items) (fun h I z1 z2 => ⟨⟨_, z1, rfl, rfl⟩, ⟨o, z2, h2, n, h3⟩⟩) hh h1 FF bag0 fin
end
end TL
namespace TL
open PySem PySem.Spec PyProof.Rows L2
mutual
def kx : T → Bool
  | .int _ => true
  | .str _ => true
  | .tup ts => kxs ts
  | _ => false
def kxs : List T → Bool
  | [] => true
  | t :: ts => kx t && kxs ts
end
mutual
theorem kx_plain : ∀ t : T, kx t = true → plain t = true
  | .int _, _ => rfl
  | .str _, _ => rfl
  | .tup ts, h => kxs_plain ts h
  | .non, h => by cases h
  | .bl _, h => by cases h
  | .lst _, h => by cases h
  | .ref _, h => by cases h
  | .exc _ _ _, h => by cases h
  | .dct _ _ _, h => by cases h
  | .obj _ _ _, h => by cases h
  | .fn _, h => by cases h
  | .scr _, h => by cases h
  | .clo .., h => by cases h
theorem kxs_plain : ∀ ts : List T, kxs ts = true → plains ts = true
  | [], _ => rfl
  | t :: ts, h => by
    simp only [kxs, Bool.and_eq_true] at h
    simp only [plains, Bool.and_eq_true]
    exact ⟨kx_plain t h.1, kxs_plain ts h.2⟩
end
mutual
def kf : T → NestedKey
  | .int i => .num i
  | .str x => .text (txt x)
  | .tup ts => .tup (kfs ts)
  | _ => .none
def kfs : List T → List NestedKey
  | [] => []
  | t :: ts => kf t :: kfs ts
end
mutual
theorem kf_inj : ∀ x y : T, kx x = true → kx y = true → kf x = kf y → x = y
  | .int i, y, _, hy, e => by
    cases y with
    | int j => injection e with e; rw [e]
    | str z => cases e
    | tup z => cases e
    | _ => cases hy
  | .str i, y, _, hy, e => by
    cases y with
    | str j => injection e with e; rw [txt_inj e]
    | int z => cases e
    | tup z => cases e
    | _ => cases hy
  | .tup xs, y, hx, hy, e => by
    cases y with
    | tup ys => injection e with e; rw [kfs_inj xs ys hx hy e]
    | int z => cases e
    | str z => cases e
    | _ => cases hy
  | .non, _, h, _, _ => by cases h
  | .bl _, _, h, _, _ => by cases h
  | .lst _, _, h, _, _ => by cases h
  | .ref _, _, h, _, _ => by cases h
  | .exc _ _ _, _, h, _, _ => by cases h
  | .dct _ _ _, _, h, _, _ => by cases h
  | .obj _ _ _, _, h, _, _ => by cases h
  | .fn _, _, h, _, _ => by cases h
  | .scr _, _, h, _, _ => by cases h
  | .clo .., _, h, _, _ => by cases h
theorem kfs_inj : ∀ xs ys : List T, kxs xs = true → kxs ys = true → kfs xs = kfs ys → xs = ys
  | [], [], _, _, _ => rfl
  | [], _ :: _, _, _, e => by cases e
  | _ :: _, [], _, _, e => by cases e
  | x :: xs, y :: ys, hx, hy, e => by
    simp only [kxs, Bool.and_eq_true] at hx hy
    injection e with e1 e2
    rw [kf_inj x y hx.1 hy.1 e1, kfs_inj xs ys hx.2 hy.2 e2]
end
mutual
theorem kf_dep : ∀ t : T, kx t = true → (kf t).depth = dep t
  | .int _, _ => rfl
  | .str _, _ => rfl
  | .tup ts, h => by simp only [kf, NestedKey.depth, dep]; rw [kfs_dep ts h]
  | .non, h => by cases h
  | .bl _, h => by cases h
  | .lst _, h => by cases h
  | .ref _, h => by cases h
  | .exc _ _ _, h => by cases h
  | .dct _ _ _, h => by cases h
  | .obj _ _ _, h => by cases h
  | .fn _, h => by cases h
  | .scr _, h => by cases h
  | .clo .., h => by cases h
theorem kfs_dep : ∀ ts : List T, kxs ts = true → NestedKey.depthAll (kfs ts) = deps ts
  | [], _ => rfl
  | t :: ts, h => by
    simp only [kxs, Bool.and_eq_true] at h
    simp only [kfs, NestedKey.depthAll, deps]
    rw [kf_dep t h.1, kfs_dep ts h.2]
end
mutual
theorem eqt_kx : ∀ x y : T, kx x = true → kx y = true → (eqt x y = true ↔ x = y)
  | .int i, y, _, hy => by
    cases y with
    | int j => simp [eqt]
    | str z => simp [eqt]
    | tup z => simp [eqt]
    | _ => cases hy
  | .str i, y, _, hy => by
    cases y with
    | str j => simp [eqt]
    | int z => simp [eqt]
    | tup z => simp [eqt]
    | _ => cases hy
  | .tup xs, y, hx, hy => by
    cases y with
    | tup ys =>
      simp only [eqt, T.tup.injEq]
      exact eqts_kx xs ys hx hy
    | int z => simp [eqt]
    | str z => simp [eqt]
    | _ => cases hy
  | .non, _, h, _ => by cases h
  | .bl _, _, h, _ => by cases h
  | .lst _, _, h, _ => by cases h
  | .ref _, _, h, _ => by cases h
  | .exc _ _ _, _, h, _ => by cases h
  | .dct _ _ _, _, h, _ => by cases h
  | .obj _ _ _, _, h, _ => by cases h
  | .fn _, _, h, _ => by cases h
  | .scr _, _, h, _ => by cases h
  | .clo .., _, h, _ => by cases h
theorem eqts_kx : ∀ xs ys : List T, kxs xs = true → kxs ys = true → (eqts xs ys = true ↔ xs = ys)
  | [], [], _, _ => by simp [eqts]
  | [], _ :: _, _, _ => by simp [eqts]
  | _ :: _, [], _, _ => by simp [eqts]
  | x :: xs, y :: ys, hx, hy => by
    simp only [kxs, Bool.and_eq_true] at hx hy
    simp only [eqts, Bool.and_eq_true, List.cons.injEq]
    rw [eqt_kx x y hx.1 hy.1, eqts_kx xs ys hx.2 hy.2]
end
theorem strLt_total {x y : List Sg} (h1 : strLt x y = false) (h2 : strLt y x = false) : x = y := by
  simp only [strLt, decide_eq_false_iff_not] at h1 h2
  exact map_val_inj (List.le_antisymm (List.not_lt.mp h2) (List.not_lt.mp h1))
mutual
theorem ltt_total : ∀ x y : T, kx x = true → kx y = true → alk x y = true → ltt x y = false → ltt y x = false → x = y
  | .int i, y, _, hy, ha, h1, h2 => by
    cases y with
    | int j =>
      simp only [ltt, decide_eq_false_iff_not] at h1 h2
      have : i = j := by omega
      rw [this]
    | str z => simp [alk] at ha
    | tup z => simp [alk] at ha
    | _ => cases hy
  | .str i, y, _, hy, ha, h1, h2 => by
    cases y with
    | str j => rw [strLt_total h1 h2]
    | int z => simp [alk] at ha
    | tup z => simp [alk] at ha
    | _ => cases hy
  | .tup xs, y, hx, hy, ha, h1, h2 => by
    cases y with
    | tup ys => rw [ltts_total xs ys hx hy (by simpa [alk] using ha) h1 h2]
    | int z => simp [alk] at ha
    | str z => simp [alk] at ha
    | _ => cases hy
  | .non, _, h, _, _, _, _ => by cases h
  | .bl _, _, h, _, _, _, _ => by cases h
  | .lst _, _, h, _, _, _, _ => by cases h
  | .ref _, _, h, _, _, _, _ => by cases h
  | .exc _ _ _, _, h, _, _, _, _ => by cases h
  | .dct _ _ _, _, h, _, _, _, _ => by cases h
  | .obj _ _ _, _, h, _, _, _, _ => by cases h
  | .fn _, _, h, _, _, _, _ => by cases h
  | .scr _, _, h, _, _, _, _ => by cases h
  | .clo .., _, h, _, _, _, _ => by cases h
theorem ltts_total : ∀ xs ys : List T, kxs xs = true → kxs ys = true → alks xs ys = true → ltts xs ys = false → ltts ys xs = false → xs = ys
  | [], [], _, _, _, _, _ => rfl
  | [], _ :: _, _, _, _, h, _ => by simp [ltts] at h
  | _ :: _, [], _, _, _, _, h => by simp [ltts] at h
  | x :: xs, y :: ys, hx, hy, ha, h1, h2 => by
    simp only [kxs, Bool.and_eq_true] at hx hy
    simp only [alks, Bool.and_eq_true] at ha
    rw [ltts_eq] at h1 h2
    by_cases e : x = y
    · subst e
      have r := (eqt_kx x x hx.1 hx.1).mpr rfl
      rw [if_pos r] at h1 h2
      rw [ltts_total xs ys hx.2 hy.2 ha.2 h1 h2]
    · have n1 : ¬ eqt x y = true := fun z => e ((eqt_kx x y hx.1 hy.1).mp z)
      have n2 : ¬ eqt y x = true := fun z => e ((eqt_kx y x hy.1 hx.1).mp z).symm
      rw [if_neg n1] at h1
      rw [if_neg n2] at h2
      exact absurd (ltt_total x y hx.1 hy.1 ha.1 h1 h2) e
end
def dedupT : List T → List T
  | [] => []
  | t :: ts => if (dedupT ts).any (eqt t) = true then dedupT ts else t :: dedupT ts
theorem kxs_all : ∀ {ts : List T}, kxs ts = true ↔ ∀ t ∈ ts, kx t = true
  | [] => by simp [kxs]
  | t :: ts => by simp [kxs, kxs_all (ts := ts)]
theorem dedupT_mem : ∀ {ts : List T}, kxs ts = true → ∀ x, x ∈ dedupT ts ↔ x ∈ ts
  | [], _, x => by simp [dedupT]
  | t :: ts, h, x => by
    simp only [kxs, Bool.and_eq_true] at h
    have ih := dedupT_mem h.2
    unfold dedupT
    split
    · rename_i ha
      obtain ⟨y, hy, e⟩ := List.any_eq_true.mp ha
      have ky : kx y = true := kxs_all.mp h.2 y ((ih y).mp hy)
      obtain rfl := (eqt_kx t y h.1 ky).mp e
      rw [List.mem_cons, ih]
      exact ⟨.inr, fun z => z.elim (fun e => e ▸ (ih t).mp hy) id⟩
    · rw [List.mem_cons, List.mem_cons, ih]
theorem dedupT_nodup : ∀ {ts : List T}, kxs ts = true → (dedupT ts).Nodup
  | [], _ => List.nodup_nil
  | t :: ts, h => by
    simp only [kxs, Bool.and_eq_true] at h
    unfold dedupT
    split
    · exact dedupT_nodup h.2
    · rename_i ha
      refine List.nodup_cons.mpr ⟨fun z => ha (List.any_eq_true.mpr ⟨t, z, (eqt_kx t t h.1 h.1).mpr rfl⟩), dedupT_nodup h.2⟩
theorem nodup_le {α : Type} : ∀ {l m : List α}, l.Nodup → (∀ x ∈ l, x ∈ m) → l.length ≤ m.length
  | [], _, _, _ => Nat.zero_le _
  | x :: l, m, hn, hs => by
    obtain ⟨m1, m2, rfl⟩ := List.append_of_mem (hs x List.mem_cons_self)
    have := nodup_le (l := l) (m := m1 ++ m2) (List.nodup_cons.mp hn).2 fun y hy => by
      have := hs y (List.mem_cons_of_mem _ hy)
      simp only [List.mem_append, List.mem_cons] at this ⊢
      rcases this with z | z | z
      · exact .inl z
      · subst z; exact absurd hy (List.nodup_cons.mp hn).1
      · exact .inr z
    simp only [List.length_cons, List.length_append] at this ⊢
    omega
theorem nodup_perm {α : Type} : ∀ {l m : List α}, l.Nodup → m.Nodup → (∀ x, x ∈ l ↔ x ∈ m) → l.Perm m
  | [], m, _, _, h => by
    cases m with
    | nil => exact .refl _
    | cons y m => exact absurd ((h y).mpr List.mem_cons_self) (by simp)
  | x :: l, m, hn, hm, h => by
    obtain ⟨m1, m2, rfl⟩ := List.append_of_mem ((h x).mp List.mem_cons_self)
    have p : (m1 ++ x :: m2).Perm (x :: (m1 ++ m2)) := List.perm_middle
    have nd := p.nodup_iff.mp hm
    refine List.Perm.trans (List.Perm.cons x (nodup_perm (List.nodup_cons.mp hn).2 (List.nodup_cons.mp nd).2 fun y => ?_)) p.symm
    have hy := h y
    have e : y ∈ m1 ++ x :: m2 ↔ y = x ∨ y ∈ m1 ++ m2 := by rw [p.mem_iff, List.mem_cons]
    rw [e, List.mem_cons] at hy
    constructor
    · intro z
      rcases hy.mp (.inr z) with z2 | z2
      · subst z2; exact absurd z (List.nodup_cons.mp hn).1
      · exact z2
    · intro z
      rcases hy.mpr (.inr z) with z2 | z2
      · subst z2; exact absurd z (List.nodup_cons.mp nd).1
      · exact z2
/-- sorted, each once -/
def sortU (ts : List T) : List T := (dedupT ts).mergeSort leT'
theorem dataLe_trans {k : T → PyData} : ∀ a b c : T, PySem.W.dataLe false k a b = true → PySem.W.dataLe false k b c = true → PySem.W.dataLe false k a c = true := fun a b c h1 h2 => by
  rw [PySem.W.dataLe_eq] at *
  simp only [cond_false, Bool.not_eq_true'] at *
  cases h : PySem.W.dataLt (k c) (k a) with
  | false => rfl
  | true =>
    rcases lex_negTrans _ (PySem.W.keyToks (k b)) _ h with z | z
    · exact absurd z (by rw [show PyProof.Rows.lexLt itemOrd (PySem.W.keyToks (k c)) (PySem.W.keyToks (k b)) = PySem.W.dataLt (k c) (k b) from rfl, h2]; simp)
    · exact absurd z (by rw [show PyProof.Rows.lexLt itemOrd (PySem.W.keyToks (k b)) (PySem.W.keyToks (k a)) = PySem.W.dataLt (k b) (k a) from rfl, h1]; simp)
end TL
namespace TL
open PySem PySem.Spec PyProof.Rows L2
theorem leT_data {ts : List T} (ok : sortOk ts = true) {a b : T} (ha : a ∈ ts) (hb : b ∈ ts) : PySem.W.dataLe false dat a b = leT' a b := by
  rw [PySem.W.dataLe_eq]
  show (!PySem.W.dataLt (dat b) (dat a)) = !ltt b a
  rw [(sortOk_of ok).2.2.2 b hb a ha]
theorem sortOk_sub {ts us : List T} (ok : sortOk ts = true) (h : ∀ x ∈ us, x ∈ ts) : sortOk us = true := by
  simp only [sortOk, Bool.and_eq_true, Bool.or_eq_true, List.all_eq_true] at ok ⊢
  exact ⟨fun x hx => ⟨(ok.1 x (h x hx)).1, fun y hy => (ok.1 x (h x hx)).2 y (h y hy)⟩, ok.2.imp (fun z x hx => z x (h x hx)) fun z x hx => z x (h x hx)⟩
/-- what is sorted is told by what it holds -/
theorem sort_unique {us ts : List T} (kt : kxs ts = true) (ok : sortOk ts = true) (nd : us.Nodup) (mem : ∀ x, x ∈ us ↔ x ∈ ts) : us.mergeSort leT' = sortU ts := by
  have mem2 := dedupT_mem kt
  have p : us.Perm (dedupT ts) := nodup_perm nd (dedupT_nodup kt) fun x => (mem x).trans (mem2 x).symm
  have s1 := mergeSort_leT us fun x hx y hy => (sortOk_of ok).2.2.2 x ((mem x).mp hx) y ((mem y).mp hy)
  have s2 := mergeSort_leT (dedupT ts) fun x hx y hy => (sortOk_of ok).2.2.2 x ((mem2 x).mp hx) y ((mem2 y).mp hy)
  unfold sortU
  rw [← s1, ← s2]
  have total : ∀ a b : T, (PySem.W.dataLe false dat a b || PySem.W.dataLe false dat b a) = true := fun a b => by
    rw [PySem.W.dataLe_eq]
    simp only [cond_false, Bool.or_eq_true, Bool.not_eq_true']
    cases h : PySem.W.dataLt (dat b) (dat a) with
    | false => exact .inl rfl
    | true =>
      right
      cases h2 : PySem.W.dataLt (dat a) (dat b) with
      | false => rfl
      | true =>
        have := lex_trans _ _ _ h2 h
        rw [lex_irrefl] at this
        cases this
  refine List.Perm.eq_of_pairwise (le := fun a b => PySem.W.dataLe false dat a b = true) (fun a b ha hb h1 h2 => ?_) (List.pairwise_mergeSort dataLe_trans total us) (List.pairwise_mergeSort dataLe_trans total _) (((List.mergeSort_perm us _).trans p).trans (List.mergeSort_perm _ _).symm)
  have ha' : a ∈ ts := (mem a).mp (List.mem_mergeSort.mp ha)
  have hb' : b ∈ ts := (mem2 b).mp (List.mem_mergeSort.mp hb)
  rw [leT_data ok ha' hb'] at h1
  rw [leT_data ok hb' ha'] at h2
  have al : alk a b = true := by
    simp only [sortOk, Bool.and_eq_true, List.all_eq_true] at ok
    exact (ok.1 a ha').2 b hb'
  simp only [leT', Bool.not_eq_true'] at h1 h2
  exact ltt_total a b (kxs_all.mp kt a ha') (kxs_all.mp kt b hb') al h2 h1

section
variable {X : Cx} {pins : List (Addr × Obj)} {s : Shared} {σ : L2.St} {H : Hp} {S : Sto} {M : Addr → Prop}
mutual
theorem nested_of (I : Inv X pins σ H s) : ∀ (t : T) (v : V) (u : Value), kx t = true → Rep (gdOf X M) H S t v → RelV v u → NestedIs s.heap (kf t) u
  | .int i, _, _, _, r, ru => by
    cases r
    obtain ⟨t, rfl⟩ := ru
    exact .int i t
  | .str x, _, _, _, r, ru => by
    cases r
    obtain ⟨t, rfl⟩ := ru
    exact .text _ t
  | .tup ts, _, _, h, r, ru => by
    cases r with
    | tup h1 h2 =>
      cases ru
      obtain ⟨its, hv, ⟨ob, g1, g2, n, g3⟩, _⟩ := I.tuple h1.sq
      exact .tup g1 g2 g3 (nested_all I ts _ _ h h2 (by simpa using hv))
  | .non, _, _, h, _, _ => by cases h
  | .bl _, _, _, h, _, _ => by cases h
  | .lst _, _, _, h, _, _ => by cases h
  | .ref _, _, _, h, _, _ => by cases h
  | .exc _ _ _, _, _, h, _, _ => by cases h
  | .dct _ _ _, _, _, h, _, _ => by cases h
  | .obj _ _ _, _, _, h, _, _ => by cases h
  | .fn _, _, _, h, _, _ => by cases h
  | .scr _, _, _, h, _, _ => by cases h
  | .clo .., _, _, h, _, _ => by cases h
theorem nested_all (I : Inv X pins σ H s) : ∀ (ts : List T) (vs : List V) (us : List Value), kxs ts = true → Reps (gdOf X M) H S ts vs → Vals vs us → NestedAll s.heap (kfs ts) us
  | [], _, _, _, r, q => by cases r; cases q; exact .nil
  | t :: ts, _, _, h, r, q => by
    simp only [kxs, Bool.and_eq_true] at h
    cases r with
    | cons r1 r2 =>
      cases q with
      | cons q1 q2 => exact .cons (nested_of I t _ _ h.1 r1 q1) (nested_all I ts _ _ h.2 r2 q2)
end
/-- what a set is, for those who walk it -/
def SetP (w : World) (h : Heap) (a : Addr) (vs : List V) : Prop := ∃ o es ep t, h.get? a = some o ∧ o.ExactSet ∧ o.data = .set es ep t ∧ t.fits es.size = true ∧ es.size < scanBound ∧ Ris t.place.toList ∧ (w.params.followText "set-order" = true ∨ t.led = true) ∧ Vals vs (es.toList.map (·.2))
def SetX (w : World) (a : Addr) (vs : List V) : HO := .ext fun h => SetP w h a vs
theorem setX_new {P : Program} {w : World} {H : Hp} {h : Heap} {a : Addr} {vs : List V} (R : SetP w h a vs) : ObjOk P w H h a (SetX w a vs) := by
  obtain ⟨o, es, ep, t, ho, r⟩ := R
  exact ⟨⟨o, es, ep, t, ho, r⟩, ⟨o, ho⟩, fun h1 h2 ⟨o', es', ep', t', ho', r'⟩ k => ⟨o', es', ep', t', k o' ho', r'⟩⟩
def isScan : T → Bool
  | .int _ => true
  | .str _ => true
  | _ => false
def setOk (ts : List T) : Bool := kxs ts && ((ts.all isTup && (decide (deps ts ≤ 8) && decide ((dedupT ts).length ≤ 62))) || (ts.all isScan && decide ((dedupT ts).length + 2 < scanBound)))
/-- rows of trees, their values -/
theorem zip_refs {G : Gd} : ∀ {ts : List T} {vs : List V} {us : List Value}, ts.all isTup = true → Reps G H S ts vs → Vals vs us → ∃ ks : List (T × Addr), ts = ks.map (·.1) ∧ us = (ks.map fun p => Value.ref p.2) ∧ ∀ p ∈ ks, Rep G H S p.1 (.ref p.2)
  | [], _, _, _, r, q => by cases r; cases q; exact ⟨[], rfl, rfl, fun p hp => by cases hp⟩
  | t :: ts, _, _, h, r, q => by
    simp only [List.all_cons, Bool.and_eq_true] at h
    cases r with
    | cons r1 r2 =>
      cases q with
      | cons q1 q2 =>
        obtain ⟨ks, e1, e2, hk⟩ := zip_refs h.2 r2 q2
        obtain ⟨x, rfl⟩ := isTup_is h.1
        cases r1 with
        | tup a b =>
          cases q1
          refine ⟨(.tup x, _) :: ks, by rw [List.map_cons, e1], by rw [List.map_cons, e2], fun p hp => ?_⟩
          rcases List.mem_cons.mp hp with e | hp
          · subst e; exact .tup a b
          · exact hk p hp
theorem zip_vals {G : Gd} : ∀ {ts : List T} {vs : List V} {us : List Value}, Reps G H S ts vs → Vals vs us → ∃ ks : List (T × Value), ts = ks.map (·.1) ∧ us = ks.map (·.2) ∧ ∀ p ∈ ks, ∃ v, RelV v p.2 ∧ Rep G H S p.1 v
  | [], _, _, r, q => by cases r; cases q; exact ⟨[], rfl, rfl, fun p hp => by cases hp⟩
  | t :: ts, _, _, r, q => by
    cases r with
    | cons r1 r2 =>
      cases q with
      | cons q1 q2 =>
        obtain ⟨ks, e1, e2, hk⟩ := zip_vals r2 q2
        refine ⟨(t, _) :: ks, by rw [List.map_cons, e1], by rw [List.map_cons, e2], fun p hp => ?_⟩
        rcases List.mem_cons.mp hp with e | hp
        · subst e; exact ⟨_, q1, r1⟩
        · exact hk p hp
theorem take_at {α : Type} {l : List α} {i : Nat} {x : α} (h : l[i]? = some x) : l.take (i + 1) = l.take i ++ [x] := by rw [List.take_add_one, h]; rfl
/-- what a set that is filled holds of the first i things -/
structure GotT {α : Type} (ks : List (T × α)) (i : Nat) (L : List (T × α)) : Prop where
  sub : ∀ p ∈ L, p ∈ ks.take i
  all : ∀ p ∈ ks.take i, p.1 ∈ L.map (·.1)
theorem GotT.old {α : Type} {ks L : List (T × α)} {i : Nat} {p : T × α} (g : GotT ks i L) (h : ks[i]? = some p) (hm : p.1 ∈ L.map (·.1)) : GotT ks (i + 1) L := by
  constructor
  · intro q hq
    rw [take_at h]
    exact List.mem_append_left _ (g.sub q hq)
  · intro q hq
    rw [take_at h] at hq
    rcases List.mem_append.mp hq with z | z
    · exact g.all q z
    · rw [List.mem_singleton.mp z]; exact hm
theorem GotT.new {α : Type} {ks L L' : List (T × α)} {i : Nat} {p : T × α} (g : GotT ks i L) (h : ks[i]? = some p) (pm : L'.Perm (p :: L)) : GotT ks (i + 1) L' := by
  constructor
  · intro q hq
    rw [take_at h]
    rcases List.mem_cons.mp (pm.mem_iff.mp hq) with e | z
    · rw [e]; simp
    · exact List.mem_append_left _ (g.sub q z)
  · intro q hq
    rw [(pm.map (·.1)).mem_iff, List.map_cons]
    rw [take_at h] at hq
    rcases List.mem_append.mp hq with z | z
    · exact List.mem_cons_of_mem _ (g.all q z)
    · rw [List.mem_singleton.mp z]; exact List.mem_cons_self
def kpA (p : T × Addr) : NestedKey × Addr := (kf p.1, p.2)
def kb : T → Key
  | .int i => .inl i
  | .str x => .inr (txt x)
  | _ => .inl 0
def kpB (p : T × Value) : Key × Value := (kb p.1, p.2)
theorem kb_inj {x y : T} (hx : isScan x = true) (hy : isScan y = true) (e : kb x = kb y) : x = y := by
  cases x <;> first | (cases hx; done) | skip
  all_goals (cases y <;> first | (cases hy; done) | skip)
  · injection e with e; rw [e]
  · cases e
  · cases e
  · injection e with e; rw [txt_inj e]
/-- a bag of tuples -/
def BagA (w : World) (n0 : Addr) (ks : List (T × Addr)) (i : Nat) (h : Heap) : Prop := ∃ (L : List (T × Addr)) (es : Array (Int × Value)) (ep : Nat) (t : SetTable), TabS w h n0 (L.map kpA) es ep t ∧ GotT ks i L
def BagB (P : Program) (w : World) (n0 : Addr) (ks : List (T × Value)) (i : Nat) (h : Heap) : Prop := ∃ (L : List (T × Value)) (es : Array (Int × Value)) (ep : Nat) (t : SetTable), ScanS P w h n0 (L.map kpB) es ep t ∧ GotT ks i L
theorem fillsA {P : Program} {w : World} {U n0 : Nat} {h0 : Heap} {ks : List (T × Addr)} {items : Array Value} (hi : items.toList = ks.map fun p => Value.ref p.2) (hu : U + 8 < cLine) (hk : kxs (ks.map (·.1)) = true) (few : (dedupT (ks.map (·.1))).length ≤ 62)
    (els : ∀ p ∈ ks, El h0 (kpA p)) : Fills P w U n0 h0 items.size (fun i v => items[i]? = some v) (BagA w n0 ks) where
  keep := fun i h h' ⟨L, es, ep, t, R, g⟩ kS k0 => by
    obtain ⟨o, g1, g2, g3⟩ := R.obj
    refine ⟨L, es, ep, t, ⟨⟨o, kS o g1, g2, g3⟩, R.row, R.tab, R.ndp, fun p hp => ?_, R.led, R.gap, R.few⟩, g⟩
    obtain ⟨q, hq, rfl⟩ := List.mem_map.mp hp
    exact (els q (List.mem_of_mem_take (g.sub q hq))).at fun b o us n z _ => k0 b o z
  step := fun A i v s Q E hA hn hv ⟨L, es, ep, t, R, g⟩ k0 hQ => by
    have hv2 : (ks.map fun p => Value.ref p.2)[i]? = some v := by rw [← hi, Array.getElem?_toList]; exact hv
    rw [List.getElem?_map] at hv2
    obtain ⟨p, hp, rfl⟩ := Option.map_eq_some_iff.mp hv2
    have hm : p ∈ ks := List.mem_of_getElem? hp
    have el : El s.heap (kpA p) := (els p hm).at fun b o us n z _ => k0 b o z
    have ndT : (L.map (·.1)).Nodup := by
      have := R.ndp
      rw [List.map_map] at this
      have e : ((fun x : NestedKey × Addr => x.1) ∘ kpA) = kf ∘ fun x : T × Addr => x.1 := rfl
      rw [e, ← List.map_map] at this
      exact List.Pairwise.of_map kf (fun _ _ hne e => hne (congrArg kf e)) this
    have kxm : ∀ q ∈ ks, kx q.1 = true := fun q hq => kxs_all.mp hk _ (List.mem_map.mpr ⟨q, hq, rfl⟩)
    have len : L.length ≤ 62 := by
      have := nodup_le ndT fun x hx => by
        obtain ⟨q, hq, rfl⟩ := List.mem_map.mp hx
        exact (dedupT_mem hk q.1).mpr (List.mem_map.mpr ⟨q, List.mem_of_mem_take (g.sub q hq), rfl⟩)
      rw [List.length_map] at this
      omega
    have keyIff : (kpA p).1 ∈ (L.map kpA).map (·.1) ↔ p.1 ∈ L.map (·.1) := by
      constructor
      · intro z
        obtain ⟨r, hr, e⟩ := List.mem_map.mp z
        obtain ⟨q, hq, rfl⟩ := List.mem_map.mp hr
        exact List.mem_map.mpr ⟨q, hq, kf_inj _ _ (kxm q (List.mem_of_mem_take (g.sub q hq))) (kxm p hm) e⟩
      · intro z
        obtain ⟨q, hq, e⟩ := List.mem_map.mp z
        exact List.mem_map.mpr ⟨kpA q, List.mem_map.mpr ⟨q, hq, rfl⟩, congrArg kf e⟩
    unfold setAdd
    refine wpAny_holding (wpAny_bind ((nestedKind P w).pyHash (k := kf p.1) (show A.units + 8 < cLine by omega) el ?_))
    refine tab_add (s := { s with toks := s.toks + (kf p.1).draws }) (p := kpA p) R el (show A.units + 8 < cLine by omega) (by rw [List.length_map]; omega) fun b h' L' es' ep' t' sb R' c1 c2 => ?_
    refine hQ b h' _ (Nat.le_add_right _ _) sb ?_
    by_cases hin : p.1 ∈ L.map (·.1)
    · have := c1 (keyIff.mpr hin)
      subst this
      exact ⟨L, es', ep', t', R', g.old hp hin⟩
    · have pm := c2 fun z => hin (keyIff.mp z)
      obtain ⟨L1, p1, e1⟩ := perm_map kpA pm (p :: L) rfl
      subst e1
      exact ⟨L1, es', ep', t', R', g.new hp p1⟩
theorem fillsB {P : Program} {w : World} {U n0 : Nat} {h0 : Heap} {ks : List (T × Value)} {items : Array Value} (hi : items.toList = ks.map (·.2)) (hk : ∀ p ∈ ks, isScan p.1 = true ∧ Sc P w (kpB p)) (kt : kxs (ks.map (·.1)) = true) (few : (dedupT (ks.map (·.1))).length + 2 < scanBound) :
    Fills P w U n0 h0 items.size (fun i v => items[i]? = some v) (BagB P w n0 ks) where
  keep := fun i h h' ⟨L, es, ep, t, R, g⟩ kS k0 => by
    obtain ⟨o, g1, g2, g3⟩ := R.obj
    exact ⟨L, es, ep, t, ⟨⟨o, kS o g1, g2, g3⟩, R.row, R.els, R.ndp, R.few, R.fits, R.ris, R.led⟩, g⟩
  step := fun A i v s Q E hA hn hv ⟨L, es, ep, t, R, g⟩ k0 hQ => by
    have hv2 : (ks.map (·.2))[i]? = some v := by rw [← hi, Array.getElem?_toList]; exact hv
    rw [List.getElem?_map] at hv2
    obtain ⟨p, hp, rfl⟩ := Option.map_eq_some_iff.mp hv2
    have hm : p ∈ ks := List.mem_of_getElem? hp
    have ndT : (L.map (·.1)).Nodup := by
      have := R.ndp
      rw [List.map_map] at this
      have e : ((fun x : Key × Value => x.1) ∘ kpB) = kb ∘ fun x : T × Value => x.1 := rfl
      rw [e, ← List.map_map] at this
      exact List.Pairwise.of_map kb (fun _ _ hne e => hne (congrArg kb e)) this
    have len : L.length ≤ (dedupT (ks.map (·.1))).length := by
      have := nodup_le (m := dedupT (ks.map (·.1))) ndT fun x hx => by
        obtain ⟨q, hq, rfl⟩ := List.mem_map.mp hx
        exact (dedupT_mem kt _).mpr (List.mem_map.mpr ⟨q, List.mem_of_mem_take (g.sub q hq), rfl⟩)
      rw [List.length_map] at this
      exact this
    have keyIff : (kpB p).1 ∈ (L.map kpB).map (·.1) ↔ p.1 ∈ L.map (·.1) := by
      constructor
      · intro z
        obtain ⟨r, hr, e⟩ := List.mem_map.mp z
        obtain ⟨q, hq, rfl⟩ := List.mem_map.mp hr
        exact List.mem_map.mpr ⟨q, hq, kb_inj (hk q (List.mem_of_mem_take (g.sub q hq))).1 (hk p hm).1 e⟩
      · intro z
        obtain ⟨q, hq, e⟩ := List.mem_map.mp z
        exact List.mem_map.mpr ⟨kpB q, List.mem_map.mpr ⟨q, hq, rfl⟩, congrArg kb e⟩
    unfold setAdd
    refine wpAny_holding (wpAny_bind ((mixKind P w).pyHash (hk p hm).2.1 ?_))
    refine scan_add (s := { s with toks := s.toks + 1 }) (p := kpB p) R (hk p hm).2 (by rw [List.length_map]; omega) fun b h' L' es' ep' t' sb R' c1 c2 => ?_
    refine hQ b h' _ (Nat.le_add_right _ _) sb ?_
    by_cases hin : p.1 ∈ L.map (·.1)
    · have := c1 (keyIff.mpr hin)
      subst this
      exact ⟨L, es', ep', t', R', g.old hp hin⟩
    · have pm := c2 fun z => hin (keyIff.mp z)
      obtain ⟨L1, p1, e1⟩ := perm_map kpB pm (p :: L) rfl
      subst e1
      exact ⟨L1, es', ep', t', R', g.new hp p1⟩
end
end TL
namespace TL
open PySem PySem.Spec PyProof.Rows L2
theorem deps_mem : ∀ {ts : List T} {t : T}, t ∈ ts → dep t ≤ deps ts
  | x :: xs, t, h => by
    simp only [deps]
    rcases List.mem_cons.mp h with e | h
    · subst e; omega
    · have := deps_mem h; omega
section
variable {X : Cx} {pins : List (Addr × Obj)} {s : Shared} {σ : L2.St} {H : Hp} {S : Sto} {M : Addr → Prop}
/-- the set made of values that lie as trees -/
theorem set_core (hc : X.calm = true) (hu : X.A.units + 64 < cLine) (I : Inv X pins σ H s) {ts : List T} {ws : List V} {its : List Value} {a : Addr} {Q : VK} (hv : Vals ws its) (r : Reps (gdOf X M) H S ts ws) (ok : setOk ts = true)
    (fin : ∀ us vs p, H p = none → us.Nodup → (∀ x, x ∈ us ↔ x ∈ ts) → Reps (gdOf X M) H S us vs → Q (.ref p) (upd H p (SetX X.w p vs)))
    (call_ : ∀ (Bag : Nat → Heap → Prop) (R : Value → Shared → Prop), Fills X.prog X.w X.A.in1.in1.in1.units s.heap.objs.size s.heap its.toArray.size (fun i v => its.toArray[i]? = some v) Bag →
      (∀ h : Heap, h.get? s.heap.objs.size = some (newSet X.w) → (∀ b o, s.heap.get? b = some o → h.get? b = some o) → Bag 0 h) →
      (∀ (h' : Heap) (tk : Nat), Bag its.toArray.size h' → (∀ b o, s.heap.get? b = some o → h'.get? b = some o) → R (.ref s.heap.objs.size) { s with heap := h', toks := tk }) → wpAny (model X.prog X.w) X.A (call (.type "set") [.ref a]) R X.xe s) :
    wpAny (model X.prog X.w) X.A (call (.type "set") [.ref a]) (EP X pins σ Q) X.xe s := by
  have units : X.A.in1.in1.in1.units = X.A.units + 3 := rfl
  simp only [setOk, Bool.and_eq_true, Bool.or_eq_true, decide_eq_true_eq] at ok
  obtain ⟨kt, ok⟩ := ok
  have fresh := I.hok.fresh (Nat.le_refl s.heap.objs.size)
  have led0 : X.w.params.followText "set-order" = true ∨ (!X.w.params.followText "set-order") = true := by cases X.w.params.followText "set-order" <;> simp
  rcases ok with ⟨ok1, ok2, ok3⟩ | ⟨ok1, ok2⟩
  · obtain ⟨ks, rfl, rfl, hk⟩ := zip_refs ok1 r hv
    have els : ∀ p ∈ ks, El s.heap (kpA p) := fun p hp => by
      have hm : p.1 ∈ ks.map (·.1) := List.mem_map.mpr ⟨p, hp, rfl⟩
      have kp := kxs_all.mp kt _ hm
      refine ⟨nested_of I p.1 _ _ kp (hk p hp) rfl, ?_⟩
      show (kf p.1).depth ≤ 8
      rw [kf_dep _ kp]
      have := deps_mem hm
      omega
    refine call_ (BagA X.w s.heap.objs.size ks) _ (fillsA (List.toList_toArray) (by rw [units]; omega) kt ok3 els) (fun h g1 _ => ?_) fun h' tk ⟨L, es, ep, t, R, g⟩ old => ?_
    · exact ⟨[], #[], 0, _, ⟨⟨_, g1, ⟨rfl, rfl, rfl⟩, rfl⟩, rfl, ⟨List.Pairwise.nil, rfl, rfl, .inl rfl, fun x hx => (by cases hx), fun i h j hi => (by simp at hi)⟩, List.nodup_nil, fun p hp => (by cases hp), led0, (by show 0 * 5 < 7 * 3; decide), (by show 0 < 64; decide)⟩,
        ⟨fun p hp => (by cases hp), fun p hp => (by simp at hp)⟩⟩
    · have whole : ks.take (ks.map fun p => Value.ref p.2).toArray.size = ks := List.take_of_length_le (by simp)
      have g' : GotT ks ks.length L := by
        have e : (ks.map fun p => Value.ref p.2).toArray.size = ks.length := by simp
        rw [e] at g
        exact g
      have sub : ∀ p ∈ L, p ∈ ks := fun p hp => List.mem_of_mem_take (g'.sub p hp)
      obtain ⟨o, g1, g2, g3⟩ := R.obj
      have sp : SetP X.w h' s.heap.objs.size (L.map fun p => V.ref p.2) := by
        refine ⟨o, es, ep, t, g1, g2, g3, R.fits, ?_, R.tab.ris, R.led, ?_⟩
        · have := row_len R.row
          have := R.few
          unfold scanBound
          omega
        · rw [R.row]
          have : ∀ L : List (T × Addr), Vals (L.map fun p => V.ref p.2) ((rowS X.w (L.map kpA)).map (·.2)) := fun L => by
            induction L with
            | nil => exact .nil
            | cons p L ih => exact .cons rfl ih
          exact this L
      refine ⟨.ref s.heap.objs.size, _, I.laid (t' := tk) old (Nat.le_refl _) (setX_new sp), rfl, fin (L.map (·.1)) _ _ fresh ?_ (fun x => ?_) ?_⟩
      · have := R.ndp
        rw [List.map_map] at this
        have e : ((fun x : NestedKey × Addr => x.1) ∘ kpA) = kf ∘ fun x : T × Addr => x.1 := rfl
        rw [e, ← List.map_map] at this
        exact List.Pairwise.of_map kf (fun _ _ hne e => hne (congrArg kf e)) this
      · constructor
        · intro hx
          obtain ⟨p, hp, rfl⟩ := List.mem_map.mp hx
          exact List.mem_map.mpr ⟨p, sub p hp, rfl⟩
        · intro hx
          obtain ⟨p, hp, rfl⟩ := List.mem_map.mp hx
          exact g'.all p (by rw [List.take_length]; exact hp)
      · have : ∀ L : List (T × Addr), (∀ p ∈ L, p ∈ ks) → Reps (gdOf X M) H S (L.map (·.1)) (L.map fun p => V.ref p.2) := fun L => by
          induction L with
          | nil => exact fun _ => .nil
          | cons p L ih => exact fun h => .cons (hk p (h p List.mem_cons_self)) (ih fun q hq => h q (List.mem_cons_of_mem _ hq))
        exact this L sub
  · obtain ⟨ks, rfl, rfl, hk⟩ := zip_vals r hv
    have sc : ∀ p ∈ ks, isScan p.1 = true ∧ Sc X.prog X.w (kpB p) := fun p hp => by
      have hm : p.1 ∈ ks.map (·.1) := List.mem_map.mpr ⟨p, hp, rfl⟩
      have z := List.all_eq_true.mp ok1 _ hm
      refine ⟨z, ?_⟩
      obtain ⟨v, r1, r2⟩ := hk p hp
      obtain ⟨x, u⟩ := p
      cases x <;> first | (cases z; done) | skip
      · cases r2
        obtain ⟨t, rfl⟩ := r1
        exact ⟨kV_is (k := .inl _) ⟨t, rfl⟩, rfl⟩
      · cases r2
        obtain ⟨t, rfl⟩ := r1
        exact ⟨kV_is (k := .inr _) ⟨t, rfl⟩, rfl⟩
    have few : (dedupT (ks.map (·.1))).length + 2 < scanBound := by simpa using ok2
    refine call_ (BagB X.prog X.w s.heap.objs.size ks) _ (fillsB (List.toList_toArray) sc kt few) (fun h g1 _ => ?_) fun h' tk ⟨L, es, ep, t, R, g⟩ old => ?_
    · exact ⟨[], #[], 0, _, ⟨⟨_, g1, ⟨rfl, rfl, rfl⟩, rfl⟩, rfl, fun p hp => (by cases hp), List.nodup_nil, (by show 0 < 4096; decide), (by rfl), List.Pairwise.nil, led0⟩, ⟨fun p hp => (by cases hp), fun p hp => (by simp at hp)⟩⟩
    · have g' : GotT ks ks.length L := by
        have e : (ks.map (·.2)).toArray.size = ks.length := by simp
        rw [e] at g
        exact g
      have sub : ∀ p ∈ L, p ∈ ks := fun p hp => List.mem_of_mem_take (g'.sub p hp)
      obtain ⟨o, g1, g2, g3⟩ := R.obj
      have rp : ∀ L : List (T × Value), (∀ p ∈ L, p ∈ ks) → ∃ vs, Reps (gdOf X M) H S (L.map (·.1)) vs ∧ Vals vs ((L.map kpB).map (rowK X.prog X.w) |>.map (·.2)) := fun L => by
        induction L with
        | nil => exact fun _ => ⟨[], .nil, .nil⟩
        | cons p L ih =>
          intro h
          obtain ⟨vs, h1, h2⟩ := ih fun q hq => h q (List.mem_cons_of_mem _ hq)
          obtain ⟨v, r1, r2⟩ := hk p (h p List.mem_cons_self)
          exact ⟨v :: vs, .cons r2 h1, .cons r1 h2⟩
      obtain ⟨vs, rp1, rp2⟩ := rp L sub
      have sp : SetP X.w h' s.heap.objs.size vs := by
        refine ⟨o, es, ep, t, g1, g2, g3, R.fits, ?_, R.ris, R.led, ?_⟩
        · have := scan_len R.row
          have := R.few
          omega
        · rw [R.row]
          exact rp2
      refine ⟨.ref s.heap.objs.size, _, I.laid (t' := tk) old (Nat.le_refl _) (setX_new sp), rfl, fin (L.map (·.1)) _ _ fresh ?_ (fun x => ?_) rp1⟩
      · have := R.ndp
        rw [List.map_map] at this
        have e : ((fun x : Key × Value => x.1) ∘ kpB) = kb ∘ fun x : T × Value => x.1 := rfl
        rw [e, ← List.map_map] at this
        exact List.Pairwise.of_map kb (fun _ _ hne e => hne (congrArg kb e)) this
      · constructor
        · intro hx
          obtain ⟨p, hp, rfl⟩ := List.mem_map.mp hx
          exact List.mem_map.mpr ⟨p, sub p hp, rfl⟩
        · intro hx
          obtain ⟨p, hp, rfl⟩ := List.mem_map.mp hx
          exact g'.all p (by rw [List.take_length]; exact hp)
/-- set(xs) -/
def rSet (X : Cx) : List V → Hp → VK → Prop := fun xs H Q => ∃ M S t ts, StoOk (gdOf X M) H S ∧ Reps (gdOf X M) H S [t] xs ∧ (res S t = .lst ts ∨ res S t = .tup ts) ∧ setOk ts = true ∧
  ∀ us vs p, H p = none → us.Nodup → (∀ x, x ∈ us ↔ x ∈ ts) → Reps (gdOf X M) H S us vs → Q (.ref p) (upd H p (SetX X.w p vs))
theorem cr_set (hc : X.calm = true) (hu : X.A.units + 64 < cLine) : CallR X (.type "set") (rSet X) := by
  intro pins s σ H xs us Q I r h
  obtain ⟨M, S, t, ts, o, rs, hres, ok, fin⟩ := h
  obtain ⟨v, rfl, ry⟩ := rs.one
  have hh := I.ok.hd hc
  rcases hres with e | e
  · obtain ⟨a, ws, rfl, h1, h2⟩ := res_lst o ry e
    obtain ⟨u, rfl, ru⟩ := vals1 r
    cases ru
    obtain ⟨its, hv, pl, hz⟩ := I.list (SqL.of h1)
    exact set_core hc hu I hv h2 ok fin fun Bag R FF b0 f => fill_list hh pl.isList FF b0 f
  · obtain rfl := res_id e fun _ z => nomatch z
    cases ry with
    | tup h1 h2 =>
      obtain ⟨u, rfl, ru⟩ := vals1 r
      cases ru
      obtain ⟨its, hv, pl, hz⟩ := I.tuple h1.sq
      exact set_core hc hu I hv h2 ok fin fun Bag R FF b0 f => fill_tuple hh pl FF b0 f
/-- sorted(a set) -/
def rSortedX (X : Cx) : List V → Hp → VK → Prop := fun xs H Q => ∃ M S a us vs ts, xs = [.ref a] ∧ H a = some (SetX X.w a vs) ∧ StoOk (gdOf X M) H S ∧ Reps (gdOf X M) H S us vs ∧ us.Nodup ∧ (∀ x, x ∈ us ↔ x ∈ ts) ∧ kxs ts = true ∧ sortOk ts = true ∧
  ∀ v H', StoOk (gdOf X M) H' S → Ext S H S H' → Rep (gdOf X M) H' S (.lst (sortU ts)) v → Q v H'
theorem perm_vals : ∀ {us : List T} {vs : List V} {ws : List Value} {G : Gd}, Reps G H S us vs → Vals vs ws → PySem.W.EachIs (VT G H S) ws us := fun r q => eachVT r q
theorem each_perm {α β : Type} {R : α → β → Prop} {xs ys : List α} {bs : List β} (e : PySem.W.EachIs R xs bs) (p : ys.Perm xs) : ∃ cs, PySem.W.EachIs R ys cs ∧ cs.Perm bs := by
  induction p generalizing bs with
  | nil => cases e; exact ⟨[], .nil, .refl _⟩
  | cons x _ ih =>
    cases e with
    | cons h1 h2 =>
      obtain ⟨cs, h3, h4⟩ := ih h2
      exact ⟨_ :: cs, .cons h1 h3, h4.cons _⟩
  | swap x y l =>
    cases e with
    | cons h1 h2 =>
      cases h2 with
      | cons h2 h3 => exact ⟨_ :: _ :: _, .cons h2 (.cons h1 h3), .swap _ _ _⟩
  | trans _ _ ih1 ih2 =>
    obtain ⟨cs, h1, h2⟩ := ih2 e
    obtain ⟨ds, h3, h4⟩ := ih1 h1
    exact ⟨ds, h3, h4.trans h2⟩
theorem cr_sortedX (hc : X.calm = true) (hu : X.A.units + 70 < cLine) : CallR X (.builtin "sorted") (rSortedX X) := by
  intro pins s σ H xs us' Q I r h
  obtain ⟨M, S, a, us, vs, ts, rfl, ha, o, rp, nd, mem, kt, ok, fin⟩ := h
  obtain ⟨u, rfl, ru⟩ := vals1 r
  cases ru
  have hh := I.ok.hd hc
  obtain ⟨ob, es, ep, t, g1, g2, g3, g4, g5, g6, g7, g8⟩ := (show SetP X.w s.heap a vs from (I.hok a _ ha).1)
  have each := perm_vals rp g8
  refine sorted_via hu (Pt := fun cs => cs.Perm us) o (fun A E R hA k => ?_) (fun cs pc => ⟨sortOk_sub ok fun x hx => (mem x).mp (pc.mem_iff.mp hx), ?_⟩) fun cs v H' pc o' x' r' _ => ?_
  · refine collect_set (hA.trans hh) ⟨ob, g1, g2.1, g3⟩ g4 g5 g6 g7 fun s' out k1 k2 k3 k4 pm => ?_
    obtain ⟨cs, c1, c2⟩ := each_perm each pm
    obtain ⟨h', g', d', t', o'⟩ := s'
    obtain rfl : g' = s.gens := k3
    obtain rfl : o' = s.os := k4
    exact k out _ cs (I.call (ch := []) (Un.kept k1) (I.hok.kept k1) I.bare (fun _ z => (nomatch z))) c1 c2
  · have l1 : cs.length = us.length := List.Perm.length_eq pc
    have l2 : us.length = vs.length := rp.length
    have l3 : vs.length = es.size := by simpa using g8.length
    have sl := sizeLine_eq
    have g5' : es.size < 4096 := g5
    rw [l1, l2, l3, sl]
    omega
  · rw [sort_unique kt ok (pc.nodup_iff.mpr nd) fun x => (pc.mem_iff).trans (mem x)] at r'
    exact fin v H' o' x' r'
/-- len(a set) -/
def rLenX (X : Cx) : List V → Hp → VK → Prop := fun xs H Q => ∃ a vs, xs = [.ref a] ∧ H a = some (SetX X.w a vs) ∧ Q (.int vs.length) H
theorem cr_lenX : CallR X (.builtin "len") (rLenX X) := by
  intro pins s σ H xs us' Q I r h
  obtain ⟨a, vs, rfl, ha, q⟩ := h
  obtain ⟨u, rfl, ru⟩ := vals1 r
  cases ru
  obtain ⟨ob, es, ep, t, g1, g2, g3, g4, g5, g6, g7, g8⟩ := (show SetP X.w s.heap a vs from (I.hok a _ ha).1)
  have l3 : vs.length = es.size := by simpa using g8.length
  have g5' : es.size < 4096 := g5
  refine call_len_set g1 g2 g3 g4 (by omega) ⟨.int vs.length, H, I.tok _, ⟨_, by rw [l3]⟩, q⟩
def ssetT (S : Sto) (x : T) : Option T := match res S x with
  | .lst ts => if (setOk ts && sortOk ts) = true then some (.lst (sortU ts)) else none
  | .tup ts => if (setOk ts && sortOk ts) = true then some (.lst (sortU ts)) else none
  | _ => none
def slenT (S : Sto) (x : T) : Option T := match res S x with
  | .lst ts => if setOk ts = true then some (.int (dedupT ts).length) else none
  | .tup ts => if setOk ts = true then some (.int (dedupT ts).length) else none
  | _ => none
theorem setOk_kx {ts : List T} (h : setOk ts = true) : kxs ts = true := (Bool.and_eq_true_iff.mp h).1
variable {e : Expr} {te : TTE} {p p2 pos pos2 : Pos}
theorem set_arg {E : T → TEnv → Sto → Prop} {S0 : Sto} {H0 : Hp} (hc : X.calm = true) (hu : X.A.units + 64 < cLine) (he : PE X e (LE X M S0 H0 te E)) (hg2 : Gl X "set") (hm2 : X.mg "set" = none)
    (hs : starEach [e] X.env = (false, eval e X.env) :: starEach [] X.env := by rfl) (hpl : (backTo pos2 (starEach [] X.env)).any (·.1) = false := by rfl) : ∃ tt, PE X (.Call (.Name "set" p2) [e] [] pos2) tt ∧
      ∀ σ H Q, (∃ τ S Qt, Rel (gdOf X M) S0 H0 σ H τ S ∧ te τ S Qt (fun x S' => E x τ S') ∧ ∀ x S1 v H1, Qt x S1 → StoOk (gdOf X M) H1 S1 → Ext S H S1 H1 → Rep (gdOf X M) H1 S1 x v →
        ∃ ts, (res S1 x = .lst ts ∨ res S1 x = .tup ts) ∧ setOk ts = true ∧ ∀ us vs q, H1 q = none → us.Nodup → (∀ x, x ∈ us ↔ x ∈ ts) → Reps (gdOf X M) H1 S1 us vs → Q (.ref q) (upd H1 q (SetX X.w q vs))) → tt σ H Q :=
  ⟨_, pe_callTy (cr_set hc hu) hg2 hm2 boot_set (pa_cons he pa_nil hs) (by decide) (by decide) hs hpl, fun σ H Q ⟨τ, S, Qt, rel, h, k⟩ => ⟨τ, S, _, rel, h, fun x S1 v H1 q o1 x1 r1 => by
    obtain ⟨ts, h1, h2, h3⟩ := k x S1 v H1 q o1 x1 r1
    exact ⟨M, S1, x, ts, o1, .cons r1 .nil, h1, h2, h3⟩⟩⟩
theorem sset_is {S : Sto} {x z : T} (h : ssetT S x = some z) : ∃ ts, (res S x = .lst ts ∨ res S x = .tup ts) ∧ setOk ts = true ∧ sortOk ts = true ∧ z = .lst (sortU ts) := by
  unfold ssetT at h
  split at h
  · rename_i ts e
    split at h
    · rename_i c
      obtain ⟨c1, c2⟩ := Bool.and_eq_true_iff.mp c
      exact ⟨ts, .inl e, c1, c2, (Option.some.inj h).symm⟩
    · cases h
  · rename_i ts e
    split at h
    · rename_i c
      obtain ⟨c1, c2⟩ := Bool.and_eq_true_iff.mp c
      exact ⟨ts, .inr e, c1, c2, (Option.some.inj h).symm⟩
    · cases h
  · cases h
theorem slen_is {S : Sto} {x z : T} (h : slenT S x = some z) : ∃ ts, (res S x = .lst ts ∨ res S x = .tup ts) ∧ setOk ts = true ∧ z = .int (dedupT ts).length := by
  unfold slenT at h
  split at h
  · rename_i ts e
    split at h
    · rename_i c
      exact ⟨ts, .inl e, c, (Option.some.inj h).symm⟩
    · cases h
  · rename_i ts e
    split at h
    · rename_i c
      exact ⟨ts, .inr e, c, (Option.some.inj h).symm⟩
    · cases h
  · cases h
theorem te_sset (hc : X.calm = true) (hu : X.A.units + 70 < cLine) (he : TE X e te) (hg : Gl X "sorted") (hm : X.mg "sorted" = none) (hg2 : Gl X "set") (hm2 : X.mg "set" = none)
    (hs2 : starEach [e] X.env = (false, eval e X.env) :: starEach [] X.env := by rfl) (hpl2 : (backTo pos2 (starEach [] X.env)).any (·.1) = false := by rfl)
    (hs : starEach [.Call (.Name "set" p2) [e] [] pos2] X.env = (false, eval (.Call (.Name "set" p2) [e] [] pos2) X.env) :: starEach [] X.env := by rfl) (hpl : (backTo pos (starEach [] X.env)).any (·.1) = false := by rfl) :
    TE X (.Call (.Name "sorted" p) [.Call (.Name "set" p2) [e] [] pos2] [] pos) (cUn ssetT te) := fun M S0 H0 E tk => by
  obtain ⟨tt, h1, h2⟩ := set_arg (p2 := p2) (pos2 := pos2) hc (by omega) (he M S0 H0 E tk) hg2 hm2 hs2 hpl2
  refine (pe_callB (cr_sortedX hc hu) hg hm boot_sorted (pa_cons h1 pa_nil hs) (by decide) (by decide) hs hpl).weak fun σ H Q ⟨τ, S, Qt, rel, h, k⟩ => h2 σ H _ ⟨τ, S, _, rel, h, fun x S1 v H1 ⟨z, ez, hq⟩ o1 x1 r1 => ?_⟩
  obtain ⟨ts, e1, e2, e3, rfl⟩ := sset_is ez
  exact ⟨ts, e1, e2, fun us vs a n nd mem rp => ⟨M, S1, a, us, vs, ts, rfl, upd_same, o1.new n, Reps.ext (Ext.new n) _ _ rp, nd, mem, setOk_kx e2, e3, fun v H' o' x' r' => k _ S1 v H' hq o' ((x1.trans (Ext.new n)).trans x') r'⟩⟩
theorem te_slen (hc : X.calm = true) (hu : X.A.units + 70 < cLine) (he : TE X e te) (hg : Gl X "len") (hm : X.mg "len" = none) (hg2 : Gl X "set") (hm2 : X.mg "set" = none)
    (hs2 : starEach [e] X.env = (false, eval e X.env) :: starEach [] X.env := by rfl) (hpl2 : (backTo pos2 (starEach [] X.env)).any (·.1) = false := by rfl)
    (hs : starEach [.Call (.Name "set" p2) [e] [] pos2] X.env = (false, eval (.Call (.Name "set" p2) [e] [] pos2) X.env) :: starEach [] X.env := by rfl) (hpl : (backTo pos (starEach [] X.env)).any (·.1) = false := by rfl) :
    TE X (.Call (.Name "len" p) [.Call (.Name "set" p2) [e] [] pos2] [] pos) (cUn slenT te) := fun M S0 H0 E tk => by
  obtain ⟨tt, h1, h2⟩ := set_arg (p2 := p2) (pos2 := pos2) hc (by omega) (he M S0 H0 E tk) hg2 hm2 hs2 hpl2
  refine (pe_callB cr_lenX hg hm PySem.boot_len (pa_cons h1 pa_nil hs) (by decide) (by decide) hs hpl).weak fun σ H Q ⟨τ, S, Qt, rel, h, k⟩ => h2 σ H _ ⟨τ, S, _, rel, h, fun x S1 v H1 ⟨z, ez, hq⟩ o1 x1 r1 => ?_⟩
  obtain ⟨ts, e1, e2, rfl⟩ := slen_is ez
  refine ⟨ts, e1, e2, fun us vs a n nd mem rp => ⟨a, vs, rfl, upd_same, ?_⟩⟩
  have kt := setOk_kx e2
  have l : us.length = (dedupT ts).length := (nodup_perm nd (dedupT_nodup kt) fun x => (mem x).trans (dedupT_mem kt x).symm).length_eq
  have l2 : us.length = vs.length := rp.length
  have := k (.int (dedupT ts).length) S1 (.int (dedupT ts).length) (upd H1 a (SetX X.w a vs)) hq (o1.new n) (x1.trans (Ext.new n)) (.int _)
  rw [← l2, l]
  exact this
end
end TL
namespace TL
open PySem PySem.Spec PyProof.Rows L2
section
variable {S : Sto} {p : Addr} {xs ts : List T}
theorem sub_offs : Sub (offs S p) S := fun a c e => by
  unfold offs at e
  split at e
  · cases e
  · exact e
/-- a list cell is given up at the end -/
theorem Fin.lst {Q : T → Sto → Prop} (h : S p = some (.lst ts)) (q : Q (.lst ts) (offs S p)) : Fin Q (.ref p) S := ⟨offs S p, .lst ts, sub_offs, .lstc h offs_same (fzs_same ts), q⟩
where fzs_same {S S2 : Sto} : ∀ ts : List T, Fzs S S2 ts ts
  | [] => .nil
  | t :: ts => .cons (.same t) (fzs_same ts)
/-- a cell that is not told of is given up -/
theorem Fin.drop {Q : T → Sto → Prop} {z : T} (h : Fin Q z (offs S p)) : Fin Q z S := by
  obtain ⟨S2, u, k1, k2, q⟩ := h
  refine ⟨S2, u, fun a c e => sub_offs a c (k1 a c e), ?_, q⟩
  exact fz_sub k2
where
  fz_sub {S2 : Sto} : ∀ {t u : T}, Fz (offs S p) S2 t u → Fz S S2 t u
    | _, _, .same t => .same t
    | _, _, .lstc h1 h2 h3 => .lstc (sub_offs _ _ h1) h2 (fzs_sub h3)
    | _, _, .dctc h1 h2 h3 => .dctc (sub_offs _ _ h1) h2 (fzs_sub h3)
    | _, _, .insc h1 h2 h3 => .insc (sub_offs _ _ h1) h2 (fzs_sub h3)
    | _, _, .tup h => .tup (fzs_sub h)
    | _, _, .lst h => .lst (fzs_sub h)
  fzs_sub {S2 : Sto} : ∀ {ts us : List T}, Fzs (offs S p) S2 ts us → Fzs S S2 ts us
    | _, _, .nil => .nil
    | _, _, .cons a b => .cons (fz_sub a) (fzs_sub b)
theorem ssetT_lst : ssetT S (.lst xs) = if (setOk xs && sortOk xs) = true then some (.lst (sortU xs)) else none := rfl
theorem ssetT_tup : ssetT S (.tup xs) = if (setOk xs && sortOk xs) = true then some (.lst (sortU xs)) else none := rfl
theorem slenT_lst : slenT S (.lst xs) = if setOk xs = true then some (.int (dedupT xs).length) else none := rfl
theorem slenT_tup : slenT S (.tup xs) = if setOk xs = true then some (.int (dedupT xs).length) else none := rfl
theorem sortedF_lst : sortedF S [.lst xs] = if (sortOk xs && decide (xs.length ≤ sizeLine)) = true then some (.lst (xs.mergeSort leT')) else none := rfl
theorem sortedF_tup : sortedF S [.tup xs] = if (sortOk xs && decide (xs.length ≤ sizeLine)) = true then some (.lst (xs.mergeSort leT')) else none := rfl
theorem tupleF_lst : tupleF S [.lst xs] = some (.tup xs) := rfl
theorem tupleF_tup : tupleF S [.tup xs] = some (.tup xs) := rfl
theorem listF_lst : listF S [.lst xs] = some (.lst xs) := rfl
theorem listF_tup : listF S [.tup xs] = some (.lst xs) := rfl
theorem dedupT_len : ∀ ts : List T, (dedupT ts).length ≤ ts.length
  | [] => Nat.le_refl _
  | t :: ts => by
    have := dedupT_len ts
    unfold dedupT
    split
    · rw [List.length_cons]; omega
    · rw [List.length_cons, List.length_cons]; omega
/-- strictly rising -/
def Rise (ts : List T) : Prop := ts.Pairwise fun a b => ltt a b = true
theorem pair_data {ts : List T} (ok : sortOk ts = true) : (ts.mergeSort leT').Pairwise fun a b => leT' a b = true := by
  have h : ∀ x ∈ ts, ∀ y ∈ ts, PySem.W.dataLt (dat x) (dat y) = ltt x y := (sortOk_of ok).2.2.2
  rw [← mergeSort_leT ts h]
  have total : ∀ a b : T, (PySem.W.dataLe false dat a b || PySem.W.dataLe false dat b a) = true := fun a b => by
    rw [PySem.W.dataLe_eq]
    simp only [cond_false, Bool.or_eq_true, Bool.not_eq_true']
    cases h : PySem.W.dataLt (dat b) (dat a) with
    | false => exact .inl rfl
    | true =>
      right
      cases h2 : PySem.W.dataLt (dat a) (dat b) with
      | false => rfl
      | true =>
        have := lex_trans _ _ _ h2 h
        rw [lex_irrefl] at this
        cases this
  refine (List.pairwise_mergeSort dataLe_trans total ts).imp_of_mem fun {a b} ha hb z => ?_
  rw [leT_data ok (List.mem_mergeSort.mp ha) (List.mem_mergeSort.mp hb)] at z
  exact z
/-- each once, sorted: strictly rising -/
theorem rise_sort {ts : List T} (kt : kxs ts = true) (ok : sortOk ts = true) (nd : ts.Nodup) : Rise (ts.mergeSort leT') := by
  have nd' : (ts.mergeSort leT').Nodup := (List.mergeSort_perm ts _).nodup_iff.mpr nd
  refine ((pair_data ok).and nd').imp_of_mem fun {a b} ha hb ⟨h1, h2⟩ => ?_
  have ha' := List.mem_mergeSort.mp ha
  have hb' := List.mem_mergeSort.mp hb
  cases h3 : ltt a b with
  | true => rfl
  | false =>
    have al : alk a b = true := by
      simp only [sortOk, Bool.and_eq_true, List.all_eq_true] at ok
      exact (ok.1 a ha').2 b hb'
    simp only [leT', Bool.not_eq_true'] at h1
    exact absurd (ltt_total a b (kxs_all.mp kt a ha') (kxs_all.mp kt b hb') al h3 h1) h2
end
end TL
namespace TL
open PySem PySem.Spec PyProof.Rows L2
section
variable {S : Sto} {p : Addr} {x y : List Sg} {xs : List (List Sg)}
theorem any_strs : ((xs.map T.str).any fun z => eqt z (.str x)) = decide (x ∈ xs) := by
  induction xs with
  | nil => rfl
  | cons y ys ih =>
    rw [List.map_cons, List.any_cons, ih]
    have e : eqt (.str y) (.str x) = decide (y = x) := rfl
    rw [e]
    by_cases h : y = x
    · subst h; simp
    · have h' : ¬ x = y := fun z => h z.symm
      simp [h, h']
theorem okd_strs : okd (.lst (xs.map T.str)) = true ∧ okd (.tup (xs.map T.str)) = true := by
  have p1 : plains (xs.map T.str) = true := by
    induction xs with
    | nil => rfl
    | cons y ys ih => rw [List.map_cons]; simp only [plains, ih, Bool.and_true]; rfl
  have d1 : deps (xs.map T.str) = 0 := by
    induction xs with
    | nil => rfl
    | cons y ys ih => rw [List.map_cons]; simp only [deps]; rw [ih (by rw [List.map_cons] at p1; simp only [plains, Bool.and_eq_true] at p1; exact p1.2)]; rfl
  simp only [okd, plain, dep, p1, d1]
  exact ⟨rfl, rfl⟩
theorem inQ_strs {z : T} (h : res S z = .lst (xs.map T.str) ∨ res S z = .tup (xs.map T.str)) : inQ S (.str x) z = some (decide (x ∈ xs)) := by
  unfold inQ
  rcases h with h | h
  · rw [h]
    simp only [okd_str, okd_strs.1, Bool.and_self, if_true, any_strs]
  · rw [h]
    simp only [okd_str, okd_strs.2, Bool.and_self, if_true, any_strs]
theorem inT_strs : inT S (.str x) (.lst (xs.map T.str)) = some (.bl (decide (x ∈ xs))) := by
  unfold inT; rw [inQ_strs (.inl rfl)]; rfl
theorem ninT_strs : ninT S (.str x) (.lst (xs.map T.str)) = some (.bl (!decide (x ∈ xs))) := by
  unfold ninT; rw [inQ_strs (.inl rfl)]; rfl
theorem inT_strsT : inT S (.str x) (.tup (xs.map T.str)) = some (.bl (decide (x ∈ xs))) := by
  unfold inT; rw [inQ_strs (.inr rfl)]; rfl
theorem ninT_strsT : ninT S (.str x) (.tup (xs.map T.str)) = some (.bl (!decide (x ∈ xs))) := by
  unfold ninT; rw [inQ_strs (.inr rfl)]; rfl
/-- a list of texts against the empty list -/
theorem eqts_nil {ts : List T} : eqts ts [] = ts.isEmpty := by cases ts <;> rfl
theorem okd_nil : okd (.lst []) = true := rfl
theorem neT_nil {z : T} {ts : List T} (h : res S z = .lst ts) (ok : okd (.lst ts) = true) : neT S z (.lst []) = some (.bl (!ts.isEmpty)) := by
  unfold neT
  have e : res S (.lst []) = .lst [] := rfl
  rw [h, e, ok, okd_nil]
  simp only [Bool.and_self, if_true, eqt, eqts_nil]
end
def lowers : List Sg := q "abcdefghijklmnopqrstuvwxyz"
def NameOk (x : List Sg) : Prop := 1 ≤ x.length ∧ x.length ≤ 8 ∧ ∀ c ∈ x, c ∈ lowers
instance (x : List Sg) : Decidable (NameOk x) := by unfold NameOk; infer_instance
theorem lowers_len : lowers.length = 26 := by decide +kernel
theorem atI_mem {α : Type} {us : List α} {i : Int} (h0 : 0 ≤ i) (h1 : i < us.length) : ∃ y, y ∈ us ∧ L2.atI us i = some y := atI_ok h0 h1
def MKS : List (List Sg) := (["w", "m", "o"] : List Str).map q
theorem MKS_len : ∀ w ∈ MKS, w.length = 1 := by decide +kernel
def famT (f : List (List Sg)) : T := .tup (f.map T.str)
def folkT (x : List Sg × Nat) : T := .tup [.str x.1, .str (MKS.getD x.2 [])]
def kinT (x : List Sg × List (List Sg)) : T := .tup [.str x.1, famT x.2]
structure Book where
  folk : List (List Sg × Nat)
  unions : List (List (List Sg))
  births : List (List Sg × List (List Sg))
  adopts : List (List Sg × List (List Sg))
structure FamOk (names : List (List Sg)) (f : List (List Sg)) : Prop where
  lo : 1 ≤ f.length
  hi : f.length ≤ 2
  rise : Rise (f.map T.str)
  nd : f.Nodup
  mem : ∀ x ∈ f, x ∈ names
structure KinOk (names : List (List Sg)) (unions : List (List (List Sg))) (b : List Sg × List (List Sg)) : Prop where
  kid : b.1 ∈ names
  fam : b.2 ∈ unions
  own : b.1 ∉ b.2
structure BookOk (B : Book) : Prop where
  name : ∀ x ∈ B.folk, NameOk x.1 ∧ x.2 < 3
  nd : (B.folk.map (·.1)).Nodup
  rf : Rise (B.folk.map folkT)
  lf : B.folk.length ≤ 16
  un : ∀ f ∈ B.unions, FamOk (B.folk.map (·.1)) f
  ru : Rise (B.unions.map famT)
  lu : B.unions.length ≤ 16
  bi : ∀ b ∈ B.births, KinOk (B.folk.map (·.1)) B.unions b
  rb : Rise (B.births.map kinT)
  lb : B.births.length ≤ 24
  ad : ∀ b ∈ B.adopts, KinOk (B.folk.map (·.1)) B.unions b
  ra : Rise (B.adopts.map kinT)
  la : B.adopts.length ≤ 12
theorem plains_strs (xs : List (List Sg)) : plains (xs.map T.str) = true := by
  induction xs with
  | nil => rfl
  | cons y ys ih => rw [List.map_cons]; simp only [plains, ih, Bool.and_true]; rfl
theorem deps_strs (xs : List (List Sg)) : deps (xs.map T.str) = 0 := by
  induction xs with
  | nil => rfl
  | cons y ys ih => rw [List.map_cons]; simp only [deps, ih]; rfl
theorem kxs_strs (xs : List (List Sg)) : kxs (xs.map T.str) = true := by
  induction xs with
  | nil => rfl
  | cons y ys ih => rw [List.map_cons]; simp only [kxs, ih, Bool.and_true]; rfl
theorem alks_strs : ∀ xs ys : List (List Sg), alks (xs.map T.str) (ys.map T.str) = true
  | [], ys => by cases ys <;> rfl
  | x :: xs, [] => rfl
  | x :: xs, y :: ys => by rw [List.map_cons, List.map_cons]; simp only [alks, alk, alks_strs xs ys, Bool.and_self]
theorem fam_facts (f : List (List Sg)) : kx (famT f) = true ∧ okd (famT f) = true ∧ dep (famT f) = 1 := by
  refine ⟨?_, ?_, ?_⟩
  · simp only [famT, kx, kxs_strs]
  · simp only [famT, okd, plain, dep, plains_strs, deps_strs]; rfl
  · simp only [famT, dep, deps_strs]
theorem fam_alk (f g : List (List Sg)) : alk (famT f) (famT g) = true := by simp only [famT, alk, alks_strs]
theorem kin_facts (b : List Sg × List (List Sg)) : kx (kinT b) = true ∧ okd (kinT b) = true ∧ dep (kinT b) = 2 := by
  obtain ⟨h1, h2, h3⟩ := fam_facts b.2
  have h4 := okd_plain h2
  refine ⟨?_, ?_, ?_⟩
  · simp only [kinT, kx, kxs, h1]; rfl
  · simp only [kinT, okd, plain, plains, dep, deps, h3, h4]; rfl
  · simp only [kinT, dep, deps, h3]; rfl
theorem kin_alk (a b : List Sg × List (List Sg)) : alk (kinT a) (kinT b) = true := by simp only [kinT, alk, alks, fam_alk, Bool.and_self]
theorem sortOk_of_tups {α : Type} {f : α → T} {xs : List α} (h1 : ∀ x ∈ xs, okd (f x) = true) (h2 : ∀ x ∈ xs, ∀ y ∈ xs, alk (f x) (f y) = true) (h3 : ∀ x ∈ xs, ∃ a l, f x = .tup (a :: l)) : sortOk (xs.map f) = true := by
  simp only [sortOk, Bool.and_eq_true, Bool.or_eq_true, List.all_eq_true]
  refine ⟨fun x hx => ?_, .inl fun x hx => ?_⟩
  · obtain ⟨a, ha, rfl⟩ := List.mem_map.mp hx
    refine ⟨h1 a ha, fun y hy => ?_⟩
    obtain ⟨b, hb, rfl⟩ := List.mem_map.mp hy
    exact h2 a ha b hb
  · obtain ⟨a, ha, rfl⟩ := List.mem_map.mp hx
    obtain ⟨z, l, e⟩ := h3 a ha
    rw [e]
theorem sortOk_strs (xs : List (List Sg)) : sortOk (xs.map T.str) = true := by
  simp only [sortOk, Bool.and_eq_true, Bool.or_eq_true, List.all_eq_true]
  refine ⟨fun x hx => ?_, .inr fun x hx => ?_⟩
  · obtain ⟨a, ha, rfl⟩ := List.mem_map.mp hx
    refine ⟨rfl, fun y hy => ?_⟩
    obtain ⟨b, hb, rfl⟩ := List.mem_map.mp hy
    rfl
  · obtain ⟨a, ha, rfl⟩ := List.mem_map.mp hx
    rfl
theorem kxs_map {α : Type} {f : α → T} {xs : List α} (h : ∀ x ∈ xs, kx (f x) = true) : kxs (xs.map f) = true := kxs_all.mpr fun t ht => by
  obtain ⟨a, ha, rfl⟩ := List.mem_map.mp ht
  exact h a ha
theorem deps_le {ts : List T} {k : Nat} (h : ∀ t ∈ ts, dep t ≤ k) : deps ts ≤ k := by
  induction ts with
  | nil => exact Nat.zero_le _
  | cons t ts ih =>
    simp only [deps]
    have := h t List.mem_cons_self
    have := ih fun x hx => h x (List.mem_cons_of_mem _ hx)
    omega
theorem setOk_tups {α : Type} {f : α → T} {xs : List α} (h1 : ∀ x ∈ xs, kx (f x) = true) (h2 : ∀ x ∈ xs, isTup (f x) = true) (h3 : ∀ x ∈ xs, dep (f x) ≤ 8) (h4 : xs.length ≤ 62) : setOk (xs.map f) = true := by
  simp only [setOk, Bool.and_eq_true, Bool.or_eq_true, decide_eq_true_eq]
  refine ⟨kxs_map h1, .inl ⟨List.all_eq_true.mpr fun t ht => ?_, deps_le fun t ht => ?_, ?_⟩⟩
  · obtain ⟨a, ha, rfl⟩ := List.mem_map.mp ht
    exact h2 a ha
  · obtain ⟨a, ha, rfl⟩ := List.mem_map.mp ht
    exact h3 a ha
  · have := dedupT_len (xs.map f)
    rw [List.length_map] at this
    omega
theorem wmo_len : (q "wmo").length = 3 := by decide +kernel
theorem wmo_at {S : Sto} {k : Nat} (h : k < 3) : ixT S (.str (q "wmo")) (.int (k : Int)) = some (.str (MKS.getD k [])) := by
  rw [ixT_str, if_pos (by rw [wmo_len, sizeLine_eq]; omega), atI_natE]
  have e : ((q "wmo")[k]?).map (fun c => [c]) = some (MKS.getD k []) := by
    match k, h with
    | 0, _ => decide +kernel
    | 1, _ => decide +kernel
    | 2, _ => decide +kernel
  have e2 : ((q "wmo")[k]?).map (fun c => T.str [c]) = (((q "wmo")[k]?).map (fun c => [c])).map T.str := by rw [Option.map_map]; rfl
  rw [e2, e]
  rfl
theorem ninT_fam {S : Sto} {x : List Sg} {f : List (List Sg)} : ninT S (.str x) (famT f) = some (.bl (!decide (x ∈ f))) := ninT_strsT
theorem atI_map_getD {α : Type} {f : α → T} {us : List α} {i : Int} (h0 : 0 ≤ i) (h1 : i < us.length) : ∃ y, y ∈ us ∧ L2.atI (us.map f) i = some (f y) := by
  obtain ⟨n, rfl⟩ := Int.eq_ofNat_of_zero_le h0
  have h : n < us.length := by omega
  exact ⟨us[n], List.getElem_mem _, by rw [atI_natE, List.getElem?_map, List.getElem?_eq_getElem h]; rfl⟩
theorem plains_map {α : Type} {f : α → T} {xs : List α} (h : ∀ x ∈ xs, plain (f x) = true) : plains (xs.map f) = true := by
  induction xs with
  | nil => rfl
  | cons y ys ih =>
    rw [List.map_cons]
    simp only [plains, h y List.mem_cons_self, ih fun x hx => h x (List.mem_cons_of_mem _ hx), Bool.and_self]
theorem okd_map {α : Type} {f : α → T} {xs : List α} (h : ∀ x ∈ xs, okd (f x) = true ∧ dep (f x) ≤ 60) : okd (.lst (xs.map f)) = true ∧ okd (.tup (xs.map f)) = true := by
  have p := plains_map (f := f) fun x hx => okd_plain (h x hx).1
  have d : deps (xs.map f) ≤ 60 := deps_le fun t ht => by
    obtain ⟨a, ha, rfl⟩ := List.mem_map.mp ht
    exact (h a ha).2
  constructor
  · show (plains (xs.map f) && decide (deps (xs.map f) + 1 ≤ 64)) = true
    rw [p, decide_eq_true (by omega)]; rfl
  · show (plains (xs.map f) && decide (deps (xs.map f) + 1 ≤ 64)) = true
    rw [p, decide_eq_true (by omega)]; rfl
theorem nodup_map {α β : Type} {f : α → β} (inj : ∀ a b, f a = f b → a = b) {l : List α} (h : l.Nodup) : (l.map f).Nodup := List.pairwise_map.mpr (h.imp fun {a b} hne e => hne (inj a b e))
theorem str_inj {a b : List Sg} (h : T.str a = T.str b) : a = b := by injection h
end TL
namespace TL
open PySem PySem.Spec PyProof.Rows L2
def SqB (b : Bool) (K : PySem.W.Frag) (H : Hp) (a : Addr) (xs : List V) : Prop := cond b (SqL K H a xs) (SqT K H a xs)
def ItB (b : Bool) (h : Heap) (it l : Addr) (i : Nat) : Prop := cond b (h.IsListIter it l i) (h.IsTupleIter it l i)
def SeB (b : Bool) (h : Heap) (l : Addr) (items : Array Value) : Prop := cond b (h.IsList l items) (h.IsTuple l items)
def objB (b : Bool) (l : Addr) : Obj := cond b { cls := .type "list_iterator", data := .fields #[.ref l, .int 0 0] } { cls := .type "tuple_iterator", data := .fields #[.ref l, .int 0 0] }
theorem drawsB (b : Bool) {prog : Program} {w : World} {A : Around} (hh : A.handled = none) (it l : Addr) (hne : l ≠ it) (items : Array Value) :
    Draws prog w A it [it, l] items.size (fun i v => items[i]? = some v) (fun i h => ItB b h it l i ∧ SeB b h l items) := by
  cases b
  · exact Draws.tuple hh it l hne items
  · exact Draws.list hh it l hne items
theorem begins_B (b : Bool) (l : Addr) (items : Array Value) : Begins (.ref l) (objB b l) fun h => SeB b h l items := by
  cases b
  · exact begins_tuple l items
  · exact begins_list l items
theorem ItB.at {b : Bool} {h h' : Heap} {it l : Addr} {i : Nat} (x : ItB b h it l i) (k : ∀ o, h.get? it = some o → h'.get? it = some o) : ItB b h' it l i := by
  cases b
  · exact Heap.IsTupleIter.at x k
  · exact Heap.IsListIter.at x k
theorem ItB.obj {b : Bool} {h : Heap} {it l : Addr} {i : Nat} (x : ItB b h it l i) : ∃ o, h.get? it = some o ∧ ∀ v, o.data ≠ .cell v := by
  cases b
  · obtain ⟨o, ho, _, hd⟩ := x
    exact ⟨o, ho, fun v q => by rw [hd] at q; cases q⟩
  · obtain ⟨o, ho, _, hd⟩ := x
    exact ⟨o, ho, fun v q => by rw [hd] at q; cases q⟩
theorem ItB.new {b : Bool} {h : Heap} {it l : Addr} (x : h.get? it = some (objB b l)) : ItB b h it l 0 := by
  cases b
  · exact ⟨_, x, rfl, rfl⟩
  · exact ⟨_, x, rfl, rfl⟩
section
variable {X : Cx} {pins : List (Addr × Obj)} {σ : L2.St} {H : Hp} {s : Shared}
theorem sqB_get {b : Bool} {a : Addr} {xs : List V} (I : Inv X pins σ H s) (h : SqB b X.K H a xs) : ∃ its : List Value, Vals xs its ∧ SeB b s.heap a its.toArray ∧ a < s.heap.objs.size := by
  cases b
  · obtain ⟨its, rv, p, _⟩ := I.tuple h
    obtain ⟨o, ho, _⟩ := id p
    exact ⟨its, rv, p, Heap.lt_size ho⟩
  · obtain ⟨its, rv, p, _⟩ := I.list h
    exact ⟨its, rv, p.isList, p.lt⟩
theorem sqB_inj {b : Bool} {a : Addr} {xs ys : List V} (I : Inv X pins σ H s) (h : SqB b X.K H a xs) (k : SqB b X.K H a ys) : xs = ys := by
  cases b
  · exact I.tuple_inj h k
  · exact I.list_inj h k
end
/-- the row at a as it stands at each turn, each item in a new pair -/
def IteB (b : Bool) (K : PySem.W.Frag) (a : Addr) : It :=
  ⟨fun i H => ∃ (xs : List V) (x : V), SqB b K H a xs ∧ xs[i]? = some x, fun i H v H' => ∃ T x, v = .ref T ∧ H T = none ∧ (∃ o : Obj, o.dict = none ∧ H' = upd H T (fT o [.int (i : Nat), x])) ∧ ∀ xs, SqB b K H a xs → xs[i]? = some x, fun i H => ∃ xs : List V, SqB b K H a xs ∧ xs.length = i⟩
theorem turn_enumB (b : Bool) {P : Program} {w : World} {K : PySem.W.Frag} {elts : List Expr} {kk : Nat} {tpos : Pos} (a e it : Addr) (hei : e ≠ it) (hea : e ≠ a) (hai : a ≠ it) :
    Turn P w K (.Tuple elts kk tpos) (IteB b K a) [e, it] e (fun i h => (∃ old, IsEnum h e it ((i : Nat) : Int) old) ∧ ItB b h it a i) where
  mem := by simp
  obj := fun i h st c hc => by
    obtain ⟨⟨old, he⟩, hi⟩ := st
    have e' : c = e ∨ c = it := by simpa using hc
    rcases e' with z | z
    · rw [z]; exact ⟨_, he, fun v q => nomatch q⟩
    · rw [z]; exact hi.obj
  keep := fun i h h' st k => let ⟨⟨old, he⟩, hi⟩ := st; ⟨⟨old, k e (by simp) _ he⟩, hi.at fun o q => k it (by simp) o q⟩
  item := by
    intro X hP hw hK hc i pins s σ H E I hf st hg
    subst hP hw hK
    obtain ⟨⟨old, he⟩, hit⟩ := st
    obtain ⟨xs, x, hq, hx⟩ := hg
    obtain ⟨its, rv, p, _⟩ := sqB_get I hq
    obtain ⟨u, hu, ru⟩ := rv.get hx
    have hel : e < s.heap.objs.size := Heap.lt_size he
    have hil : it < s.heap.objs.size := by obtain ⟨_, q, _⟩ := hit.obj; exact Heap.lt_size q
    have hef : e ∉ [it, a] := by simp [hei, hea]
    have hlt : i < its.toArray.size := by
      have := (List.getElem?_eq_some_iff.mp hu).1
      simpa using this
    refine wpAny_pyNext_enum_itemD (drawsB b (A := X.A.in1) (I.ok.hd hc) it a hai its.toArray) he ⟨hit, p⟩ hlt hei hef fun x' h' tk hx' ho st' hT hsz hk => ?_
    have ex : x' = u := by
      have h1 : its.toArray[i]? = some u := by simpa using hu
      exact (Option.some.inj (h1.symm.trans hx')).symm
    subst ex
    refine ⟨_, rfl, wpAny_letOwnedTupleGo_enum (s := { s with heap := h', toks := tk + 1 }) ho fun h'' he' sb => ?_⟩
    have hT2 : h''.get? s.heap.objs.size = some { cls := .type "tuple", data := .seq #[.int i tk, x'] } := (sb.2 _ (Nat.ne_of_gt hel)).trans hT
    have new : ObjOk X.prog X.w (upd H s.heap.objs.size (fT { cls := .type "tuple", data := .seq #[.int i tk, x'] } [.int (i : Nat), x])) h'' s.heap.objs.size (fT { cls := .type "tuple", data := .seq #[.int i tk, x'] } [.int (i : Nat), x]) :=
      ⟨hT2, by show 2 ≤ sizeLine; decide, [.int i tk, x'], .cons ⟨_, rfl⟩ (.cons ru .nil), ⟨_, hT2, rfl, _, rfl⟩⟩
    have I1 : Inv X pins σ (upd H s.heap.objs.size (fT { cls := .type "tuple", data := .seq #[.int i tk, x'] } [.int (i : Nat), x])) { s with heap := h'', toks := tk + 1 } :=
      I.turnedNew (t' := tk + 1) (ch := [e, it]) (fun b ob hb q => (sb.2 b (fun z => hb (by simp [z]))).trans (hk b ob (fun z => hb (by simp [z])) (fun z => hb (by simp [z])) q)) hf (Nat.le_refl _) new
    refine ⟨.ref s.heap.objs.size, _, I1, rfl, ⟨_, x, rfl, I.hok.fresh (Nat.le_refl _), ⟨_, rfl, rfl⟩, fun ys hy => by rw [sqB_inj I hy hq]; exact hx⟩, ⟨⟨x', ?_⟩, st'.1.at fun o q => (sb.2 it (Ne.symm hei)).trans q⟩, fun b hb => ?_⟩
    · have e1 : ((i + 1 : Nat) : Int) = (i : Int) + 1 := by omega
      rw [e1]; exact he'
    · have hb' : b < s.heap.objs.size := by
        have e' : b = e ∨ b = it := by simpa using hb
        rcases e' with z | z
        · rw [z]; exact hel
        · rw [z]; exact hil
      rw [upd_ne (Nat.ne_of_lt hb')]
      exact (hf b hb).1
  done := by
    intro X hP hw hK hc i pins s σ H E I hf st hg
    subst hP hw hK
    obtain ⟨⟨old, he⟩, hit⟩ := st
    obtain ⟨xs, hq, hx⟩ := hg
    obtain ⟨its, rv, p, _⟩ := sqB_get I hq
    obtain ⟨f0, f1, f2, f3, f4, f5⟩ := hf it (by simp)
    have hl := rv.length
    have en : i = its.toArray.size := by simp; omega
    subst en
    exact wpAny_pyNext_enum_endD (drawsB b (A := X.A.in1) (I.ok.hd hc) it a hai its.toArray) he ⟨hit, p⟩ fun h' eb => ⟨rfl, I.turned (t' := s.toks) (fun b o hb q => eb b o hb q) f0 f1 f3 f4 f5⟩
  self := fun A i s Q E st h => let ⟨⟨_, he⟩, _⟩ := st; wpAny_pyIter_enum he h
theorem meets_enumerate_new1 {v : Value} {o : Obj} {H : Heap → Prop} (B : Begins v o H) :
    Meets (Builtin.«enumerate.__new__» ⟨[.type "enumerate", v], []⟩) (fun _ R s => H s.heap ∧
      R (.ok (.ret (.ref (s.heap.push o).objs.size))) { s with heap := (s.heap.push o).push { cls := .type "enumerate", data := .fields #[.none, .bool false, .ref s.heap.objs.size, rawInt 0, .none, .none] } }) :=
  .of_wp fun prog w A R s h => by
    obtain ⟨hp, g, d, tk, os⟩ := s; obtain ⟨h1, h⟩ := h
    have hsub := sub_enumerate
    have q1 : ∀ {A' : Around} {E : Value → Shared → Prop} {Q : Value → Shared → Prop}, Q (.ref hp.objs.size) ⟨hp.push o, g, d, tk, os⟩ → wpAny (model prog w) A' (pyIter v) Q E ⟨hp, g, d, tk, os⟩ :=
      fun q => B.iter prog w _ _ ⟨hp, g, d, tk, os⟩ _ h1 q
    wp_walk using q1
    refine wpAny_stack_any fun st => wpAny_pure ?_
    split
    · rename_i c _ _ _ _ _
      cases (c == Value.type "enumerate")
      · wp_walk using q1
        exact ⟨_, rfl, h⟩
      · wp_walk using q1
        exact ⟨_, rfl, h⟩
    · wp_walk using q1
      exact ⟨_, rfl, h⟩
theorem enum_begins1 {prog : Program} {w : World} {A : Around} {E : Value → Shared → Prop} {s : Shared} {v : Value} {o : Obj} {H : Heap → Prop} {Q : Value → Shared → Prop} (B : Begins v o H) (h1 : H s.heap)
    (h : ∀ h', IsEnum h' (s.heap.objs.size + 1) s.heap.objs.size 0 .none → h'.get? s.heap.objs.size = some o → h'.objs.size = s.heap.objs.size + 2 →
      (∀ b o, s.heap.get? b = some o → h'.get? b = some o) → Q (.ref (s.heap.objs.size + 1)) { s with heap := h' }) :
    wpAny (model prog w) A (call (.type "enumerate") [v]) Q E s := by
  refine callType_new F.called_enumerate (by decide) (F.typeCall_enumerate_1 _) (F.newCall_enumerate_1 _) (fun obj => F.args_object_init_2 obj _) F.entry_enumerate_new
    (meets_enumerate_new1 B) ⟨h1, ?_⟩
  have hz : (s.heap.push o).objs.size = s.heap.objs.size + 1 := Heap.size_push ..
  show _ ∧ _
  rw [hz]
  have he : IsEnum ((s.heap.push o).push { cls := .type "enumerate", data := .fields #[.none, .bool false, .ref s.heap.objs.size, rawInt 0, .none, .none] }) (s.heap.objs.size + 1) s.heap.objs.size 0 .none := by
    have := Heap.get?_push_size (s.heap.push o) (o := { cls := .type "enumerate", data := .fields #[.none, .bool false, .ref s.heap.objs.size, rawInt 0, .none, .none] }) rfl
    rw [hz] at this; exact this
  refine ⟨⟨_, he, rfl⟩, h _ he (Heap.get?_push_of_some _ (Heap.get?_push_size _ B.free)) (by rw [Heap.size_push, hz]) fun b o x => Heap.get?_push_of_some _ (Heap.get?_push_of_some _ x)⟩
def iEnumB (K : PySem.W.Frag) (ta : L2.TA) : L2.TI := fun σ H R => ta σ H fun vs H1 => ∃ b a xs, vs = [.ref a] ∧ SqB b K H1 a xs ∧ R (IteB b K a) H1
theorem pi_enumB {X : Cx} {e : Expr} {ta : L2.TA} {p pos tpos : Pos} {elts : List Expr} {kk : Nat} (hg : Gl X "enumerate") (hm : X.mg "enumerate" = none) (ha : PA X [e] ta) (hs : starEach [e] X.env = [(false, eval e X.env)] := by rfl) :
    PI X (.Tuple elts kk tpos) (.Call (.Name "enumerate" p) [e] [] pos) (iEnumB X.K ta) := by
  refine ⟨fun pins s σ H R I h => ?_⟩
  refine Call_ (ld_blt I hg hm boot_enumerate (PyProof.Rows.callWith_type1 (thn (ha.run pos pins s σ H _ I h) fun us s1 ⟨vs, H1, I1, r1, q1⟩ => ?_) hs rfl))
  obtain ⟨b, a, xs, ex, hq, q⟩ := q1
  subst ex
  cases r1 with
  | cons r rr =>
    cases rr
    cases r
    obtain ⟨its, rv, p', hl⟩ := sqB_get I1 hq
    refine enum_begins1 (begins_B b a its.toArray) p' fun h' he hit hsz hk => wpAny_pyIter_enum he ?_
    have I2 : Inv X pins σ H1 { s1 with heap := h' } := I1.kept (t' := s1.toks) hk
    refine ⟨s1.heap.objs.size + 1, [s1.heap.objs.size + 1, s1.heap.objs.size], _, _, H1, rfl, I2, turn_enumB b a (s1.heap.objs.size + 1) s1.heap.objs.size (Nat.succ_ne_self _) (Nat.ne_of_gt (Nat.lt_succ_of_lt hl)) (Nat.ne_of_lt hl), ⟨⟨.none, he⟩, ItB.new hit⟩, fun b hb => ?_, q⟩
    have e' : b = s1.heap.objs.size + 1 ∨ b = s1.heap.objs.size := by simpa using hb
    have hle : s1.heap.objs.size ≤ b := by
      rcases e' with z | z
      · rw [z]; exact Nat.le_add_right _ _
      · rw [z]; exact Nat.le_refl _
    exact I1.fpOk hle (I1.hok.fresh hle)
def rowOf : T → Option (List T)
  | .tup xs => some xs
  | .lst xs => some xs
  | _ => none
/-- a row's place: a list or a tuple that stands -/
structure RowAt (G : Gd) (b : Bool) (a : Addr) (ts : List T) (S1 : Sto) (H1 : Hp) : Prop where
  get : ∀ (M' : Addr → Prop) S H, (∀ a, M' a → ¬ G.M a → H1 a = none) → StoOk (G.mask M') H S → Ext S1 H1 S H → ∃ ws, SqB b G.K H a ws ∧ Reps (G.mask M') H S ts ws
  len : ∀ S H, Ext S1 H1 S H → ∃ ws, SqB b G.K H a ws ∧ ws.length = ts.length
section
variable {G : Gd} {S1 : Sto} {H1 : Hp}
theorem row_list {a : Addr} {ws : List V} {ts : List T} (h : LstAt G H1 S1 a ws) (r : Reps G H1 S1 ts ws) : RowAt G true a ts S1 H1 :=
  ⟨fun M' S H nk o x => ⟨ws, (h.ext x).sq, Reps.ext x _ _ (Reps.mask (newK nk) _ _ r)⟩, fun S H x => ⟨ws, (h.ext x).sq, r.length.symm⟩⟩
theorem row_tup {a : Addr} {ws : List V} {ts : List T} (h : TupAt G H1 S1 a ws) (r : Reps G H1 S1 ts ws) : RowAt G false a ts S1 H1 :=
  ⟨fun M' S H nk o x => ⟨ws, (h.ext x).sq, Reps.ext x _ _ (Reps.mask (newK nk) _ _ r)⟩, fun S H x => ⟨ws, (h.ext x).sq, r.length.symm⟩⟩
theorem row_of {x : T} {v : V} {ts : List T} (r : Rep G H1 S1 x v) (e : rowOf x = some ts) : ∃ b a, v = .ref a ∧ RowAt G b a ts S1 H1 := by
  cases r with
  | tup h1 h2 =>
    obtain rfl := Option.some.inj e
    exact ⟨false, _, rfl, row_tup h1 h2⟩
  | lst h1 h2 =>
    obtain rfl := Option.some.inj e
    exact ⟨true, _, rfl, row_list h1 h2⟩
  | _ => cases e
def enumL (ts : List T) : List T := ts.zipIdx.map fun p => .tup [.int (p.2 : Nat), p.1]
theorem wks_enum {b : Bool} {a : Addr} {ts : List T} (h : RowAt G b a ts S1 H1) : Wks G (IteB b G.K a) (enumL ts) yes S1 H1 where
  go := fun M' S H i z nk o x _ hz => by
    obtain ⟨ws, q, r⟩ := h.get M' S H nk o x
    unfold enumL at hz
    rw [List.getElem?_map, List.getElem?_zipIdx] at hz
    cases hc : ts[i]? with
    | none => rw [hc] at hz; cases hz
    | some c =>
      rw [hc] at hz
      obtain rfl : T.tup [.int ((0 + i : Nat) : Int), c] = z := Option.some.inj hz
      obtain ⟨v, h1, h2⟩ := r.get hc
      refine ⟨⟨ws, v, q, h1⟩, ?_⟩
      rintro y H' ⟨A, w, rfl, hn, ⟨ob, nd, rfl⟩, hy⟩
      obtain rfl : v = w := Option.some.inj (h1.symm.trans (hy ws q))
      refine ⟨o.new hn, Ext.new hn, .tup (.inl ⟨ob, ⟨upd_same, nd⟩, o.free hn, o.nom hn⟩) (.cons ?_ (.cons (Rep.ext (Ext.new hn) _ _ h2) .nil))⟩
      rw [Nat.zero_add]
      exact .int _
  stop := fun M' S H o x _ => by
    obtain ⟨ws, q, l⟩ := h.len S H x
    exact ⟨ws, q, by unfold enumL; rw [List.length_map, List.length_zipIdx]; exact l⟩
end
def iEnum (e : TTE) : TTI := fun τ S Q E => e τ S (fun x S1 => ∃ ts, rowOf x = some ts ∧ Q (enumL ts) yes S1) E
section
variable {X : Cx} {tg e a b : Expr} {te ta tb : TTE} {p pos tpos : Pos} {elts : List Expr} {kk : Nat}
theorem ti_enum (hg : Gl X "enumerate") (hm : X.mg "enumerate" = none) (ha : TE X a ta) (hs : starEach [a] X.env = [(false, eval a X.env)] := by rfl) : TI X (.Tuple elts kk tpos) (.Call (.Name "enumerate" p) [a] [] pos) (iEnum ta) := fun M S0 H0 E tk =>
  (pi_enumB hg hm (ta_cons ha ta_nil hs M S0 H0 E tk) hs).weak fun σ H R ⟨τ, S, Qt, rel, q, k⟩ => ⟨τ, S, fun zs S1 => ∃ x ts, zs = [x] ∧ rowOf x = some ts ∧ Qt (enumL ts) yes S1, rel, by
    have e : (fun (x : T) (S1 : Sto) => ∃ y ts, [x] = [y] ∧ rowOf y = some ts ∧ Qt (enumL ts) yes S1) = fun (x : T) (S1 : Sto) => ∃ ts, rowOf x = some ts ∧ Qt (enumL ts) yes S1 := by
      funext x S1
      simp only [List.cons.injEq, and_true]
      apply propext
      constructor
      · rintro ⟨y, ts, rfl, h⟩; exact ⟨ts, h⟩
      · rintro ⟨ts, h⟩; exact ⟨x, ts, rfl, h⟩
    show ta τ S (fun (x : T) (S1 : Sto) => ∃ y ts, [x] = [y] ∧ rowOf y = some ts ∧ Qt (enumL ts) yes S1) fun x S' => E x τ S'
    rw [e]
    exact q, fun zs S1 vs H1 hq o1 x1 r1 => by
    obtain ⟨x, ts, rfl, h1, hq⟩ := hq
    cases r1 with
    | cons r1 r2 =>
      cases r2
      obtain ⟨b, a, rfl, hr⟩ := row_of r1 h1
      obtain ⟨ws, q1, _⟩ := hr.len S1 H1 Ext.refl
      exact ⟨b, a, ws, rfl, q1, k _ _ S1 _ H1 hq o1 x1 (wks_enum hr)⟩⟩
end
end TL
namespace TL
open PySem PySem.Spec PyProof.Rows L2
def kyT : T → Option Key
  | .int i => some (.inl i)
  | .str x => some (.inr (txt x))
  | _ => none
def dLk : List T → List T → Key → Option T
  | k :: ks, v :: vs, x => if kyT k = some x then some v else dLk ks vs x
  | _, _, _ => none
def dHs : List T → Key → Bool
  | k :: ks, x => if kyT k = some x then true else dHs ks x
  | [], _ => false
def dRp : List T → List T → Key → T → List T
  | k :: ks, v :: vs, x, y => (if kyT k = some x then y else v) :: dRp ks vs x y
  | _, _, _, _ => []
def dPk (ks : List T) (x : Key) (t : T) : List T := if dHs ks x = true then ks else ks ++ [t]
def dPv (ks vs : List T) (x : Key) (y : T) : List T := if dHs ks x = true then dRp ks vs x y else vs ++ [y]
section
variable {G : Gd} {H : Hp} {S : Sto}
theorem ky_rep {t : T} {v : V} {k : Key} (r : Rep G H S t v) (e : kyT t = some k) : v = kV k := by
  cases r <;> (cases e <;> rfl)
theorem ky_of {t : T} {k : Key} (r : Rep G H S t (kV k)) : kyT t = some k := by
  cases k with
  | inl i => cases r; rfl
  | inr x =>
    have : ∀ {v : V}, Rep G H S t v → v = .str x → kyT t = some (.inr x) := fun r e => by
      cases r <;> (cases e <;> rfl)
    exact this r rfl
theorem lk_rep : ∀ {ks vs : List T} {kvs : List (Key × V)} (k : Key), Reps G H S ks (kvs.map fun p => kV p.1) → Reps G H S vs (kvs.map (·.2)) →
    (∀ t, dLk ks vs k = some t → ∃ v, valV kvs k = some v ∧ Rep G H S t v) ∧ (dLk ks vs k = none → valV kvs k = none)
  | _, _, [], k, r1, r2 => by
    cases r1; cases r2
    exact ⟨fun t e => (by cases e), fun _ => rfl⟩
  | _, _, p :: kvs, k, r1, r2 => by
    cases r1 with
    | cons a1 a2 =>
      cases r2 with
      | cons b1 b2 =>
        have ih := lk_rep k a2 b2
        have e1 := ky_of a1
        unfold dLk
        rw [e1]
        by_cases q : p.1 = k
        · rw [if_pos (by rw [q]), valV_pos q]
          exact ⟨fun t e => (by cases e; exact ⟨_, rfl, b1⟩), fun e => (by cases e)⟩
        · rw [if_neg (fun z => q (Option.some.inj z)), valV_neg q]
          exact ih
theorem hs_rep : ∀ {ks : List T} {kvs : List (Key × V)} (k : Key), Reps G H S ks (kvs.map fun p => kV p.1) → (kvs.any fun kv => decide (kv.1 = k)) = dHs ks k
  | _, [], k, r1 => by cases r1; rfl
  | _, p :: kvs, k, r1 => by
    cases r1 with
    | cons a1 a2 =>
      have ih := hs_rep k a2
      have e1 := ky_of a1
      unfold dHs
      rw [e1, List.any_cons, ih]
      by_cases q : p.1 = k
      · rw [if_pos (by rw [q])]; simp [q]
      · rw [if_neg (fun z => q (Option.some.inj z))]; simp [q]
theorem rp_rep : ∀ {ks vs : List T} {kvs : List (Key × V)} (k : Key) {y : T} {v : V}, Reps G H S ks (kvs.map fun p => kV p.1) → Reps G H S vs (kvs.map (·.2)) → Rep G H S y v →
    Reps G H S ks ((kvs.map fun kv => if kv.1 = k then (kv.1, v) else kv).map fun p => kV p.1) ∧ Reps G H S (dRp ks vs k y) ((kvs.map fun kv => if kv.1 = k then (kv.1, v) else kv).map (·.2))
  | _, _, [], k, y, v, r1, r2, r => by
    cases r1; cases r2
    exact ⟨.nil, .nil⟩
  | _, _, p :: kvs, k, y, v, r1, r2, r => by
    cases r1 with
    | cons a1 a2 =>
      cases r2 with
      | cons b1 b2 =>
        obtain ⟨i1, i2⟩ := rp_rep k a2 b2 r
        have e1 := ky_of a1
        unfold dRp
        rw [e1]
        by_cases q : p.1 = k
        · rw [if_pos (by rw [q]), List.map_cons, if_pos q]
          exact ⟨.cons a1 i1, .cons r i2⟩
        · rw [if_neg (fun z => q (Option.some.inj z)), List.map_cons, if_neg q]
          exact ⟨.cons a1 i1, .cons b1 i2⟩
theorem put_rep {ks vs : List T} {kvs : List (Key × V)} {t y : T} {k : Key} {v : V} (r1 : Reps G H S ks (kvs.map fun p => kV p.1)) (r2 : Reps G H S vs (kvs.map (·.2))) (ht : Rep G H S t (kV k)) (r : Rep G H S y v) :
    Reps G H S (dPk ks k t) ((putK kvs k v).map fun p => kV p.1) ∧ Reps G H S (dPv ks vs k y) ((putK kvs k v).map (·.2)) := by
  unfold dPk dPv putK
  rw [hs_rep k r1]
  by_cases q : dHs ks k = true
  · rw [if_pos q, if_pos q, if_pos q]
    exact rp_rep k r1 r2 r
  · rw [if_neg q, if_neg q, if_neg q, List.map_append, List.map_append]
    exact ⟨r1.append (.cons ht .nil), r2.append (.cons r .nil)⟩
def dView (S : Sto) : T → Option (List T × List T)
  | .dct false ks vs => some (ks, vs)
  | .ref a => match S a with
    | some (.dct false ks vs) => some (ks, vs)
    | _ => none
  | _ => none
theorem dView_rep {x : T} {v : V} {p : List T × List T} (o : StoOk G H S) (r : Rep G H S x v) (e : dView S x = some p) : ∃ a kvs, v = .ref a ∧ Rd H a (.dK kvs) ∧ Reps G H S p.1 (kvs.map fun p => kV p.1) ∧ Reps G H S p.2 (kvs.map (·.2)) := by
  cases r with
  | dK h1 h2 h3 => cases e; exact ⟨_, _, rfl, h1.1, h2, h3⟩
  | ref a =>
    unfold dView at e
    cases q : S a with
    | none => simp [q] at e
    | some c =>
      cases c with
      | dct n ks vs =>
        cases n with
        | true => simp [q] at e
        | false =>
          simp only [q] at e
          cases e
          obtain ⟨kvs, h1, h2, h3⟩ := o.at_ a _ q
          exact ⟨a, kvs, rfl, .inl h1, h2, h3⟩
      | _ => simp [q] at e
  | _ => cases e
end
def dgT (S : Sto) (x y : T) : Option T := match dView S x, kyT y with
  | some p, some k => dLk p.1 p.2 k
  | _, _ => none
def cDput (o i e : TTE) : TTS := fun D τ S E => e τ S (fun z S1 => o τ S1 (fun x S2 => i τ S2 (fun y S3 => ∃ a ks vs k, x = .ref a ∧ S3 a = some (.dct false ks vs) ∧ kyT y = some k ∧ ks.length < sizeLine ∧ D.nx τ (ups S3 a (.dct false (dPk ks k y) (dPv ks vs k z))))
  (fun x S' => E x τ S')) (fun x S' => E x τ S')) (fun x S' => E x τ S')
def cDnewM : TTE := fun _ S Q _ => ∀ p, S p = none → Q (.ref p) (ups S p (.dct false [] []))
/-- pairs laid one behind the other -/
def mrgT : List T → List T → List T → Option (List T × List T)
  | [], ks, vs => some (ks, vs)
  | .tup [k, v] :: ts, ks, vs => match kyT k with
    | some x => mrgT ts (dPk ks x k) (dPv ks vs x v)
    | none => none
  | _ :: _, _, _ => none
def dictF (S : Sto) : List T → Option T
  | [x] => match res S x with
    | .lst ts => (mrgT ts [] []).map fun p => .dct false p.1 p.2
    | .tup ts => (mrgT ts [] []).map fun p => .dct false p.1 p.2
    | _ => none
  | _ => none
section
variable {X : Cx} {a b c o i e : Expr} {ta tb tc to ti te : TTE} {pos pos' apos cpos : Pos}
theorem te_dg (hu : X.A.units + 64 < cLine) (ha : TE X a ta) (hb : TE X b tb) (hs : NoSl b := by intro _ _; rfl) : TE X (.Subscript a b pos) (cOp dgT ta tb) := fun M S0 H0 E tk =>
  (pe_dget (by omega) (ha M S0 H0 E tk) (hb M S0 H0 E tk) hs).weak fun σ H Q ⟨τ, S, Qt, rel, h, k⟩ => ⟨τ, S, _, rel, h, fun zx S1 x H1 hb1 o1 x1 r1 => ⟨τ, S1, _, rel.step o1 x1, hb1, fun zy S2 y H2 ⟨z, e, hq⟩ o2 x2 r2 => by
    unfold dgT at e
    split at e
    · rename_i p kk h1 h2
      obtain ⟨d, kvs, rfl, hd, q1, q2⟩ := dView_rep o2 (Rep.ext x2 _ _ r1) h1
      obtain rfl := ky_rep r2 h2
      obtain ⟨v, e1, e2⟩ := (lk_rep kk q1 q2).1 z e
      exact ⟨d, v, rfl, .inl ⟨kvs, kk, hd, rfl, e1.symm⟩, k z S2 v H2 hq o2 (x1.trans x2) e2⟩
    · cases e⟩⟩
theorem te_dnewM : TE X (.Dict [] [] pos) cDnewM := fun M S0 H0 E tk => pe_dnewK.weak fun σ H Q ⟨τ, S, Qt, rel, h, k⟩ p n =>
  k (.ref p) (ups S p (.dct false [] [])) (.ref p) _ (h p (rel.sto.free n)) (rel.sto.cell (.inl n) ⟨[], upd_same, .nil, .nil⟩) (Ext.cell (.inl n)) (.ref p)
theorem ts_dput {i' : Expr} (hu : X.A.units + 64 < cLine) (ho : TE X o to) (hi : TE X i' ti) (hv : TE X e te) (hs : swapsWith e (some (.Subscript o i' pos')) pos.line X.env = pure false := by rfl) : TS X (.Assign [.Subscript o i' pos'] e pos) (cDput to ti te) := fun M S0 H0 E tk =>
  (ps_dput (by omega) (ho M S0 H0 E tk) (hi M S0 H0 E tk) (hv M S0 H0 E tk) hs).weak fun D σ H ⟨τ, S, B, rel, h, k1, _⟩ => ⟨τ, S, _, rel, h, fun zz S1 z H1 h1 o1 x1 r1 => ⟨τ, S1, _, rel.step o1 x1, h1, fun zx S2 x H2 h2 o2 x2 r2 => ⟨τ, S2, _, rel.step o2 (x1.trans x2), h2, fun zy S3 y H3 ⟨a, ks, vs, kk, ea, es, ek, hl, hn⟩ o3 x3 r3 => by
    subst ea
    cases r2
    obtain ⟨kvs, g1, g2, g3⟩ := o3.at_ a _ es
    obtain rfl := ky_rep r3 ek
    have hlen : kvs.length < sizeLine := by
      have := g2.length
      rw [List.length_map] at this
      omega
    obtain ⟨p1, p2⟩ := put_rep g2 g3 r3 (Rep.ext (x2.trans x3) _ _ r1)
    have xc : Ext S3 H3 (ups S3 a (.dct false (dPk ks kk zy) (dPv ks vs kk zz))) (upd H3 a (.dK (putK kvs kk z))) := Ext.cell (.inr ⟨_, es⟩)
    refine ⟨a, upd H3 a (.dK (putK kvs kk z)), rfl, .inl ⟨kvs, kk, g1, rfl, hlen, rfl⟩, ?_⟩
    have rel4 := rel.step (o3.cell (o := .dK (putK kvs kk z)) (c := .dct false (dPk ks kk zy) (dPv ks vs kk zz)) (.inr ⟨_, es⟩) ⟨putK kvs kk z, upd_same, Reps.ext xc _ _ p1, Reps.ext xc _ _ p2⟩) (((x1.trans x2).trans x3).trans xc)
    exact k1 σ _ τ _ rel4 (((x1.trans x2).trans x3).trans xc) hn⟩⟩⟩
theorem mrg_rep {G : Gd} {H : Hp} {S : Sto} : ∀ {ts ks vs : List T} {ps : List V} {acc : List (Key × V)} {r : List T × List T}, mrgT ts ks vs = some r → Reps G H S ts ps → Reps G H S ks (acc.map fun p => kV p.1) → Reps G H S vs (acc.map (·.2)) →
    ∃ (as : List Addr) (kvs : List (Key × V)), ps = as.map V.ref ∧ Paired (fun p (kv : Key × V) => SqT G.K H p [kV kv.1, kv.2]) as kvs ∧ Reps G H S r.1 ((mergeK acc kvs).map fun p => kV p.1) ∧ Reps G H S r.2 ((mergeK acc kvs).map (·.2))
  | [], ks, vs, ps, acc, r, e, h, h1, h2 => by
    cases h
    cases e
    exact ⟨[], [], rfl, .nil, h1, h2⟩
  | t :: ts, ks, vs, ps, acc, r, e, h, h1, h2 => by
    unfold mrgT at e
    split at e
    · rename_i h0; cases h0
    · rename_i k v ts' e0
      cases e0
      split at e
      · rename_i x hx
        cases h with
        | cons a1 a2 =>
          cases a1 with
          | tup b1 b2 =>
            cases b2 with
            | cons c1 c2 =>
              cases c2 with
              | cons c2 c3 =>
                cases c3
                obtain rfl := ky_rep c1 hx
                obtain ⟨p1, p2⟩ := put_rep h1 h2 c1 c2
                obtain ⟨as, kvs, e1, e2, e3, e4⟩ := mrg_rep e a2 p1 p2
                exact ⟨_ :: as, (x, _) :: kvs, by rw [e1]; rfl, .cons b1.sq e2, e3, e4⟩
      · cases e
    · cases e
theorem fn_dict (hc : X.calm = true) : CallT X (.type "dict") dictF := by
  intro pins s σ H xs us Q I r h
  obtain ⟨M, S, ts, t, o, rs, e, fin⟩ := h
  unfold dictF at e
  split at e
  · obtain ⟨v, rfl, ry⟩ := rs.one
    split at e
    · rename_i zs hz
      obtain ⟨p, hp, rfl⟩ := Option.map_eq_some_iff.mp e
      obtain ⟨a, ws, rfl, h1, h2⟩ := res_lst o ry hz
      obtain ⟨as, kvs, rfl, e2, e3, e4⟩ := mrg_rep (acc := []) hp h2 .nil .nil
      exact call_dictP hc pins s σ H _ us Q I r ⟨a, as, kvs, rfl, SqL.of h1, e2, fun q n => fin _ _ (o.new n) (Ext.new n) (.dK ⟨.inl upd_same, o.free n, o.nom n⟩ (Reps.ext (Ext.new n) _ _ e3) (Reps.ext (Ext.new n) _ _ e4))⟩
    · rename_i zs hz
      obtain ⟨p, hp, rfl⟩ := Option.map_eq_some_iff.mp e
      obtain rfl := res_id hz fun _ z => nomatch z
      cases ry with
      | tup h1 h2 =>
        obtain ⟨as, kvs, rfl, e2, e3, e4⟩ := mrg_rep (acc := []) hp h2 .nil .nil
        exact call_dictT hc pins s σ H _ us Q I r ⟨_, as, kvs, rfl, h1.bare, e2, fun q n => fin _ _ (o.new n) (Ext.new n) (.dK ⟨.inl upd_same, o.free n, o.nom n⟩ (Reps.ext (Ext.new n) _ _ e3) (Reps.ext (Ext.new n) _ _ e4))⟩
    · cases e
  · cases e
end
end TL
namespace TL
open PySem PySem.Spec PyProof.Rows L2
inductive Res (κ α : Type) where
  | ok (a : α) (k : κ)
  | exc (x : T) (k : κ)
  | bad
def PM (κ α : Type) := κ → Res κ α
section
variable {κ α β γ : Type}
def pu (a : α) : PM κ α := fun k => .ok a k
def bd (m : PM κ α) (f : α → PM κ β) : PM κ β := fun k => match m k with
  | .ok a k' => f a k'
  | .exc x k' => .exc x k'
  | .bad => .bad
def thr (x : T) : PM κ α := fun k => .exc x k
def stuck : PM κ α := fun _ => .bad
def ofO (o : Option α) : PM κ α := fun k => match o with
  | some a => .ok a k
  | none => .bad
def gd (b : Prop) [Decidable b] : PM κ Unit := if b then pu () else stuck
def lft (m : PM Unit α) : PM κ α := fun k => match m () with
  | .ok a _ => .ok a k
  | .exc x _ => .exc x k
  | .bad => .bad
def Sat (r : Res κ α) (P : α → κ → Prop) (X : T → κ → Prop) : Prop := match r with
  | .ok a k => P a k
  | .exc x k => X x k
  | .bad => False
theorem bd_pu (m : PM κ α) : bd m pu = m := by
  funext k
  unfold bd pu
  cases m k <;> rfl
theorem pu_bd (a : α) (f : α → PM κ β) : bd (pu a) f = f a := rfl
theorem bd_bd (m : PM κ α) (f : α → PM κ β) (g : β → PM κ γ) : bd (bd m f) g = bd m fun a => bd (f a) g := by
  funext k
  unfold bd
  cases m k <;> rfl
theorem stuck_bd (f : α → PM κ β) : bd (stuck : PM κ α) f = stuck := rfl
theorem thr_bd (x : T) (f : α → PM κ β) : bd (thr x : PM κ α) f = thr x := rfl
theorem lft_pu (a : α) : lft (κ := κ) (pu a) = pu a := rfl
theorem ofO_some (a : α) : ofO (κ := κ) (some a) = pu a := rfl
theorem gd_true {b : Prop} [Decidable b] (h : b) : gd (κ := κ) b = pu () := if_pos h
theorem Sat.bd {m : PM κ α} {f : α → PM κ β} {k : κ} {P : β → κ → Prop} {X : T → κ → Prop} : Sat (bd m f k) P X ↔ Sat (m k) (fun a k' => Sat (f a k') P X) X := by
  unfold TL.bd
  cases m k <;> exact Iff.rfl
theorem Sat.mono {r : Res κ α} {P P' : α → κ → Prop} {X X' : T → κ → Prop} (h : Sat r P X) (h1 : ∀ a k, P a k → P' a k) (h2 : ∀ x k, X x k → X' x k) : Sat r P' X' := by
  cases r with
  | ok a k => exact h1 _ _ h
  | exc x k => exact h2 _ _ h
  | bad => exact h
theorem Sat.lft {m : PM Unit α} {k : κ} {P : α → κ → Prop} {X : T → κ → Prop} : Sat (lft m k) P X ↔ Sat (m ()) (fun a _ => P a k) (fun x _ => X x k) := by
  unfold TL.lft
  cases m () <;> exact Iff.rfl
end
abbrev Cs := List (Addr × Cell)
def emp : Sto := fun _ => none
structure SI {κ : Type} (W : κ → Sto) (l : Cs) (k : κ) (S : Sto) : Prop where
  at_ : ∀ e ∈ l, S e.1 = some e.2
  own : ∀ e ∈ l, W k e.1 = none
  nd : (l.map (·.1)).Nodup
  base : ∀ a c, W k a = some c → S a = some c
def En : TEnv → TEnv → Prop
  | [], [] => True
  | p :: ps, t :: ts => (p = none ∨ p = t) ∧ En ps ts
  | _, _ => False
theorem En.refl : ∀ τ, En τ τ
  | [] => trivial
  | _ :: ts => ⟨.inr rfl, En.refl ts⟩
theorem En.len : ∀ {p τ : TEnv}, En p τ → p.length = τ.length
  | [], [], _ => rfl
  | _ :: _, _ :: _, h => by rw [List.length_cons, List.length_cons, En.len h.2]
  | [], _ :: _, h => h.elim
  | _ :: _, [], h => h.elim
theorem En.get : ∀ {p τ : TEnv} {i : Nat} {x : T}, En p τ → p[i]? = some (some x) → τ[i]? = some (some x)
  | [], [], _, _, _, e => by simp at e
  | _ :: _, [], _, _, h, _ => h.elim
  | [], _ :: _, _, _, h, _ => h.elim
  | p :: ps, t :: ts, 0, x, h, e => by
    rw [List.getElem?_cons_zero] at e ⊢
    cases e
    rcases h.1 with z | z
    · cases z
    · rw [← z]
  | p :: ps, t :: ts, i + 1, x, h, e => by
    rw [List.getElem?_cons_succ] at e ⊢
    exact En.get h.2 e
theorem En.set : ∀ {p τ : TEnv} {i : Nat} {x : Option T}, En p τ → En (p.set i x) (τ.set i x)
  | [], [], _, _, h => h
  | _ :: _, [], _, _, h => h.elim
  | [], _ :: _, _, _, h => h.elim
  | _ :: _, _ :: _, 0, _, h => ⟨.inr rfl, h.2⟩
  | _ :: _, _ :: _, i + 1, _, h => ⟨h.1, En.set h.2⟩
theorem En.trans : ∀ {p q τ : TEnv}, En p q → En q τ → En p τ
  | [], [], [], _, _ => trivial
  | _ :: _, _ :: _, _ :: _, h, g => ⟨h.1.elim .inl fun e => g.1.elim (fun z => .inl (e.trans z)) fun z => .inr (e.trans z), En.trans h.2 g.2⟩
  | [], _ :: _, _, h, _ => h.elim
  | _ :: _, [], _, h, _ => h.elim
  | [], [], _ :: _, _, g => g.elim
  | _ :: _, _ :: _, [], _, g => g.elim
theorem En.wipe {p τ : TEnv} (h : En p τ) (vs : List Nat) : En (wipeT p vs) (wipeT τ vs) := by
  induction vs with
  | nil => exact h
  | cons v vs ih => exact En.set ih
/-- z, seen as v -/
def Vw (l : Cs) (z v : T) : Prop := z = v ∨ (∃ a xs, z = .ref a ∧ (a, Cell.lst xs) ∈ l ∧ v = .lst xs) ∨ ∃ a n ks vs, z = .ref a ∧ (a, Cell.dct n ks vs) ∈ l ∧ v = .dct n ks vs
def VwS (S : Sto) (z v : T) : Prop := z = v ∨ (∃ a xs, z = .ref a ∧ S a = some (.lst xs) ∧ v = .lst xs) ∨ ∃ a n ks vs, z = .ref a ∧ S a = some (.dct n ks vs) ∧ v = .dct n ks vs
section
variable {κ : Type} {W : κ → Sto} {l : Cs} {k : κ} {S : Sto}
theorem Vw.at {z v : T} (i : SI W l k S) (h : Vw l z v) : VwS S z v := h.imp id (Or.imp (fun ⟨a, xs, e, m, f⟩ => ⟨a, xs, e, i.at_ _ m, f⟩) fun ⟨a, n, ks, vs, e, m, f⟩ => ⟨a, n, ks, vs, e, i.at_ _ m, f⟩)
inductive VwsS (S : Sto) : List T → List T → Prop
  | nil : VwsS S [] []
  | cons {z v : T} {zs vs : List T} : VwS S z v → VwsS S zs vs → VwsS S (z :: zs) (v :: vs)
inductive Vws (l : Cs) : List T → List T → Prop
  | nil : Vws l [] []
  | cons {z v : T} {zs vs : List T} : Vw l z v → Vws l zs vs → Vws l (z :: zs) (v :: vs)
theorem Vws.at : ∀ {zs vs : List T}, SI W l k S → Vws l zs vs → VwsS S zs vs
  | _, _, _, .nil => .nil
  | _, _, i, .cons h t => .cons (h.at i) (Vws.at i t)
theorem SI.tail {e : Addr × Cell} (i : SI W (e :: l) k S) : SI W l k S := ⟨fun x h => i.at_ x (List.mem_cons_of_mem _ h), fun x h => i.own x (List.mem_cons_of_mem _ h), (List.nodup_cons.mp i.nd).2, i.base⟩
theorem SI.nil (i : SI W l k S) : SI W [] k S := ⟨fun _ h => (nomatch h), fun _ h => (nomatch h), List.nodup_nil, i.base⟩
/-- a new cell -/
theorem SI.new {a : Addr} {c : Cell} (i : SI W l k S) (n : S a = none) : SI W ((a, c) :: l) k (ups S a c) := by
  have na : ∀ e ∈ l, e.1 ≠ a := fun e h z => by have := i.at_ e h; rw [z, n] at this; cases this
  have nw : W k a = none := by
    cases q : W k a with
    | none => rfl
    | some d => rw [i.base a d q] at n; cases n
  refine ⟨fun e h => ?_, fun e h => ?_, List.nodup_cons.mpr ⟨fun h => ?_, i.nd⟩, fun b d h => ?_⟩
  · rcases List.mem_cons.mp h with z | z
    · subst z; exact ups_same
    · rw [ups_ne (na e z)]; exact i.at_ e z
  · rcases List.mem_cons.mp h with z | z
    · subst z; exact nw
    · exact i.own e z
  · obtain ⟨e, he, q⟩ := List.mem_map.mp h
    exact na e he q
  · have : b ≠ a := fun z => by rw [z, nw] at h; cases h
    rw [ups_ne this]
    exact i.base b d h
/-- a cell written -/
theorem SI.put {a : Addr} {c d : Cell} {l1 l2 : Cs} (i : SI W (l1 ++ (a, c) :: l2) k S) : SI W (l1 ++ (a, d) :: l2) k (ups S a d) := by
  have nd := i.nd
  rw [List.map_append, List.map_cons] at nd
  have hm : ∀ e, e ∈ l1 ++ l2 → e ∈ l1 ++ (a, c) :: l2 ∧ e.1 ≠ a := fun e h => by
    obtain ⟨n1, n2, n3⟩ := List.nodup_append.mp nd
    rcases List.mem_append.mp h with z | z
    · exact ⟨List.mem_append_left _ z, fun q => n3 e.1 (List.mem_map_of_mem z) a (by simp) q⟩
    · exact ⟨List.mem_append_right _ (List.mem_cons_of_mem _ z), fun q => (List.nodup_cons.mp n2).1 (by rw [← q]; exact List.mem_map_of_mem (f := (·.1)) z)⟩
  have ow := i.own (a, c) (List.mem_append_right _ List.mem_cons_self)
  have cut : ∀ e, e ∈ l1 ++ (a, d) :: l2 → e = (a, d) ∨ e ∈ l1 ++ l2 := fun e h => by
    rcases List.mem_append.mp h with z | z
    · exact .inr (List.mem_append_left _ z)
    · rcases List.mem_cons.mp z with z | z
      · exact .inl z
      · exact .inr (List.mem_append_right _ z)
  refine ⟨fun e h => ?_, fun e h => ?_, by rw [List.map_append, List.map_cons]; exact nd, fun b e h => ?_⟩
  · rcases cut e h with z | z
    · subst z; exact ups_same
    · obtain ⟨q1, q2⟩ := hm e z
      rw [ups_ne q2]
      exact i.at_ e q1
  · rcases cut e h with z | z
    · subst z; exact ow
    · exact i.own e (hm e z).1
  · have : b ≠ a := fun z => by rw [z] at h; rw [ow] at h; cases h
    rw [ups_ne this]
    exact i.base b e h
end
def OpV (op : Sto → T → T → Option T) : Prop := ∀ S z1 v1 z2 v2 r, VwS S z1 v1 → VwS S z2 v2 → op emp v1 v2 = some r → op S z1 z2 = some r
def UnV (op : Sto → T → Option T) : Prop := ∀ S z v r, VwS S z v → op emp v = some r → op S z = some r
def FnV (f : Sto → List T → Option T) : Prop := ∀ S zs vs r, VwsS S zs vs → f emp vs = some r → f S zs = some r
def MtV (f : Sto → T → List T → Option T) : Prop := ∀ S z v zs vs r, VwS S z v → VwsS S zs vs → f emp v vs = some r → f S z zs = some r
theorem res_ref_emp (a : Addr) : res emp (.ref a) = .ref a := rfl
/-- either resolved alike, or a thing that no operation takes -/
theorem VwS.res {S : Sto} {z v : T} (h : VwS S z v) : res S z = v ∧ res emp v = v ∨ (∃ a, v = .ref a) ∨ ∃ n ks vs, v = .dct n ks vs := by
  rcases h with rfl | ⟨a, xs, rfl, h, rfl⟩ | ⟨a, n, ks, vs, rfl, h, rfl⟩
  · cases z with
    | ref a => exact .inr (.inl ⟨a, rfl⟩)
    | _ => exact .inl ⟨rfl, rfl⟩
  · exact .inl ⟨by simp only [TL.res, h], rfl⟩
  · exact .inr (.inr ⟨n, ks, vs, rfl⟩)
theorem res_dct_emp (n : Bool) (ks vs : List T) : res emp (.dct n ks vs) = .dct n ks vs := rfl
theorem opv_of {op : Sto → T → T → Option T} (g : T → T → Option T) (h : ∀ S x y, op S x y = g (res S x) (res S y)) (n1 : ∀ a y, g (.ref a) y = none) (n2 : ∀ a x, g x (.ref a) = none)
    (n3 : ∀ n ks vs y, g (.dct n ks vs) y = none) (n4 : ∀ n ks vs x, g x (.dct n ks vs) = none) : OpV op := fun S z1 v1 z2 v2 r h1 h2 e => by
  rw [h] at e ⊢
  rcases h1.res with ⟨e1, e1'⟩ | ⟨a, rfl⟩ | ⟨n, ks, vs, rfl⟩
  · rcases h2.res with ⟨e2, e2'⟩ | ⟨a, rfl⟩ | ⟨n, ks, vs, rfl⟩
    · rw [e1, e2, ← e1', ← e2']; rw [e1', e2'] at e ⊢; exact e
    · rw [res_ref_emp, n2] at e; cases e
    · rw [res_dct_emp, n4] at e; cases e
  · rw [res_ref_emp, n1] at e; cases e
  · rw [res_dct_emp, n3] at e; cases e
theorem unv_of {op : Sto → T → Option T} (g : T → Option T) (h : ∀ S x, op S x = g (res S x)) (n1 : ∀ a, g (.ref a) = none) (n3 : ∀ n ks vs, g (.dct n ks vs) = none) : UnV op := fun S z v r h1 e => by
  rw [h] at e ⊢
  rcases h1.res with ⟨e1, e1'⟩ | ⟨a, rfl⟩ | ⟨n, ks, vs, rfl⟩
  · rw [e1]; rw [e1'] at e; exact e
  · rw [res_ref_emp, n1] at e; cases e
  · rw [res_dct_emp, n3] at e; cases e
/-- the first by its resolution, the second as it is -/
theorem opv_of1 {op : Sto → T → T → Option T} (g : T → T → Option T) (h : ∀ S x y, op S x y = g (res S x) y) (n1 : ∀ a y, g (.ref a) y = none) (n3 : ∀ n ks vs y, g (.dct n ks vs) y = none) (n2 : ∀ x ts, g x (.lst ts) = none) (n4 : ∀ n ks vs x, g x (.dct n ks vs) = none) : OpV op := fun S z1 v1 z2 v2 r h1 h2 e => by
  rw [h] at e ⊢
  have e2 : z2 = v2 := by
    rcases h2 with q | ⟨a, xs, _, _, rfl⟩ | ⟨a, n, ks, vs, _, _, rfl⟩
    · exact q
    · rw [n2] at e; cases e
    · rw [n4] at e; cases e
  subst e2
  rcases h1.res with ⟨e1, e1'⟩ | ⟨a, rfl⟩ | ⟨n, ks, vs, rfl⟩
  · rw [e1]; rw [e1'] at e; exact e
  · rw [res_ref_emp, n1] at e; cases e
  · rw [res_dct_emp, n3] at e; cases e
/-- numbers alone -/
theorem opv_flat {op : Sto → T → T → Option T} (g : T → T → Option T) (h : ∀ S x y, op S x y = g x y) (n1 : ∀ ts y, g (.lst ts) y = none) (n3 : ∀ n ks vs y, g (.dct n ks vs) y = none) (n2 : ∀ x ts, g x (.lst ts) = none) (n4 : ∀ n ks vs x, g x (.dct n ks vs) = none) : OpV op := fun S z1 v1 z2 v2 r h1 h2 e => by
  rw [h] at e ⊢
  have e2 : z2 = v2 := by
    rcases h2 with q | ⟨a, xs, _, _, rfl⟩ | ⟨a, n, ks, vs, _, _, rfl⟩
    · exact q
    · rw [n2] at e; cases e
    · rw [n4] at e; cases e
  have e1 : z1 = v1 := by
    rcases h1 with q | ⟨a, xs, _, _, rfl⟩ | ⟨a, n, ks, vs, _, _, rfl⟩
    · exact q
    · rw [n1] at e; cases e
    · rw [n3] at e; cases e
  rw [e1, e2]
  exact e
theorem opv_addT : OpV addT := opv_of (fun x y => match x, y with
  | .int i, .int j => some (.int (i + j))
  | .str a, .str b => if a.length + b.length ≤ sizeLine then some (.str (a ++ b)) else none
  | .tup a, .tup b => if a.length + b.length ≤ sizeLine then some (.tup (a ++ b)) else none
  | .lst a, .lst b => if a.length + b.length ≤ sizeLine then some (.lst (a ++ b)) else none
  | _, _ => none) (fun _ _ _ => rfl) (fun _ _ => rfl) (fun _ x => by cases x <;> rfl) (fun _ _ _ _ => rfl) fun _ _ _ x => by cases x <;> rfl
theorem opv_i2 {c : Int → Int → Bool} {f : Int → Int → T} : OpV (i2 c f) := opv_flat (fun x y => i2 c f emp x y) (fun _ _ _ => rfl) (fun _ _ => rfl) (fun _ _ _ _ => rfl) (fun x _ => by cases x <;> rfl) fun _ _ _ x => by cases x <;> rfl
theorem opv_subT : OpV subT := opv_i2
theorem opv_modT : OpV modT := opv_i2
theorem opv_mulT2 : OpV mulT2 := opv_flat (fun x y => mulT2 emp x y) (fun _ _ _ => rfl) (fun _ _ => rfl) (fun _ _ _ _ => rfl) (fun x _ => by cases x <;> rfl) fun _ _ _ x => by cases x <;> rfl
theorem okd_refN (a : Addr) : okd (.ref a) = false := rfl
theorem okd_dctN (n : Bool) (ks vs : List T) : okd (.dct n ks vs) = false := rfl
theorem opv_eqT : OpV eqT := opv_of (fun x y => if (okd x && okd y) = true then some (.bl (eqt x y)) else none) (fun _ _ _ => rfl) (fun _ _ => rfl) (fun _ x => by rw [okd_refN, Bool.and_false]; rfl) (fun _ _ _ _ => rfl) fun _ _ _ x => by rw [okd_dctN, Bool.and_false]; rfl
theorem opv_neT : OpV neT := opv_of (fun x y => if (okd x && okd y) = true then some (.bl (!eqt x y)) else none) (fun _ _ _ => rfl) (fun _ _ => rfl) (fun _ x => by rw [okd_refN, Bool.and_false]; rfl) (fun _ _ _ _ => rfl) fun _ _ _ x => by rw [okd_dctN, Bool.and_false]; rfl
/-- as they are -/
def OpX' (op : Sto → T → T → Option T) : Prop := ∀ S v1 v2 r, op emp v1 v2 = some r → op S v1 v2 = some r
theorem opx_ltT : OpX' ltT := fun _ _ _ _ h => h
theorem opx_gtT : OpX' gtT := fun _ _ _ _ h => h
theorem opx_leT : OpX' leT := fun _ _ _ _ h => h
theorem opx_geT : OpX' geT := fun _ _ _ _ h => h
theorem inQ_v {S : Sto} {x y v : T} {b : Bool} (h : VwS S y v) (e : inQ emp x v = some b) : inQ S x y = some b := by
  rcases h.res with ⟨e1, e1'⟩ | ⟨a, rfl⟩ | ⟨n, ks, vs, rfl⟩
  · unfold inQ at e ⊢
    rw [e1]
    rw [e1'] at e
    exact e
  · cases e
  · cases e
theorem opv_ninT : ∀ S x y v r, VwS S y v → ninT emp x v = some r → ninT S x y = some r := fun S x y v r h e => by
  unfold ninT at e ⊢
  cases q : inQ emp x v with
  | none => rw [q] at e; cases e
  | some b => rw [inQ_v h q]; rw [q] at e; exact e
theorem opv_ixT : OpV ixT := opv_of1 (fun x y => match x, y with
  | .lst ts, .int i => L2.atI ts i
  | .tup ts, .int i => L2.atI ts i
  | .str z, .int i => if z.length ≤ sizeLine then (L2.atI z i).map fun c => .str [c] else none
  | _, _ => none) (fun _ _ _ => rfl) (fun _ _ => rfl) (fun _ _ _ _ => rfl) (fun x _ => by cases x <;> rfl) fun _ _ _ x => by cases x <;> rfl
theorem unv_negT : UnV negT := fun S z v r h e => by
  rcases h with rfl | ⟨a, xs, _, _, rfl⟩ | ⟨a, n, ks, vs, _, _, rfl⟩
  · exact e
  · cases e
  · cases e
theorem unv_ssetT : UnV ssetT := unv_of (fun x => match x with
  | .lst ts => if (setOk ts && sortOk ts) = true then some (.lst (sortU ts)) else none
  | .tup ts => if (setOk ts && sortOk ts) = true then some (.lst (sortU ts)) else none
  | _ => none) (fun _ _ => rfl) (fun _ => rfl) fun _ _ _ => rfl
theorem unv_slenT : UnV slenT := unv_of (fun x => match x with
  | .lst ts => if setOk ts = true then some (.int (dedupT ts).length) else none
  | .tup ts => if setOk ts = true then some (.int (dedupT ts).length) else none
  | _ => none) (fun _ _ => rfl) (fun _ => rfl) fun _ _ _ => rfl
theorem fnv_one {f : Sto → List T → Option T} (g : T → Option T) (h : ∀ S x, f S [x] = g (res S x)) (n0 : f emp [] = none) (n2 : ∀ x y zs, f emp (x :: y :: zs) = none) (n1 : ∀ a, g (.ref a) = none) (n3 : ∀ n ks vs, g (.dct n ks vs) = none) : FnV f := fun S zs vs r hv e => by
  cases hv with
  | nil => rw [n0] at e; cases e
  | cons h1 ht =>
    cases ht with
    | nil =>
      exact unv_of (op := fun S x => f S [x]) g h n1 n3 S _ _ r h1 e
    | cons h2 ht => rw [n2] at e; cases e
theorem fnv_lenF : FnV lenF := fnv_one (fun x => match x with
  | .lst ts => some (.int ts.length)
  | .tup ts => some (.int ts.length)
  | .str z => if z.length ≤ sizeLine then some (.int z.length) else none
  | _ => none) (fun _ _ => rfl) rfl (fun _ _ _ => rfl) (fun _ => rfl) fun _ _ _ => rfl
theorem fnv_tupleF : FnV tupleF := fnv_one (fun x => match x with
  | .lst ts => some (.tup ts)
  | .tup ts => some (.tup ts)
  | _ => none) (fun _ _ => rfl) rfl (fun _ _ _ => rfl) (fun _ => rfl) fun _ _ _ => rfl
theorem fnv_listF : FnV listF := fnv_one (fun x => match x with
  | .lst ts => some (.lst ts)
  | .tup ts => some (.lst ts)
  | _ => none) (fun _ _ => rfl) rfl (fun _ _ _ => rfl) (fun _ => rfl) fun _ _ _ => rfl
theorem fnv_sortedF : FnV sortedF := fnv_one (fun x => match x with
  | .lst ts => if (sortOk ts && decide (ts.length ≤ sizeLine)) = true then some (.lst (ts.mergeSort leT')) else none
  | .tup ts => if (sortOk ts && decide (ts.length ≤ sizeLine)) = true then some (.lst (ts.mergeSort leT')) else none
  | _ => none) (fun _ _ => rfl) rfl (fun _ _ _ => rfl) (fun _ => rfl) fun _ _ _ => rfl
/-- no views: a function of the values alone -/
def FnX' (f : Sto → List T → Option T) : Prop := ∀ S vs r, f emp vs = some r → f S vs = some r
theorem fnx_intF : FnX' intF := fun _ _ _ h => h
theorem fnx_max2F : FnX' max2F := fun _ _ _ h => h
theorem VwsS.same {S : Sto} : ∀ (vs : List T), VwsS S vs vs
  | [] => .nil
  | _ :: vs => .cons (.inl rfl) (VwsS.same vs)
theorem mtv_joinF : MtV joinF := fun S z v zs vs r h hv e => by
  have hz : z = v := by
    rcases h with q | ⟨a, xs, _, _, rfl⟩ | ⟨a, n, ks, vs, _, _, rfl⟩
    · exact q
    · cases e
    · cases e
  subst hz
  cases hv with
  | nil => cases z <;> cases e
  | cons h1 ht =>
    cases ht with
    | cons h2 ht => cases z <;> cases e
    | nil =>
      cases z with
      | str a =>
        rcases h1.res with ⟨e1, e1'⟩ | ⟨b, rfl⟩ | ⟨n, ks, vs, rfl⟩
        · unfold joinF at e ⊢
          simp only at e ⊢
          rw [e1]
          rw [e1'] at e
          exact e
        · cases e
        · cases e
      | _ => cases e
theorem dView_v {S : Sto} {z v : T} {p : List T × List T} (h : VwS S z v) (e : dView emp v = some p) : dView S z = some p := by
  rcases h with rfl | ⟨a, xs, rfl, h, rfl⟩ | ⟨a, n, ks, vs, rfl, h, rfl⟩
  · cases z with
    | ref a => cases e
    | dct n ks vs => cases n <;> exact e
    | _ => exact e
  · cases e
  · cases n with
    | false => simp only [dView, h]; exact e
    | true => cases e
theorem kyT_v {S : Sto} {z v : T} {k : Key} (h : VwS S z v) (e : kyT v = some k) : z = v := by
  rcases h with q | ⟨a, xs, _, _, rfl⟩ | ⟨a, n, ks, vs, _, _, rfl⟩
  · exact q
  · cases e
  · cases e
theorem opv_dgT : OpV dgT := fun S z1 v1 z2 v2 r h1 h2 e => by
  unfold dgT at e ⊢
  split at e
  · rename_i p k e1 e2
    rw [dView_v h1 e1, kyT_v h2 e2, e2]
    exact e
  · cases e
theorem fnv_dictF : FnV dictF := fnv_one (fun x => match x with
  | .lst ts => (mrgT ts [] []).map fun p => .dct false p.1 p.2
  | .tup ts => (mrgT ts [] []).map fun p => .dct false p.1 p.2
  | _ => none) (fun _ _ => rfl) rfl (fun _ _ _ => rfl) (fun _ => rfl) fun _ _ _ => rfl
theorem slT_v {S : Sto} {z v r : T} {lo hi : Option Int} (h : VwS S z v) (e : slT emp v lo hi = some r) : slT S z lo hi = some r := by
  rcases h.res with ⟨e1, e1'⟩ | ⟨a, rfl⟩ | ⟨n, ks, vs, rfl⟩
  · unfold slT at e ⊢
    rw [e1]
    rw [e1'] at e
    exact e
  · cases e
  · cases e
end TL
namespace TL
open PySem PySem.Spec PyProof.Rows L2
section
variable {κ : Type} {α β γ : Type}
def XE (W : κ → Sto) (p : TEnv) (l : Cs) (e : TTE) (m : PM κ T) : Prop := ∀ (Q E : T → Sto → Prop) k τ S, En p τ → SI W l k S → Sat (m k) (fun v k' => ∀ S', SI W l k' S' → Q v S') (fun x k' => ∀ S', SI W [] k' S' → E x S') → e τ S Q E
def XV (W : κ → Sto) (p : TEnv) (l : Cs) (e : TTE) (m : PM κ T) : Prop := ∀ (Q E : T → Sto → Prop) k τ S, En p τ → SI W l k S → Sat (m k) (fun v k' => ∀ z S', SI W l k' S' → Vw l z v → Q z S') (fun x k' => ∀ S', SI W [] k' S' → E x S') → e τ S Q E
def XTs (W : κ → Sto) (p : TEnv) (l : Cs) (e : TTB) (m : PM κ Bool) : Prop := ∀ (Q : Bool → Sto → Prop) (E : T → Sto → Prop) k τ S, En p τ → SI W l k S → Sat (m k) (fun v k' => ∀ S', SI W l k' S' → Q v S') (fun x k' => ∀ S', SI W [] k' S' → E x S') → e τ S Q E
def XO (W : κ → Sto) (p : TEnv) (l : Cs) (e : TTO) (m : PM κ (Option Int)) : Prop := ∀ (Q : Option Int → Sto → Prop) (E : T → Sto → Prop) k τ S, En p τ → SI W l k S → Sat (m k) (fun v k' => ∀ S', SI W l k' S' → Q v S') (fun x k' => ∀ S', SI W [] k' S' → E x S') → e τ S Q E
/-- arguments, exact or seen; in continuation form -/
def XA (W : κ → Sto) (p : TEnv) (l : Cs) (n : Nat) (a : TTA) (m : (List T → PM κ β) → PM κ β) : Prop := ∀ (K : List T → PM κ β) (P : β → κ → Prop) (X : T → κ → Prop) (Q : List T → Sto → Prop) (E : T → Sto → Prop) k τ S, En p τ → SI W l k S → Sat (m K k) P X →
  (∀ zs k' S', zs.length = n → SI W l k' S' → Sat (K zs k') P X → Q zs S') → (∀ x k' S', SI W [] k' S' → X x k' → E x S') → a τ S Q E
def XAV (W : κ → Sto) (p : TEnv) (l : Cs) (a : TTA) (m : (List T → PM κ β) → PM κ β) : Prop := ∀ (K : List T → PM κ β) (P : β → κ → Prop) (X : T → κ → Prop) (Q : List T → Sto → Prop) (E : T → Sto → Prop) k τ S, En p τ → SI W l k S → Sat (m K k) P X →
  (∀ zs vs k' S', Vws l zs vs → SI W l k' S' → Sat (K vs k') P X → Q zs S') → (∀ x k' S', SI W [] k' S' → X x k' → E x S') → a τ S Q E
/-- what is walked; y: nothing hangs on the store -/
def XI (W : κ → Sto) (p : TEnv) (l : Cs) (it : TTI) (m : PM κ (List T)) : Prop := ∀ (Q : List T → (Sto → Prop) → Sto → Prop) (E : T → Sto → Prop) k τ S, En p τ → SI W l k S → Sat (m k) (fun xs k' => ∀ S' g, SI W l k' S' → (∀ k S, SI W l k S → g S) → Q xs g S') (fun x k' => ∀ S', SI W [] k' S' → E x S') → it τ S Q E
def XIy (W : κ → Sto) (p : TEnv) (l : Cs) (it : TTI) (m : PM κ (List T)) : Prop := ∀ (Q : List T → (Sto → Prop) → Sto → Prop) (E : T → Sto → Prop) k τ S, En p τ → SI W l k S → Sat (m k) (fun xs k' => ∀ S', SI W l k' S' → Q xs yes S') (fun x k' => ∀ S', SI W [] k' S' → E x S') → it τ S Q E
variable {W : κ → Sto} {p : TEnv} {l : Cs} {e a b c : TTE} {m ma mb mc : PM κ T}
theorem XE.v (h : XE W p l e m) : XV W p l e m := fun Q E k τ S hE i s => h Q E k τ S hE i (s.mono (fun v k' q S' j => q v S' j (.inl rfl)) fun _ _ q => q)
theorem XIy.i {it : TTI} {m : PM κ (List T)} (h : XIy W p l it m) : XI W p l it m := fun Q E k τ S hE i s => h Q E k τ S hE i (s.mono (fun v k' q S' j => q S' yes j fun _ _ _ => trivial) fun _ _ q => q)
theorem xe_c {t : T} : XE W p l (cC t) (pu t) := fun Q E k τ S hE i s => s S i
theorem xe_var {i : Nat} {x : T} (h : p[i]? = some (some x)) : XE W p l (cVar i) (pu x) := fun Q E k τ S hE i s => ⟨x, hE.get h, s S i⟩
theorem xv_cell {i : Nat} {a : Addr} {xs : List T} (h : p[i]? = some (some (.ref a))) (hm : (a, Cell.lst xs) ∈ l) : XV W p l (cVar i) (pu (.lst xs)) := fun Q E k τ S hE i s => ⟨.ref a, hE.get h, s (.ref a) S i (.inr (.inl ⟨a, xs, rfl, hm, rfl⟩))⟩
theorem xv_dcell {i : Nat} {a : Addr} {n : Bool} {ks vs : List T} (h : p[i]? = some (some (.ref a))) (hm : (a, Cell.dct n ks vs) ∈ l) : XV W p l (cVar i) (pu (.dct n ks vs)) := fun Q E k τ S hE i s => ⟨.ref a, hE.get h, s (.ref a) S i (.inr (.inr ⟨a, n, ks, vs, rfl, hm, rfl⟩))⟩
theorem xe_op {op : Sto → T → T → Option T} (ho : OpV op) (ha : XV W p l a ma) (hb : XV W p l b mb) : XE W p l (cOp op a b) (bd ma fun x => bd mb fun y => ofO (op emp x y)) := fun Q E k τ S hE i s => by
  refine ha _ _ k τ S hE i ((Sat.bd.mp s).mono (fun v k1 s1 z S1 i1 w1 => ?_) fun _ _ q => q)
  refine hb _ _ k1 τ S1 hE i1 ((Sat.bd.mp s1).mono (fun v2 k2 s2 z2 S2 i2 w2 => ?_) fun _ _ q => q)
  unfold ofO at s2
  cases q : op emp v v2 with
  | none => rw [q] at s2; exact s2.elim
  | some r => rw [q] at s2; exact ⟨r, ho S2 _ _ _ _ r (w1.at i2) (w2.at i2) q, s2 S2 i2⟩
theorem xe_opx {op : Sto → T → T → Option T} (ho : OpX' op) (ha : XE W p l a ma) (hb : XE W p l b mb) : XE W p l (cOp op a b) (bd ma fun x => bd mb fun y => ofO (op emp x y)) := fun Q E k τ S hE i s => by
  refine ha _ _ k τ S hE i ((Sat.bd.mp s).mono (fun v k1 s1 S1 i1 => ?_) fun _ _ q => q)
  refine hb _ _ k1 τ S1 hE i1 ((Sat.bd.mp s1).mono (fun v2 k2 s2 S2 i2 => ?_) fun _ _ q => q)
  unfold ofO at s2
  cases q : op emp v v2 with
  | none => rw [q] at s2; exact s2.elim
  | some r => rw [q] at s2; exact ⟨r, ho S2 _ _ r q, s2 S2 i2⟩
/-- the first exact, the second seen (in, not in) -/
theorem xe_opr {op : Sto → T → T → Option T} (ho : ∀ S x y v r, VwS S y v → op emp x v = some r → op S x y = some r) (ha : XE W p l a ma) (hb : XV W p l b mb) : XE W p l (cOp op a b) (bd ma fun x => bd mb fun y => ofO (op emp x y)) := fun Q E k τ S hE i s => by
  refine ha _ _ k τ S hE i ((Sat.bd.mp s).mono (fun v k1 s1 S1 i1 => ?_) fun _ _ q => q)
  refine hb _ _ k1 τ S1 hE i1 ((Sat.bd.mp s1).mono (fun v2 k2 s2 z2 S2 i2 w2 => ?_) fun _ _ q => q)
  unfold ofO at s2
  cases q : op emp v v2 with
  | none => rw [q] at s2; exact s2.elim
  | some r => rw [q] at s2; exact ⟨r, ho S2 _ _ _ r (w2.at i2) q, s2 S2 i2⟩
theorem xe_un {op : Sto → T → Option T} (ho : UnV op) (ha : XV W p l a ma) : XE W p l (cUn op a) (bd ma fun x => ofO (op emp x)) := fun Q E k τ S hE i s => by
  refine ha _ _ k τ S hE i ((Sat.bd.mp s).mono (fun v k1 s1 z S1 i1 w1 => ?_) fun _ _ q => q)
  unfold ofO at s1
  cases q : op emp v with
  | none => rw [q] at s1; exact s1.elim
  | some r => rw [q] at s1; exact ⟨r, ho S1 _ _ r (w1.at i1) q, s1 S1 i1⟩
def tb (x : T) : PM κ Bool := match x with
  | .bl b => pu b
  | _ => stuck
theorem tb_bl {b : Bool} : tb (κ := κ) (.bl b) = pu b := rfl
theorem sat_tb {x : T} {k : κ} {P : Bool → κ → Prop} {X : T → κ → Prop} (h : Sat (tb x k) P X) : ∃ b, x = .bl b ∧ P b k := by
  cases x with
  | bl b => exact ⟨b, rfl, h⟩
  | _ => exact h.elim
theorem xb_val (ha : XE W p l a ma) : XTs W p l (bVal a) (bd ma tb) := fun Q E k τ S hE i s => by
  refine ha _ _ k τ S hE i ((Sat.bd.mp s).mono (fun v k1 s1 S1 i1 => ?_) fun _ _ q => q)
  obtain ⟨b, e, q⟩ := sat_tb s1
  exact ⟨b, e, q S1 i1⟩
variable {ca cb : TTB} {na nb : PM κ Bool}
theorem xb_and (ha : XTs W p l ca na) (hb : XTs W p l cb nb) : XTs W p l (bAnd ca cb) (bd na fun t => if t = true then nb else pu false) := fun Q E k τ S hE i s => by
  refine ha _ _ k τ S hE i ((Sat.bd.mp s).mono (fun v k1 s1 S1 i1 => ?_) fun _ _ q => q)
  cases v with
  | true => exact hb _ _ k1 τ S1 hE i1 s1
  | false => exact s1 S1 i1
theorem xe_and (ha : XE W p l a ma) (hb : XE W p l b mb) : XE W p l (cAnd a b) (bd ma fun x => bd (tb x) fun t => if t = true then mb else pu (.bl false)) := fun Q E k τ S hE i s => by
  refine ha _ _ k τ S hE i ((Sat.bd.mp s).mono (fun v k1 s1 S1 i1 => ?_) fun _ _ q => q)
  obtain ⟨t, e, q⟩ := sat_tb (Sat.bd.mp s1)
  refine ⟨t, e, ?_⟩
  cases t with
  | true => exact hb _ _ k1 τ S1 hE i1 q
  | false => exact q S1 i1
theorem xa_nil : XA (β := β) W p l 0 cNil (fun K => K []) := fun K P X Q E k τ S hE i s h _ => h [] k S rfl i s
theorem xa_cons {n : Nat} {r : TTA} {mr : (List T → PM κ β) → PM κ β} (ha : XE W p l a ma) (hr : XA W p l n r mr) : XA W p l (n + 1) (cCons a r) (fun K => bd ma fun x => mr fun xs => K (x :: xs)) := fun K P X Q E k τ S hE i s h hx => by
  refine ha _ _ k τ S hE i ((Sat.bd.mp s).mono (fun v k1 s1 S1 i1 => ?_) fun x k1 q S1 i1 => hx x k1 S1 i1 q)
  exact hr _ P X _ E k1 τ S1 hE i1 s1 (fun zs k2 S2 e i2 s2 => h (v :: zs) k2 S2 (by rw [List.length_cons, e]) i2 s2) hx
theorem xav_nil : XAV (β := β) W p l cNil (fun K => K []) := fun K P X Q E k τ S hE i s h _ => h [] [] k S .nil i s
theorem xav_cons {r : TTA} {mr : (List T → PM κ β) → PM κ β} (ha : XV W p l a ma) (hr : XAV W p l r mr) : XAV W p l (cCons a r) (fun K => bd ma fun x => mr fun xs => K (x :: xs)) := fun K P X Q E k τ S hE i s h hx => by
  refine ha _ _ k τ S hE i ((Sat.bd.mp s).mono (fun v k1 s1 z S1 i1 w1 => ?_) fun x k1 q S1 i1 => hx x k1 S1 i1 q)
  exact hr _ P X _ E k1 τ S1 hE i1 s1 (fun zs vs k2 S2 w2 i2 s2 => h (z :: zs) (v :: vs) k2 S2 (.cons w1 w2) i2 s2) hx
theorem small_line {n : Nat} (h : n ≤ 1000) : n ≤ sizeLine := by have := sizeLine_eq; omega
theorem xe_tup {n : Nat} {r : TTA} {mr : (List T → PM κ T) → PM κ T} (h : XA W p l n r mr) (hn : n ≤ 1000 := by decide) : XE W p l (cTup r) (mr fun xs => pu (.tup xs)) := fun Q E k τ S hE i s =>
  h _ _ _ _ E k τ S hE i s (fun zs k' S' e i' s' => ⟨by rw [e]; exact small_line hn, s' S' i'⟩) fun x k' S' i' q => q S' i'
theorem xe_lst {n : Nat} {r : TTA} {mr : (List T → PM κ T) → PM κ T} (h : XA W p l n r mr) (hn : n ≤ 1000 := by decide) : XE W p l (cLst r) (mr fun xs => pu (.lst xs)) := fun Q E k τ S hE i s =>
  h _ _ _ _ E k τ S hE i s (fun zs k' S' e i' s' => ⟨by rw [e]; exact small_line hn, s' S' i'⟩) fun x k' S' i' q => q S' i'
theorem xe_fn {g : Sto → List T → Option T} {r : TTA} {mr : (List T → PM κ T) → PM κ T} (hg : FnV g) (h : XAV W p l r mr) : XE W p l (cFn g r) (mr fun xs => ofO (g emp xs)) := fun Q E k τ S hE i s =>
  h _ _ _ _ E k τ S hE i s (fun zs vs k' S' w i' s' => by
    unfold ofO at s'
    cases q : g emp vs with
    | none => rw [q] at s'; exact s'.elim
    | some r => rw [q] at s'; exact ⟨r, hg S' _ _ r (w.at i') q, s' S' i'⟩) fun x k' S' i' q => q S' i'
theorem xe_fnx {g : Sto → List T → Option T} {r : TTA} {n : Nat} {mr : (List T → PM κ T) → PM κ T} (hg : FnX' g) (h : XA W p l n r mr) : XE W p l (cFn g r) (mr fun xs => ofO (g emp xs)) := fun Q E k τ S hE i s =>
  h _ _ _ _ E k τ S hE i s (fun zs k' S' e i' s' => by
    unfold ofO at s'
    cases q : g emp zs with
    | none => rw [q] at s'; exact s'.elim
    | some r => rw [q] at s'; exact ⟨r, hg S' _ r q, s' S' i'⟩) fun x k' S' i' q => q S' i'
/-- methods of texts and tuples -/
theorem xe_m {kk : T → Bool} {f : Sto → T → List T → Option T} {r : TTA} {mr : T → (List T → PM κ T) → PM κ T} (hf : MtV f) (ha : XE W p l a ma) (h : ∀ x, XAV W p l r (mr x)) :
    XE W p l (cM kk f a r) (bd ma fun x => bd (gd (kk x = true)) fun _ => mr x fun xs => ofO (f emp x xs)) := fun Q E k τ S hE i s => by
  refine ha _ _ k τ S hE i ((Sat.bd.mp s).mono (fun v k1 s1 S1 i1 => ?_) fun _ _ q => q)
  have s2 := Sat.bd.mp s1
  unfold gd at s2
  by_cases hk : kk v = true
  · rw [if_pos hk] at s2
    refine ⟨hk, h v _ _ _ _ E k1 τ S1 hE i1 s2 (fun zs vs k' S' w i' s' => ?_) fun x k' S' i' q => q S' i'⟩
    unfold ofO at s'
    cases q : f emp v vs with
    | none => rw [q] at s'; exact s'.elim
    | some r => rw [q] at s'; exact ⟨r, hf S' _ _ _ _ r (.inl rfl) (w.at i') q, s' S' i'⟩
  · rw [if_neg hk] at s2; exact s2.elim
def intO (x : T) : PM κ Int := match x with
  | .int i => pu i
  | _ => stuck
theorem intO_int {i : Int} : intO (κ := κ) (.int i) = pu i := rfl
theorem xo_no : XO W p l oNo (pu none) := fun Q E k τ S hE i s => s S i
theorem xo_some (ha : XE W p l a ma) : XO W p l (oSome a) (bd ma fun x => bd (intO x) fun i => pu (some i)) := fun Q E k τ S hE i s => by
  refine ha _ _ k τ S hE i ((Sat.bd.mp s).mono (fun v k1 s1 S1 i1 => ?_) fun _ _ q => q)
  cases v with
  | int j => exact ⟨j, rfl, s1 S1 i1⟩
  | _ => exact s1.elim
theorem xe_sl {lo hi : TTO} {ml mh : PM κ (Option Int)} (ha : XV W p l a ma) (hl : XO W p l lo ml) (hh : XO W p l hi mh) : XE W p l (cSl a lo hi) (bd ma fun x => bd ml fun i => bd mh fun j => ofO (slT emp x i j)) := fun Q E k τ S hE i s => by
  refine ha _ _ k τ S hE i ((Sat.bd.mp s).mono (fun v k1 s1 z S1 i1 w1 => ?_) fun _ _ q => q)
  refine hl _ _ k1 τ S1 hE i1 ((Sat.bd.mp s1).mono (fun v2 k2 s2 S2 i2 => ?_) fun _ _ q => q)
  refine hh _ _ k2 τ S2 hE i2 ((Sat.bd.mp s2).mono (fun v3 k3 s3 S3 i3 => ?_) fun _ _ q => q)
  unfold ofO at s3
  cases q : slT emp v v2 v3 with
  | none => rw [q] at s3; exact s3.elim
  | some r => rw [q] at s3; exact ⟨r, slT_v (w1.at i3) q, s3 S3 i3⟩
def itemsM (v : T) : PM κ (List T) := match v with
  | .tup xs => pu xs
  | .lst xs => pu xs
  | .str x => pu (x.map fun c => .str [c])
  | _ => stuck
theorem itemsM_tup {xs : List T} : itemsM (κ := κ) (.tup xs) = pu xs := rfl
theorem itemsM_lst {xs : List T} : itemsM (κ := κ) (.lst xs) = pu xs := rfl
theorem itemsM_str {x : List Sg} : itemsM (κ := κ) (.str x) = pu (x.map fun c => .str [c]) := rfl
theorem xiy_seq (ha : XE W p l a ma) : XIy W p l (iSeq a) (bd ma itemsM) := fun Q E k τ S hE i s => by
  refine ha _ _ k τ S hE i ((Sat.bd.mp s).mono (fun v k1 s1 S1 i1 => ?_) fun _ _ q => q)
  cases v with
  | tup xs => exact ⟨_, rfl, s1 S1 i1⟩
  | lst xs => exact ⟨_, rfl, s1 S1 i1⟩
  | str xs => exact ⟨_, rfl, s1 S1 i1⟩
  | _ => exact s1.elim
theorem xi_cell {i : Nat} {a : Addr} {xs : List T} (h : p[i]? = some (some (.ref a))) (hm : (a, Cell.lst xs) ∈ l) : XI W p l (iSeq (cVar i)) (pu xs) := fun Q E k τ S hE i s => by
  refine ⟨.ref a, hE.get h, (xs, fun S' => S' a = some (.lst xs)), ?_, s S _ i fun k S' i' => i'.at_ _ hm⟩
  simp only [items, i.at_ _ hm]
def rng1 (x : T) : PM κ (List T) := match x with
  | .int j => bd (gd (-(2 ^ 62) ≤ j ∧ j < 2 ^ 62)) fun _ => pu ((List.range j.toNat).map fun i => T.int (0 + (i : Nat)))
  | _ => stuck
def rng2 (x y : T) : PM κ (List T) := match x, y with
  | .int i, .int j => bd (gd (-(2 ^ 62) ≤ i ∧ i < 2 ^ 62 ∧ -(2 ^ 62) ≤ j ∧ j < 2 ^ 62)) fun _ => pu ((List.range (j - i).toNat).map fun k => T.int (i + (k : Nat)))
  | _, _ => stuck
theorem rng1_int {j : Int} (h : -(2 ^ 62) ≤ j ∧ j < 2 ^ 62) : rng1 (κ := κ) (.int j) = pu ((List.range j.toNat).map fun i => T.int (0 + (i : Nat))) := by
  show bd (gd _) _ = _
  rw [gd_true h]; rfl
theorem rng2_int {i j : Int} (h : -(2 ^ 62) ≤ i ∧ i < 2 ^ 62 ∧ -(2 ^ 62) ≤ j ∧ j < 2 ^ 62) : rng2 (κ := κ) (.int i) (.int j) = pu ((List.range (j - i).toNat).map fun k => T.int (i + (k : Nat))) := by
  show bd (gd _) _ = _
  rw [gd_true h]; rfl
theorem sat_gd {b : Prop} [Decidable b] {k : κ} {P : Unit → κ → Prop} {X : T → κ → Prop} (h : Sat (gd b k) P X) : b ∧ P () k := by
  unfold gd at h
  split at h
  · exact ⟨by assumption, h⟩
  · exact h.elim
theorem xiy_range1 (ha : XE W p l a ma) : XIy W p l (iRange1 a) (bd ma rng1) := fun Q E k τ S hE i s => by
  refine ha _ _ k τ S hE i ((Sat.bd.mp s).mono (fun v k1 s1 S1 i1 => ?_) fun _ _ q => q)
  cases v with
  | int j =>
    obtain ⟨hb, q⟩ := sat_gd (Sat.bd.mp s1)
    exact ⟨j, rfl, hb.1, hb.2, q S1 i1⟩
  | _ => exact s1.elim
theorem xiy_range2 (ha : XE W p l a ma) (hb : XE W p l b mb) : XIy W p l (iRange2 a b) (bd ma fun x => bd mb fun y => rng2 x y) := fun Q E k τ S hE i s => by
  refine ha _ _ k τ S hE i ((Sat.bd.mp s).mono (fun v k1 s1 S1 i1 => ?_) fun _ _ q => q)
  refine hb _ _ k1 τ S1 hE i1 ((Sat.bd.mp s1).mono (fun v2 k2 s2 S2 i2 => ?_) fun _ _ q => q)
  cases v with
  | int j =>
    cases v2 with
    | int j2 =>
      obtain ⟨hb, q⟩ := sat_gd (Sat.bd.mp s2)
      exact ⟨j, j2, rfl, rfl, hb, q S2 i2⟩
    | _ => exact s2.elim
  | _ => exact s2.elim
def enumM (v : T) : PM κ (List T) := match rowOf v with
  | some ts => pu (enumL ts)
  | none => stuck
theorem xiy_enum (ha : XE W p l a ma) : XIy W p l (iEnum a) (bd ma enumM) := fun Q E k τ S hE i s => by
  refine ha _ _ k τ S hE i ((Sat.bd.mp s).mono (fun v k1 s1 S1 i1 => ?_) fun _ _ q => q)
  unfold enumM at s1
  cases q : rowOf v with
  | none => simp only [q] at s1; exact s1.elim
  | some ts => simp only [q] at s1; exact ⟨ts, rfl, s1 S1 i1⟩
def spU (f : List T → PM Unit T) : SpT := fun ts S Q E => Sat (f ts ()) (fun v _ => Q v S) (fun x _ => E x S)
def spP (f : List T → PM Cell T) : SpT := fun ts S Q E => ∃ p rest c, ts = .ref p :: rest ∧ S p = some c ∧ Sat (f rest c) (fun v c' => Q v (ups S p c')) (fun x c' => E x (ups S p c'))
theorem xe_call {n : Nat} {f : List T → PM Unit T} {r : TTA} {mr : (List T → PM κ T) → PM κ T} (h : XA W p l n r mr) : XE W p l (cCall (spU f) r) (mr fun xs => lft (f xs)) := fun Q E k τ S hE i s =>
  h _ _ _ _ E k τ S hE i s (fun zs k' S' e i' s' => (Sat.lft.mp s').mono (fun v _ q => q S' i') fun x _ q => q S' i'.nil) fun x k' S' i' q => q S' i'
/-- by the pen -/
abbrev penW (S0 : Sto) (a : Addr) : Cell → Sto := fun c => ups S0 a c
theorem SI.pen {S0 : Sto} {a : Addr} {c d : Cell} {S : Sto} (i : SI (penW S0 a) l c S) : SI (penW S0 a) l d (ups S a d) := by
  have ne : ∀ e ∈ l, e.1 ≠ a := fun e h z => by
    have := i.own e h
    rw [z] at this
    rw [show penW S0 a c a = some c from ups_same] at this
    cases this
  refine ⟨fun e h => by rw [ups_ne (ne e h)]; exact i.at_ e h, fun e h => ?_, i.nd, fun b q h => ?_⟩
  · have := i.own e h
    rw [show penW S0 a c e.1 = S0 e.1 from ups_ne (ne e h)] at this
    rw [show penW S0 a d e.1 = S0 e.1 from ups_ne (ne e h)]
    exact this
  · by_cases hb : b = a
    · subst hb
      rw [show penW S0 b d b = some d from ups_same] at h
      cases h
      exact ups_same
    · rw [show penW S0 a d b = S0 b from ups_ne hb] at h
      rw [ups_ne hb]
      exact i.base b q (by rw [show penW S0 a c b = S0 b from ups_ne hb]; exact h)
end
section
variable {S0 : Sto} {pa : Addr} {p : TEnv} {l : Cs}
theorem xe_callP {n : Nat} {f : List T → PM Cell T} {i : Nat} {r : TTA} {mr : (List T → PM Cell T) → PM Cell T} (hp : p[i]? = some (some (.ref pa))) (h : XA (penW S0 pa) p l n r mr) : XE (penW S0 pa) p l (cCall (spP f) (cCons (cVar i) r)) (mr f) := fun Q E k τ S hE i s => by
  refine ⟨.ref pa, hE.get hp, ?_⟩
  refine h _ _ _ _ E k τ S hE i s (fun zs k' S' e i' s' => ?_) fun x k' S' i' q => q S' i'
  exact ⟨pa, zs, k', rfl, i'.base pa k' ups_same, s'.mono (fun v c' q => q _ i'.pen) fun x c' q => q _ i'.pen.nil⟩
end
end TL
namespace TL
open PySem PySem.Spec PyProof.Rows L2
def FzE (S S2 : Sto) (τ τ2 : TEnv) : Prop := τ.length = τ2.length ∧ ∀ (i : Nat) (u : T), τ2[i]? = some (some u) → ∃ t, τ[i]? = some (some t) ∧ Fz S S2 t u
def cDrop (t : TTS) : TTS := fun D τ S E => ∃ τ2 S2, Sub S2 S ∧ FzE S S2 τ τ2 ∧ t D τ2 S2 E
theorem tss_drop {X : Cx} {rest : List Stmt} {t : TTS} (h : TSs X rest t) : TSs X rest (cDrop t) := fun M S0 H0 E tk =>
  (h M S0 H0 E tk).weak fun D σ H ⟨τ, S, B, rel, ⟨τ2, S2, sub, fz, q⟩, k1, k2, k3, k4⟩ =>
    have x := sub.ext (H := H)
    ⟨τ2, S2, B, ⟨⟨rel.env.1.trans fz.1, fun i u e => by
      obtain ⟨t, e1, f⟩ := fz.2 i u e
      obtain ⟨v, h1, h2⟩ := rel.env.2 i t e1
      exact ⟨v, h1, Fz.rep rel.sto sub f h2⟩⟩, rel.sto.drop sub, rel.ext.trans x⟩, q, fun σ' H' τ' S' r x' => k1 σ' H' τ' S' r (x.trans x'), fun z S' v H' o x' => k2 z S' v H' o (x.trans x'),
      fun σ' H' τ' S' r x' => k3 σ' H' τ' S' r (x.trans x'), fun σ' H' τ' S' r x' => k4 σ' H' τ' S' r (x.trans x')⟩

inductive Dest where
  | nx (p : TEnv) (l : Cs)
  | rt (v : T)
  | bk (p : TEnv) (l : Cs)
  | ct (p : TEnv) (l : Cs)
  | fin
section
variable {κ : Type} {α β γ σ : Type}
def DOk (W : κ → Sto) (D : TD) (k : κ) : Dest → Prop
  | .nx p l => ∀ τ S, En p τ → SI W l k S → D.nx τ S
  | .rt v => ∀ l z S, SI W l k S → Vw l z v → D.rt z S
  | .bk p l => ∀ τ S, En p τ → SI W l k S → D.bk τ S
  | .ct p l => ∀ τ S, En p τ → SI W l k S → D.ct τ S
  | .fin => ∀ τ l S, SI W l k S → D.nx τ S
def XS (W : κ → Sto) (p : TEnv) (l : Cs) (t : TTS) (m : PM κ β) (post : β → Dest) : Prop := ∀ (D : TD) (E : T → TEnv → Sto → Prop) k τ S, En p τ → SI W l k S →
  Sat (m k) (fun b k' => DOk W D k' (post b)) (fun x k' => ∀ τ' S', SI W [] k' S' → E x τ' S') → t D τ S E
/-- a target, a body -/
def XF (W : κ → Sto) (p : TEnv) (l : Cs) (g : TTG) (t : TTS) (m : PM κ β) (post : β → Dest) (z : T) : Prop := ∀ (D : TD) (E : T → TEnv → Sto → Prop) k τ S, En p τ → SI W l k S →
  Sat (m k) (fun b k' => DOk W D k' (post b)) (fun x k' => ∀ τ' S', SI W [] k' S' → E x τ' S') → g z τ S fun τ1 S1 => t D τ1 S1 E
/-- a comprehension's turn -/
def XCi (W : κ → Sto) (p : TEnv) (l : Cs) (g : TTG) (c : TTB) (e : TTE) (m : PM κ (Option T)) (z : T) : Prop := ∀ (R : T → Sto → Prop) (N : Sto → Prop) k τ S, En p τ → SI W l k S →
  Sat (m k) (fun o k' => ∀ S', SI W l k' S' → match o with | some y => R y S' | none => N S') (fun _ _ => False) → g z τ S fun τ1 S1 => c τ1 S1 (fun b S2 => if b = true then e τ1 S2 R (fun _ _ => False) else N S2) fun _ _ => False
def XGt (g : TTG) (p : TEnv) (u : T → Option β) (pf : β → TEnv) : Prop := ∀ z b τ S Q, u z = some b → En p τ → (∀ τ', En (pf b) τ' → Q τ' S) → g z τ S Q
def un2 : T → Option (T × T)
  | .tup [a, b] => some (a, b)
  | _ => none
def un3 : T → Option (T × T × T)
  | .tup [a, b, c] => some (a, b, c)
  | _ => none
def un4 : T → Option (T × T × T × T)
  | .tup [a, b, c, d] => some (a, b, c, d)
  | _ => none
theorem un2_tup {a b : T} : un2 (.tup [a, b]) = some (a, b) := rfl
theorem un3_tup {a b c : T} : un3 (.tup [a, b, c]) = some (a, b, c) := rfl
theorem un4_tup {a b c d : T} : un4 (.tup [a, b, c, d]) = some (a, b, c, d) := rfl
theorem un2_is {z : T} {b : T × T} (h : un2 z = some b) : z = .tup [b.1, b.2] := by
  unfold un2 at h
  split at h
  · cases h; rfl
  · cases h
theorem un3_is {z : T} {b : T × T × T} (h : un3 z = some b) : z = .tup [b.1, b.2.1, b.2.2] := by
  unfold un3 at h
  split at h
  · cases h; rfl
  · cases h
theorem un4_is {z : T} {b : T × T × T × T} (h : un4 z = some b) : z = .tup [b.1, b.2.1, b.2.2.1, b.2.2.2] := by
  unfold un4 at h
  split at h
  · cases h; rfl
  · cases h
variable {W : κ → Sto} {p : TEnv} {l : Cs}
theorem xg_2 {i j : Nat} : XGt (gT (gC (gN i) (gC (gN j) gZ))) p un2 (fun b => (p.set i (some b.1)).set j (some b.2)) := fun z b τ S Q e h q => by
  rw [un2_is e]
  exact ⟨_, rfl, _, _, rfl, _, _, rfl, rfl, q _ h.set.set⟩
theorem xg_3 {i j k : Nat} : XGt (gT (gC (gN i) (gC (gN j) (gC (gN k) gZ)))) p un3 (fun b => ((p.set i (some b.1)).set j (some b.2.1)).set k (some b.2.2)) := fun z b τ S Q e h q => by
  rw [un3_is e]
  exact ⟨_, rfl, _, _, rfl, _, _, rfl, _, _, rfl, rfl, q _ h.set.set.set⟩
theorem xg_4 {i j k n : Nat} : XGt (gT (gC (gN i) (gC (gN j) (gC (gN k) (gC (gN n) gZ))))) p un4 (fun b => (((p.set i (some b.1)).set j (some b.2.1)).set k (some b.2.2.1)).set n (some b.2.2.2)) := fun z b τ S Q e h q => by
  rw [un4_is e]
  exact ⟨_, rfl, _, _, rfl, _, _, rfl, _, _, rfl, _, _, rfl, rfl, q _ h.set.set.set.set⟩
theorem sat_ofO {o : Option α} {k : κ} {P : α → κ → Prop} {X : T → κ → Prop} (h : Sat (ofO o k) P X) : ∃ a, o = some a ∧ P a k := by
  cases o with
  | none => exact h.elim
  | some a => exact ⟨a, rfl, h⟩
theorem xf_name {i : Nat} {t : TTS} {m : PM κ β} {post : β → Dest} {z : T} (h : XS W (p.set i (some z)) l t m post) : XF W p l (gN i) t m post z := fun D E k τ S hE i s => h D E k _ S hE.set i s
theorem xf_un {δ : Type} {g : TTG} {t : TTS} {u : T → Option δ} {pf : δ → TEnv} {f : δ → PM κ β} {post : β → Dest} {z : T} (hg : XGt g p u pf) (h : ∀ b, XS W (pf b) l t (f b) post) : XF W p l g t (bd (ofO (u z)) f) post z := fun D E k τ S hE i s => by
  obtain ⟨b, e, s1⟩ := sat_ofO (Sat.bd.mp s)
  exact hg z b τ S _ e hE fun τ' hE' => h b D E k τ' S hE' i s1
/-- nothing is raised -/
def nox (m : PM κ α) : PM κ α := fun k => match m k with
  | .ok a k' => .ok a k'
  | _ => .bad
theorem nox_pu {a : α} : nox (κ := κ) (pu a) = pu a := rfl
theorem sat_nox {m : PM κ α} {k : κ} {P : α → κ → Prop} {X : T → κ → Prop} (h : Sat (nox m k) P X) : Sat (m k) P (fun _ _ => False) := by
  unfold nox at h
  cases q : m k with
  | ok a k' => rw [q] at h; exact h
  | exc x k' => rw [q] at h; exact h
  | bad => rw [q] at h; exact h
def compM (f : T → PM κ (Option T)) : List T → PM κ (List T)
  | [] => pu []
  | x :: xs => bd (nox (f x)) fun o => bd (compM f xs) fun ys => pu (o.toList ++ ys)
def compG (f : T → PM κ (Option T)) (xs : List T) : PM κ (List T) := bd (gd (xs.length ≤ sizeLine)) fun _ => compM f xs
section
variable {g : TTG} {c : TTB} {e : TTE} {own : List Nat} {it : TTI} {mi : PM κ (List T)} {f : T → PM κ (Option T)}
theorem comp_run {gd : Sto → Prop} (hgd : ∀ k S, SI W l k S → gd S) (hf : ∀ x, XCi W (wipeT p own) l g c e (f x) x) {K : List T → Sto → Prop} {X : T → κ → Prop} {τ : TEnv} (hE : En p τ) : ∀ (xs acc : List T) (k : κ) (S : Sto), SI W l k S → acc.length + xs.length ≤ sizeLine →
    Sat (compM f xs k) (fun ys k' => ∀ S', SI W l k' S' → K (acc ++ ys) S') X → compT g c e own gd τ K xs acc S
  | [], acc, k, S, i, _, s => ⟨hgd _ _ i, by simpa using s S i⟩
  | x :: xs, acc, k, S, i, hl, s => by
    rw [List.length_cons] at hl
    refine ⟨hgd _ _ i, hf x _ _ k _ S (hE.wipe own) i ((sat_nox (Sat.bd.mp s)).mono (fun o k1 s1 S1 i1 => ?_) fun _ _ q => q)⟩
    have s2 := Sat.bd.mp s1
    cases o with
    | none => exact comp_run hgd hf hE xs acc k1 S1 i1 (by omega) (X := X) (s2.mono (fun ys k2 q S' i' => q S' i') fun _ _ q => q)
    | some y => exact ⟨by omega, comp_run hgd hf hE xs (acc ++ [y]) k1 S1 i1 (by simp; omega) (X := X) (s2.mono (fun ys k2 q S' i' => by
        have q := q S' i'
        simpa using q) fun _ _ q => q)⟩
theorem xe_comp (hi : XI W p l it mi) (hf : ∀ x, XCi W (wipeT p own) l g c e (f x) x) : XE W p l (cComp it g c e own) (bd mi fun xs => bd (compG f xs) fun ys => pu (.lst ys)) := fun Q E k τ S hE i s => by
  refine hi _ _ k τ S hE i ((Sat.bd.mp s).mono (fun xs k1 s1 S1 gd i1 hgd => ?_) fun _ _ q => q)
  have s2 := Sat.bd.mp s1
  obtain ⟨hl, s3⟩ := sat_gd (Sat.bd.mp s2)
  exact comp_run hgd hf hE xs [] k1 S1 i1 (by simpa using hl) s3
theorem xc_name {i : Nat} {mc : PM κ Bool} {me : PM κ T} {z : T} (hc : XTs W (p.set i (some z)) l c mc) (he : XE W (p.set i (some z)) l e me) : XCi W p l (gN i) c e (bd mc fun t => if t = true then bd me fun y => pu (some y) else pu none) z := fun R N k τ S hE i s => by
  refine hc _ _ k _ S hE.set i ((Sat.bd.mp s).mono (fun b k1 s1 S1 i1 => ?_) fun _ _ q => q.elim)
  cases b with
  | true => exact he _ _ k1 _ S1 hE.set i1 ((Sat.bd.mp s1).mono (fun v k2 s2 S2 i2 => s2 S2 i2) fun _ _ q => q.elim)
  | false => exact s1 S1 i1
theorem xc_nameY {i : Nat} {me : PM κ T} {z : T} (he : XE W (p.set i (some z)) l e me) : XCi W p l (gN i) bYes e (bd me fun y => pu (some y)) z := fun R N k τ S hE i s =>
  he _ _ k _ S hE.set i ((Sat.bd.mp s).mono (fun v k2 s2 S2 i2 => s2 S2 i2) fun _ _ q => q.elim)
theorem xc_un {δ : Type} {u : T → Option δ} {pf : δ → TEnv} {mc : δ → PM κ Bool} {me : δ → PM κ T} {z : T} (hg : XGt g p u pf) (hc : ∀ b, XTs W (pf b) l c (mc b)) (he : ∀ b, XE W (pf b) l e (me b)) : XCi W p l g c e (bd (ofO (u z)) fun b => bd (mc b) fun t => if t = true then bd (me b) fun y => pu (some y) else pu none) z := fun R N k τ S hE i s => by
  obtain ⟨b, e, s⟩ := sat_ofO (Sat.bd.mp s)
  refine hg z b τ S _ e hE fun τ' hE' => ?_
  refine hc b _ _ k _ S hE' i ((Sat.bd.mp s).mono (fun d k1 s1 S1 i1 => ?_) fun _ _ q => q.elim)
  cases d with
  | true => exact he b _ _ k1 _ S1 hE' i1 ((Sat.bd.mp s1).mono (fun v k2 s2 S2 i2 => s2 S2 i2) fun _ _ q => q.elim)
  | false => exact s1 S1 i1
theorem xc_unY {δ : Type} {u : T → Option δ} {pf : δ → TEnv} {me : δ → PM κ T} {z : T} (hg : XGt g p u pf) (he : ∀ b, XE W (pf b) l e (me b)) : XCi W p l g bYes e (bd (ofO (u z)) fun b => bd (me b) fun y => pu (some y)) z := fun R N k τ S hE i s => by
  obtain ⟨b, e, s⟩ := sat_ofO (Sat.bd.mp s)
  refine hg z b τ S _ e hE fun τ' hE' => ?_
  exact he b _ _ k _ S hE' i ((Sat.bd.mp s).mono (fun v k2 s2 S2 i2 => s2 S2 i2) fun _ _ q => q.elim)
end
def XN (W : κ → Sto) (p : TEnv) (l : Cs) (e : TTE) (m : PM κ α) (z : α → Addr → T) (cc : α → Addr → Cs) : Prop := ∀ (Q E : T → Sto → Prop) k τ S, En p τ → SI W l k S → Sat (m k) (fun v k' => ∀ S' a, SI W (cc v a ++ l) k' S' → Q (z v a) S') (fun x k' => ∀ S', SI W [] k' S' → E x S') → e τ S Q E
theorem xn_lst {n : Nat} {r : TTA} {mr : (List T → PM κ (List T)) → PM κ (List T)} (h : XA W p l n r mr) (hn : n ≤ 1000 := by decide) : XN W p l (cLstM r) (mr fun xs => pu xs) (fun _ a => .ref a) (fun xs a => [(a, .lst xs)]) := fun Q E k τ S hE i s =>
  h _ _ _ _ E k τ S hE i s (fun zs k' S' e i' s' => ⟨by rw [e]; exact small_line hn, fun a na => s' _ a (i'.new na)⟩) fun x k' S' i' q => q S' i'
variable {t u : TTS} {post : β → Dest} {e : TTE} {m : PM κ T}
theorem xs_assoc {t1 t2 : TTS} {m : PM κ β} (h : XS W p l (cSeq t1 (cSeq t2 u)) m post) : XS W p l (cSeq (cSeq t1 t2) u) m post := h
theorem xs_skipseq {m : PM κ β} (h : XS W p l u m post) : XS W p l (cSeq cSkip u) m post := h
theorem xs_skip {b : β} {p' : TEnv} (hp : post b = .nx p' l) (h : En p' p) : XS W p l cSkip (pu b) post := fun D E k τ S hE i s => by
  have s : DOk W D k (post b) := s
  rw [hp] at s
  exact s τ S (h.trans hE) i
theorem xs_end {b : β} (hp : post b = .fin) : XS W p l cSkip (pu b) post := fun D E k τ S hE i s => by
  have s : DOk W D k (post b) := s
  rw [hp] at s
  exact s τ l S i
theorem xs_ret {g : T → β} (hp : ∀ v, post (g v) = .rt v) (h : XV W p l e m) : XS W p l (cSeq (cRet e) u) (bd m fun v => pu (g v)) post := fun D E k τ S hE i s =>
  h _ _ k τ S hE i ((Sat.bd.mp s).mono (fun v k1 s1 z S1 i1 w1 => by
    have s1 : DOk W D k1 (post (g v)) := s1
    rw [hp] at s1
    exact s1 l z S1 i1 w1) fun x k1 q S1 i1 => q τ S1 i1)
theorem xs_set {i : Nat} {f : T → PM κ β} (he : XE W p l e m) (h : ∀ v, XS W (p.set i (some v)) l u (f v) post) : XS W p l (cSeq (cSet i e) u) (bd m f) post := fun D E k τ S hE j s =>
  he _ _ k τ S hE j ((Sat.bd.mp s).mono (fun v k1 s1 S1 i1 => h v D E k1 _ S1 hE.set i1 s1) fun x k1 q S1 i1 => q τ S1 i1)
theorem xs_new {i : Nat} {m : PM κ α} {z : α → Addr → T} {cc : α → Addr → Cs} {f : α → PM κ β} (he : XN W p l e m z cc) (h : ∀ v a, XS W (p.set i (some (z v a))) (cc v a ++ l) u (f v) post) : XS W p l (cSeq (cSet i e) u) (bd m f) post := fun D E k τ S hE j s =>
  he _ _ k τ S hE j ((Sat.bd.mp s).mono (fun v k1 s1 S1 a i1 => h v a D E k1 _ S1 hE.set i1 s1) fun x k1 q S1 i1 => q τ S1 i1)
theorem xs_asg {δ : Type} {g : TTG} {un : T → Option δ} {pf : δ → TEnv} {f : δ → PM κ β} (he : XE W p l e m) (hg : XGt g p un pf) (h : ∀ b, XS W (pf b) l u (f b) post) : XS W p l (cSeq (cAsg e g) u) (bd m fun z => bd (ofO (un z)) f) post := fun D E k τ S hE j s =>
  he _ _ k τ S hE j ((Sat.bd.mp s).mono (fun v k1 s1 S1 i1 => by
    obtain ⟨b, e1, s2⟩ := sat_ofO (Sat.bd.mp s1)
    exact hg v b τ S1 _ e1 hE fun τ' hE' => h b D E k1 τ' S1 hE' i1 s2) fun x k1 q S1 i1 => q τ S1 i1)
theorem xs_par3 {α1 α2 α3 : Type} {i j n : Nat} {ea eb ec : TTE} {ma : PM κ α1} {mb : PM κ α2} {mc : PM κ α3} {z1 : α1 → Addr → T} {c1 : α1 → Addr → Cs} {z2 : α2 → Addr → T} {c2 : α2 → Addr → Cs} {z3 : α3 → Addr → T} {c3 : α3 → Addr → Cs} {f : α1 → α2 → α3 → PM κ β}
    (ha : XN W p l ea ma z1 c1) (hb : ∀ v a, XN W p (c1 v a ++ l) eb mb z2 c2) (hc : ∀ v a w b, XN W p (c2 w b ++ (c1 v a ++ l)) ec mc z3 c3)
    (h : ∀ v a w b x d, XS W (((p.set i (some (z1 v a))).set j (some (z2 w b))).set n (some (z3 x d))) (c3 x d ++ (c2 w b ++ (c1 v a ++ l))) u (f v w x) post) : XS W p l (cSeq (cPar3 i j n ea eb ec) u) (bd ma fun x => bd mb fun y => bd mc fun z => f x y z) post := fun D E k τ S hE _ s => by
  refine ha _ _ k τ S hE (by assumption) ((Sat.bd.mp s).mono (fun v k1 s1 S1 a i1 => ?_) fun x k1 q S1 i1 => q τ S1 i1)
  refine hb v a _ _ k1 τ S1 hE i1 ((Sat.bd.mp s1).mono (fun w k2 s2 S2 b i2 => ?_) fun x k1 q S1 i1 => q τ S1 i1)
  refine hc v a w b _ _ k2 τ S2 hE i2 ((Sat.bd.mp s2).mono (fun x k3 s3 S3 d i3 => ?_) fun x k1 q S1 i1 => q τ S1 i1)
  exact h v a w b x d D E k3 _ S3 hE.set.set.set i3 s3
theorem xs_do {f : PM κ β} (he : XE W p l e m) (h : XS W p l u f post) : XS W p l (cSeq (cDo e) u) (bd m fun _ => f) post := fun D E k τ S hE j s =>
  he _ _ k τ S hE j ((Sat.bd.mp s).mono (fun v k1 s1 S1 i1 => h D E k1 _ S1 hE i1 s1) fun x k1 q S1 i1 => q τ S1 i1)
def appM (xs : List T) (y : T) : PM κ (List T) := bd (gd (xs.length < sizeLine)) fun _ => pu (xs ++ [y])
def extM (xs : List T) (y : T) : PM κ (List T) := match y with
  | .lst zs => bd (gd (xs.length + zs.length ≤ sizeLine)) fun _ => pu (xs ++ zs)
  | .tup zs => bd (gd (xs.length + zs.length ≤ sizeLine)) fun _ => pu (xs ++ zs)
  | _ => stuck
theorem xs_app {i : Nat} {a : Addr} {xs : List T} {l1 l2 : Cs} {f : List T → PM κ β} (hp : p[i]? = some (some (.ref a))) (he : XE W p (l1 ++ (a, .lst xs) :: l2) e m) (h : ∀ ys, XS W p (l1 ++ (a, .lst ys) :: l2) u (f ys) post) :
    XS W p (l1 ++ (a, .lst xs) :: l2) (cSeq (cDo (cApp (cVar i) e)) u) (bd m fun y => bd (appM xs y) f) post := fun D E k τ S hE j s => by
  refine ⟨.ref a, hE.get hp, a, xs, rfl, j.at_ (a, .lst xs) (by simp), ?_⟩
  refine he _ _ k τ S hE j ((Sat.bd.mp s).mono (fun v k1 s1 S1 i1 => ?_) fun x k1 q S1 i1 => q τ S1 i1)
  obtain ⟨hl, s2⟩ := sat_gd (Sat.bd.mp (Sat.bd.mp s1))
  exact ⟨xs, i1.at_ (a, .lst xs) (by simp), hl, h _ D E k1 τ _ hE i1.put s2⟩
theorem xs_ext {i : Nat} {a : Addr} {xs : List T} {l1 l2 : Cs} {f : List T → PM κ β} (hp : p[i]? = some (some (.ref a))) (he : XV W p (l1 ++ (a, .lst xs) :: l2) e m) (h : ∀ ys, XS W p (l1 ++ (a, .lst ys) :: l2) u (f ys) post) :
    XS W p (l1 ++ (a, .lst xs) :: l2) (cSeq (cDo (cExt (cVar i) e)) u) (bd m fun y => bd (extM xs y) f) post := fun D E k τ S hE j s => by
  refine ⟨.ref a, hE.get hp, a, xs, rfl, j.at_ (a, .lst xs) (by simp), ?_⟩
  refine he _ _ k τ S hE j ((Sat.bd.mp s).mono (fun v k1 s1 z S1 i1 w1 => ?_) fun x k1 q S1 i1 => q τ S1 i1)
  have s2 := Sat.bd.mp s1
  cases v with
  | lst zs =>
    obtain ⟨hl, s2⟩ := sat_gd (Sat.bd.mp s2)
    have hz : sqv (res S1 z) = some zs := by
      rcases (w1.at i1).res with ⟨e1, _⟩ | ⟨b, e1⟩ | ⟨n, ks, vs, e1⟩
      · rw [e1]; rfl
      · cases e1
      · cases e1
    exact ⟨xs, zs, i1.at_ (a, .lst xs) (by simp), hz, hl, h _ D E k1 τ _ hE i1.put s2⟩
  | tup zs =>
    obtain ⟨hl, s2⟩ := sat_gd (Sat.bd.mp s2)
    have hz : sqv (res S1 z) = some zs := by
      rcases (w1.at i1).res with ⟨e1, _⟩ | ⟨b, e1⟩ | ⟨n, ks, vs, e1⟩
      · rw [e1]; rfl
      · cases e1
      · cases e1
    exact ⟨xs, zs, i1.at_ (a, .lst xs) (by simp), hz, hl, h _ D E k1 τ _ hE i1.put s2⟩
  | _ => exact s2.elim
def dputM (r : List T × List T) (y z : T) : PM κ (List T × List T) := match kyT y with
  | some k => bd (gd (r.1.length < sizeLine)) fun _ => pu (dPk r.1 k y, dPv r.1 r.2 k z)
  | none => stuck
theorem xs_dput {i : Nat} {a : Addr} {r : List T × List T} {l1 l2 : Cs} {ei : TTE} {mi : PM κ T} {f : List T × List T → PM κ β} (hp : p[i]? = some (some (.ref a))) (he : XE W p (l1 ++ (a, .dct false r.1 r.2) :: l2) e m) (hi : XE W p (l1 ++ (a, .dct false r.1 r.2) :: l2) ei mi) (h : ∀ ys, XS W p (l1 ++ (a, .dct false ys.1 ys.2) :: l2) u (f ys) post) :
    XS W p (l1 ++ (a, .dct false r.1 r.2) :: l2) (cSeq (cDput (cVar i) ei e) u) (bd m fun z => bd mi fun y => bd (dputM r y z) f) post := fun D E k τ S hE j s => by
  refine he _ _ k τ S hE j ((Sat.bd.mp s).mono (fun v k1 s1 S1 i1 => ?_) fun x k1 q S1 i1 => q τ S1 i1)
  refine ⟨.ref a, hE.get hp, ?_⟩
  refine hi _ _ k1 τ S1 hE i1 ((Sat.bd.mp s1).mono (fun y k2 s2 S2 i2 => ?_) fun x k1 q S1 i1 => q τ S1 i1)
  have s3 := Sat.bd.mp s2
  unfold dputM at s3
  cases q : kyT y with
  | none => simp only [q] at s3; exact s3.elim
  | some kk =>
    simp only [q] at s3
    obtain ⟨hl, s3⟩ := sat_gd (Sat.bd.mp s3)
    exact ⟨a, r.1, r.2, kk, rfl, i2.at_ (a, .dct false r.1 r.2) (by simp), rfl, hl, h _ D E k2 τ _ hE i2.put s3⟩
/-- the pen's own cell -/
theorem xs_if {c : TTB} {mc : PM κ Bool} {A B : TTS} {mA mB : PM κ β} (hc : XTs W p l c mc) (hA : XS W p l A mA post) (hB : XS W p l B mB post) : XS W p l (cIfS c A B) (bd mc fun t => if t = true then mA else mB) post := fun D E k τ S hE i s => by
  refine hc _ _ k τ S hE i ((Sat.bd.mp s).mono (fun b k1 s1 S1 i1 => ?_) fun x k1 q S1 i1 => q τ S1 i1)
  cases b with
  | true => exact hA D E k1 τ S1 hE i1 s1
  | false => exact hB D E k1 τ S1 hE i1 s1
theorem xs_ifE {c : TTB} {mc : PM κ Bool} {A B : TTS} {mA mB : PM κ β} (hc : XTs W p l c mc) (hA : XS W p l (cSeq A u) mA post) (hB : XS W p l (cSeq B u) mB post) : XS W p l (cSeq (cIfS c A B) u) (bd mc fun t => if t = true then mA else mB) post := fun D E k τ S hE i s => by
  refine hc _ _ k τ S hE i ((Sat.bd.mp s).mono (fun b k1 s1 S1 i1 => ?_) fun x k1 q S1 i1 => q τ S1 i1)
  cases b with
  | true => exact hA D E k1 τ S1 hE i1 s1
  | false => exact hB D E k1 τ S1 hE i1 s1
theorem xs_seq {P : σ → TEnv} {C : σ → Cs} {m : PM κ σ} {f : σ → PM κ β} (h1 : XS W p l t m fun s => .nx (P s) (C s)) (h2 : ∀ s, XS W (P s) (C s) u (f s) post) : XS W p l (cSeq t u) (bd m f) post := fun D E k τ S hE i s =>
  h1 _ E k τ S hE i ((Sat.bd.mp s).mono (fun b k1 s1 τ1 S1 hE1 i1 => h2 b D E k1 τ1 S1 hE1 i1 s1) fun _ _ q => q)
def sumD (P : σ → TEnv) (C : σ → Cs) : σ ⊕ T → Dest
  | .inl s => .nx (P s) (C s)
  | .inr v => .rt v
theorem xs_seqR {P : σ → TEnv} {C : σ → Cs} {m : PM κ (σ ⊕ T)} {f : σ → PM κ β} {g : T → β} (hg : ∀ v, post (g v) = .rt v) (h1 : XS W p l t m (sumD P C)) (h2 : ∀ s, XS W (P s) (C s) u (f s) post) : XS W p l (cSeq t u) (bd m fun r => Sum.elim f (fun v => pu (g v)) r) post := fun D E k τ S hE i s =>
  h1 _ E k τ S hE i ((Sat.bd.mp s).mono (fun b k1 s1 => by
    cases b with
    | inl b => exact fun τ1 S1 hE1 i1 => h2 b D E k1 τ1 S1 hE1 i1 s1
    | inr v =>
      have s1 : DOk W D k1 (post (g v)) := s1
      rw [hg] at s1
      exact s1) fun _ _ q => q)
inductive Fl (σ : Type) where
  | nx (s : σ)
  | rt (v : T)
  | bk (s : σ)
  | ct (s : σ)
def flD (P : σ → TEnv) (C : σ → Cs) : Fl σ → Dest
  | .nx s => .nx (P s) (C s)
  | .rt v => .rt v
  | .bk s => .bk (P s) (C s)
  | .ct s => .ct (P s) (C s)
def forM (f : T → σ → PM κ σ) : List T → σ → PM κ σ
  | [], s => pu s
  | x :: xs, s => bd (f x s) (forM f xs)
def forR (f : T → σ → PM κ (Fl σ)) : List T → σ → PM κ (σ ⊕ T)
  | [], s => pu (.inl s)
  | x :: xs, s => bd (f x s) fun r => match r with
    | .nx s => forR f xs s
    | .ct s => forR f xs s
    | .bk s => pu (.inl s)
    | .rt v => pu (.inr v)
def whM (c : σ → PM κ Bool) (b : σ → PM κ σ) : Nat → σ → PM κ σ
  | 0, _ => stuck
  | n + 1, s => bd (c s) fun t => if t = true then bd (b s) (whM c b n) else pu s
section
variable {P : σ → TEnv} {C : σ → Cs} {s0 : σ} {it : TTI} {g : TTG} {mi : PM κ (List T)}
theorem for_run {f : T → σ → PM κ σ} {gd : Sto → Prop} (hgd : ∀ s k S, SI W (C s) k S → gd S) (hb : ∀ x s, XF W (P s) (C s) g t (f x s) (fun s' => .nx (P s') (C s')) x) {D : TD} {E : T → TEnv → Sto → Prop} : ∀ (xs : List T) (s : σ) k τ S, En (P s) τ → SI W (C s) k S →
    Sat (forM f xs s k) (fun s' k' => DOk W D k' (.nx (P s') (C s'))) (fun x k' => ∀ τ' S', SI W [] k' S' → E x τ' S') → forT g t gd D E xs τ S
  | [], s, k, τ, S, hE, i, h => ⟨hgd _ _ _ i, h τ S hE i⟩
  | x :: xs, s, k, τ, S, hE, i, h => ⟨hgd _ _ _ i, hb x s _ E k τ S hE i ((Sat.bd.mp h).mono (fun s' k' h' τ' S' hE' i' => for_run hgd hb xs s' k' τ' S' hE' i' h') fun _ _ q => q)⟩
theorem xs_for {f : T → σ → PM κ σ} (hi : XIy W p l it mi) (hs : En (P s0) p) (hl : l = C s0) (hb : ∀ x s, XF W (P s) (C s) g t (f x s) (fun s' => .nx (P s') (C s')) x) : XS W p l (cFor it g t) (bd mi fun xs => forM f xs s0) (fun s => .nx (P s) (C s)) := fun D E k τ S hE i s =>
  hi _ _ k τ S hE i ((Sat.bd.mp s).mono (fun xs k1 s1 S1 i1 => for_run (fun _ _ _ _ => trivial) hb xs s0 k1 τ S1 (hs.trans hE) (hl ▸ i1) s1) fun x k1 q S1 i1 => q τ S1 i1)
theorem forR_run {f : T → σ → PM κ (Fl σ)} {gd : Sto → Prop} (hgd : ∀ s k S, SI W (C s) k S → gd S) (hb : ∀ x s, XF W (P s) (C s) g t (f x s) (flD P C) x) {D : TD} {E : T → TEnv → Sto → Prop} : ∀ (xs : List T) (s : σ) k τ S, En (P s) τ → SI W (C s) k S →
    Sat (forR f xs s k) (fun s' k' => DOk W D k' (sumD P C s')) (fun x k' => ∀ τ' S', SI W [] k' S' → E x τ' S') → forT g t gd D E xs τ S
  | [], s, k, τ, S, hE, i, h => ⟨hgd _ _ _ i, h τ S hE i⟩
  | x :: xs, s, k, τ, S, hE, i, h => ⟨hgd _ _ _ i, hb x s _ E k τ S hE i ((Sat.bd.mp h).mono (fun r k' h' => match r, h' with
    | .nx s', h' => fun τ' S' hE' i' => forR_run hgd hb xs s' k' τ' S' hE' i' h'
    | .ct s', h' => fun τ' S' hE' i' => forR_run hgd hb xs s' k' τ' S' hE' i' h'
    | .bk s', h' => h'
    | .rt v, h' => h') fun _ _ q => q)⟩
theorem xs_forR {f : T → σ → PM κ (Fl σ)} (hi : XIy W p l it mi) (hs : En (P s0) p) (hl : l = C s0) (hb : ∀ x s, XF W (P s) (C s) g t (f x s) (flD P C) x) : XS W p l (cFor it g t) (bd mi fun xs => forR f xs s0) (sumD P C) := fun D E k τ S hE i s =>
  hi _ _ k τ S hE i ((Sat.bd.mp s).mono (fun xs k1 s1 S1 i1 => forR_run (fun _ _ _ _ => trivial) hb xs s0 k1 τ S1 (hs.trans hE) (hl ▸ i1) s1) fun x k1 q S1 i1 => q τ S1 i1)
theorem xs_wh {c : TTB} {mc : σ → PM κ Bool} {mb : σ → PM κ σ} {n : Nat} (hs : En (P s0) p) (hl : l = C s0) (hc : ∀ s, XTs W (P s) (C s) c (mc s)) (hb : ∀ s, XS W (P s) (C s) t (mb s) (fun s' => .nx (P s') (C s'))) : XS W p l (cWhile c t) (whM mc mb n s0) (fun s => .nx (P s) (C s)) := fun D E k τ S hE i s => by
  refine ⟨fun m τ' S' => ∃ k' s', En (P s') τ' ∧ SI W (C s') k' S' ∧ Sat (whM mc mb m s' k') (fun b k' => DOk W D k' (.nx (P b) (C b))) (fun x k' => ∀ τ' S', SI W [] k' S' → E x τ' S'), ⟨n, k, s0, hs.trans hE, hl ▸ i, s⟩, ?_⟩
  rintro m τ1 S1 ⟨k1, s1, hE1, i1, h1⟩
  cases m with
  | zero => exact h1.elim
  | succ m =>
    refine hc s1 _ _ k1 τ1 S1 hE1 i1 ((Sat.bd.mp h1).mono (fun b k2 h2 S2 i2 => ?_) fun x k1 q S1 i1 => q τ1 S1 i1)
    cases b with
    | false => exact h2 τ1 S2 hE1 i2
    | true => exact hb s1 _ E k2 τ1 S2 hE1 i2 ((Sat.bd.mp h2).mono (fun s' k' h' τ' S' hE' i' => ⟨m, Nat.lt_succ_self m, k', s', hE', i', h'⟩) fun _ _ q => q)
end
theorem fzs_id {S S2 : Sto} : ∀ ts : List T, Fzs S S2 ts ts
  | [] => .nil
  | t :: ts => .cons (.same t) (fzs_id ts)
theorem SI.sub {l1 l2 : Cs} {a : Addr} {c : Cell} {k : κ} {S : Sto} (i : SI W (l1 ++ (a, c) :: l2) k S) : SI W (l1 ++ l2) k (offs S a) := by
  have nd := i.nd
  rw [List.map_append, List.map_cons] at nd
  obtain ⟨n1, n2, n3⟩ := List.nodup_append.mp nd
  have hm : ∀ e, e ∈ l1 ++ l2 → e ∈ l1 ++ (a, c) :: l2 ∧ e.1 ≠ a := fun e h => by
    rcases List.mem_append.mp h with z | z
    · exact ⟨List.mem_append_left _ z, fun q => n3 e.1 (List.mem_map_of_mem z) a (by simp) q⟩
    · exact ⟨List.mem_append_right _ (List.mem_cons_of_mem _ z), fun q => (List.nodup_cons.mp n2).1 (by rw [← q]; exact List.mem_map_of_mem (f := (·.1)) z)⟩
  refine ⟨fun e h => by rw [offs_ne (hm e h).2]; exact i.at_ e (hm e h).1, fun e h => i.own e (hm e h).1, ?_, fun b d h => ?_⟩
  · rw [List.map_append]
    exact List.nodup_append.mpr ⟨n1, (List.nodup_cons.mp n2).2, fun x hx y hy => n3 x hx y (List.mem_cons_of_mem _ hy)⟩
  · have ow := i.own (a, c) (List.mem_append_right _ List.mem_cons_self)
    have : b ≠ a := fun z => by rw [z] at h; rw [show W k a = none from ow] at h; cases h
    rw [offs_ne this]
    exact i.base b d h
theorem xs_drop {i : Nat} {a : Addr} {xs : List T} {l1 l2 : Cs} {m : PM κ β} (hp : p[i]? = some (some (.ref a))) (h : XS W (p.set i (some (.lst xs))) (l1 ++ l2) t m post) : XS W p (l1 ++ (a, .lst xs) :: l2) (cDrop t) m post := fun D E k τ S hE j s => by
  have hg := hE.get hp
  have hi := (List.getElem?_eq_some_iff.mp hg).1
  refine ⟨τ.set i (some (.lst xs)), offs S a, sub_offs, ⟨by rw [List.length_set], fun n u e => ?_⟩, h D E k _ _ hE.set j.sub s⟩
  by_cases q : i = n
  · subst q
    rw [List.getElem?_set_self hi] at e
    cases e
    exact ⟨_, hg, .lstc (j.at_ (a, .lst xs) (by simp)) offs_same (fzs_id xs)⟩
  · rw [List.getElem?_set_ne q] at e
    exact ⟨u, e, .same u⟩
end
theorem fin_of {κ : Type} {W : κ → Sto} {l : Cs} {k : κ} {S : Sto} {z v : T} {Q : T → Sto → Prop} (i : SI W l k S) (w : Vw l z v) (q : Q v (W k)) : Fin Q z S := by
  refine ⟨W k, v, i.base, ?_, q⟩
  rcases w with rfl | ⟨a, xs, rfl, h, rfl⟩ | ⟨a, n, ks, vs, rfl, h, rfl⟩
  · exact .same _
  · exact .lstc (i.at_ _ h) (i.own _ h) (fzs_id _)
  · exact .dctc (i.at_ _ h) (i.own _ h) (fzs_id _)
theorem si_start {κ : Type} {W : κ → Sto} {k : κ} : SI W [] k (W k) := ⟨fun _ h => (nomatch h), fun _ h => (nomatch h), List.nodup_nil, fun _ _ h => h⟩
section
variable {κ α : Type}
def u0 (f : PM κ α) : List T → PM κ α
  | [] => f
  | _ => stuck
def u1 (f : T → PM κ α) : List T → PM κ α
  | [a] => f a
  | _ => stuck
def u2 (f : T → T → PM κ α) : List T → PM κ α
  | [a, b] => f a b
  | _ => stuck
def u3 (f : T → T → T → PM κ α) : List T → PM κ α
  | [a, b, c] => f a b c
  | _ => stuck
def u4 (f : T → T → T → T → PM κ α) : List T → PM κ α
  | [a, b, c, d] => f a b c d
  | _ => stuck
def u5 (f : T → T → T → T → T → PM κ α) : List T → PM κ α
  | [a, b, c, d, e] => f a b c d e
  | _ => stuck
end
/-- a def's mirror takes so many -/
def Ar {κ α : Type} (n : Nat) (f : List T → PM κ α) : Prop := ∀ ts k, f ts k ≠ .bad → ts.length = n
theorem ar1 {κ α : Type} {f : T → PM κ α} : Ar 1 (u1 f) := fun ts k h => match ts, h with
  | [], h => (h rfl).elim
  | [a], _ => rfl
  | _ :: _ :: _, h => (h rfl).elim
theorem ar2 {κ α : Type} {f : T → T → PM κ α} : Ar 2 (u2 f) := fun ts k h => match ts, h with
  | [], h => (h rfl).elim
  | [_], h => (h rfl).elim
  | [a, b], _ => rfl
  | _ :: _ :: _ :: _, h => (h rfl).elim
theorem ar3 {κ α : Type} {f : T → T → T → PM κ α} : Ar 3 (u3 f) := fun ts k h => match ts, h with
  | [], h => (h rfl).elim
  | [_], h => (h rfl).elim
  | [_, _], h => (h rfl).elim
  | [a, b, c], _ => rfl
  | _ :: _ :: _ :: _ :: _, h => (h rfl).elim
theorem ar4 {κ α : Type} {f : T → T → T → T → PM κ α} : Ar 4 (u4 f) := fun ts k h => match ts, h with
  | [], h => (h rfl).elim
  | [_], h => (h rfl).elim
  | [_, _], h => (h rfl).elim
  | [_, _, _], h => (h rfl).elim
  | [a, b, c, d], _ => rfl
  | _ :: _ :: _ :: _ :: _ :: _, h => (h rfl).elim
theorem ar5 {κ α : Type} {f : T → T → T → T → T → PM κ α} : Ar 5 (u5 f) := fun ts k h => match ts, h with
  | [], h => (h rfl).elim
  | [_], h => (h rfl).elim
  | [_, _], h => (h rfl).elim
  | [_, _, _], h => (h rfl).elim
  | [_, _, _, _], h => (h rfl).elim
  | [a, b, c, d, e], _ => rfl
  | _ :: _ :: _ :: _ :: _ :: _ :: _, h => (h rfl).elim
theorem sat_nb {κ α : Type} {r : Res κ α} {P : α → κ → Prop} {X : T → κ → Prop} (h : Sat r P X) : r ≠ .bad := fun e => by rw [e] at h; exact h
theorem spU_len {n : Nat} {f : List T → PM Unit T} (ha : Ar n f) : ∀ ts S Q E, spU f ts S Q E → ts.length = n := fun ts S Q E h => ha ts () (sat_nb h)
theorem spP_len {n : Nat} {f : List T → PM Cell T} (ha : Ar n f) : ∀ ts S Q E, spP f ts S Q E → ts.length = n + 1 := fun ts S Q E ⟨p, rest, c, e, _, h⟩ => by
  subst e
  rw [List.length_cons, ha rest c (sat_nb h)]
theorem vc_u {N : List Str} {f : List T → PM Unit T} {c : TTS} (h : ∀ S ts, XS (fun _ : Unit => S) (startT N ts) [] c (f ts) .rt) : VC N (spU f) c := fun ts S Q E q =>
  h S ts _ _ () _ S (En.refl _) si_start (Sat.mono q (fun v k' q l z S' i w => fin_of i w q) fun x k' q τ' S' i => ⟨S, i.base, q⟩)
theorem ups_self {S : Sto} {p : Addr} {c : Cell} (h : S p = some c) : ups S p c = S := ups_eq h
theorem vc_p {N : List Str} {f : List T → PM Cell T} {c : TTS} (h : ∀ S pa ts, XS (penW S pa) (startT N (.ref pa :: ts)) [] c (f ts) .rt) : VC N (spP f) c := fun ts S Q E ⟨pa, rest, k, e, hs, q⟩ => by
  subst e
  have i0 : SI (penW S pa) [] k S := by
    have := si_start (W := penW S pa) (k := k)
    rwa [show penW S pa k = S from ups_self hs] at this
  exact h S pa rest _ _ k _ S (En.refl _) i0 (q.mono (fun v k' q l z S' i w => fin_of i w q) fun x k' q τ' S' i => ⟨_, i.base, q⟩)
theorem xs_stuck {κ β : Type} {W : κ → Sto} {p : TEnv} {l : Cs} {t : TTS} {post : β → Dest} : XS W p l t stuck post := fun D E k τ S hE i s => s.elim
theorem Ar.bd {κ α β : Type} {n : Nat} {f : List T → PM κ α} {g : α → PM κ β} (h : Ar n f) : Ar n (fun ts => bd (f ts) g) := fun ts k e => h ts k fun z => e (by simp only [TL.bd, z])
theorem vc_u1 {N : List Str} {c : TTS} {f : T → PM Unit T} (h : ∀ S y1, XS (fun _ : Unit => S) (startT N [y1]) [] c (f y1) .rt) : VC N (spU (u1 f)) c := vc_u fun S ts => match ts with
  | [] => xs_stuck
  | [y1] => h S y1
  | _ :: _ :: _ => xs_stuck
theorem vc_p1 {N : List Str} {c : TTS} {f : T → PM Cell T} (h : ∀ S pa y1, XS (penW S pa) (startT N (.ref pa :: [y1])) [] c (f y1) .rt) : VC N (spP (u1 f)) c := vc_p fun S pa ts => match ts with
  | [] => xs_stuck
  | [y1] => h S pa y1
  | _ :: _ :: _ => xs_stuck
theorem vc_u2 {N : List Str} {c : TTS} {f : T → T → PM Unit T} (h : ∀ S y1 y2, XS (fun _ : Unit => S) (startT N [y1, y2]) [] c (f y1 y2) .rt) : VC N (spU (u2 f)) c := vc_u fun S ts => match ts with
  | [] => xs_stuck
  | [_] => xs_stuck
  | [y1, y2] => h S y1 y2
  | _ :: _ :: _ :: _ => xs_stuck
theorem vc_p2 {N : List Str} {c : TTS} {f : T → T → PM Cell T} (h : ∀ S pa y1 y2, XS (penW S pa) (startT N (.ref pa :: [y1, y2])) [] c (f y1 y2) .rt) : VC N (spP (u2 f)) c := vc_p fun S pa ts => match ts with
  | [] => xs_stuck
  | [_] => xs_stuck
  | [y1, y2] => h S pa y1 y2
  | _ :: _ :: _ :: _ => xs_stuck
theorem vc_u3 {N : List Str} {c : TTS} {f : T → T → T → PM Unit T} (h : ∀ S y1 y2 y3, XS (fun _ : Unit => S) (startT N [y1, y2, y3]) [] c (f y1 y2 y3) .rt) : VC N (spU (u3 f)) c := vc_u fun S ts => match ts with
  | [] => xs_stuck
  | [_] => xs_stuck
  | [_, _] => xs_stuck
  | [y1, y2, y3] => h S y1 y2 y3
  | _ :: _ :: _ :: _ :: _ => xs_stuck
theorem us2 {κ α : Type} {f : T → T → PM κ α} (h : ∀ y1 y2, f y1 y2 = stuck) : ∀ ts, u2 f ts = stuck
  | [] => rfl
  | [_] => rfl
  | [y1, y2] => h y1 y2
  | _ :: _ :: _ :: _ => rfl
def fuel : Nat := 1000000000
/-- the law: the pen first -/
def sp_pen_of : SpT := sp1 fun a S Q _ => ∃ ns : List Int, a = .scr ns ∧ ∀ p c, S p = none → PenC 0 c → Q (.ref p) (ups S p c)
def sp_law1 : SpT := sp1 fun a S Q _ => ∃ ns, a = .scr ns ∧ ∀ S', Q (.bl true) S'
end TL
namespace TL
open PySem PySem.Spec PyProof.Rows L2
def intsOf : List T → Option (List Int)
  | [] => some []
  | .int i :: ts => (intsOf ts).map (i :: ·)
  | _ :: _ => none
theorem intsOf_is : ∀ {ts : List T} {ns : List Int}, intsOf ts = some ns → ts = ns.map T.int
  | [], ns, e => by obtain rfl := Option.some.inj e; rfl
  | .int i :: ts, ns, e => by
    unfold intsOf at e
    cases q : intsOf ts with
    | none => rw [q] at e; cases e
    | some ms =>
      rw [q] at e
      obtain rfl := Option.some.inj e
      rw [intsOf_is q]
      rfl
  | .non :: _, _, e | .bl _ :: _, _, e | .str _ :: _, _, e | .tup _ :: _, _, e | .lst _ :: _, _, e | .ref _ :: _, _, e | .exc _ _ _ :: _, _, e | .dct _ _ _ :: _, _, e | .obj _ _ _ :: _, _, e | .fn _ :: _, _, e | .scr _ :: _, _, e | .clo .. :: _, _, e => by cases e
theorem intsOf_map : ∀ ns : List Int, intsOf (ns.map T.int) = some ns
  | [] => rfl
  | i :: ns => by rw [List.map_cons]; unfold intsOf; rw [intsOf_map ns]; rfl
def penCell (ns : List Int) (at_ rest : Int) : Cell := .lst [.lst (ns.map T.int), .int at_, .int rest]
def absI (z : Int) : Int := if z < 0 then -z else z
def drawNum (z at_ many : Int) : Int := (((((z.fmod 2147483647 + 69621 * at_ + 13) * 48271).fmod 2147483629 * ((z.fmod 2147483647 + 69621 * at_ + 13) * 48271).fmod 2147483629).fmod 2147483587 * ((((z.fmod 2147483647 + 69621 * at_ + 13) * 48271).fmod 2147483629).fmod 65521 + 7 * at_ + 1)).fmod 2147483563).fdiv 32 |>.fmod many
def cellAt (ns : List Int) (at_ : Int) : Int := if 0 < ns.length then ns.getD (at_.fmod ns.length).toNat 0 else 11
def drawStep (ns : List Int) (at_ rest many : Int) : Int × Cell :=
  if 0 < rest then (rest.fmod many, penCell ns at_ (rest.fdiv many))
  else if at_ < ns.length then (if 10 ^ 18 ≤ absI (cellAt ns at_) then ((absI (cellAt ns at_)).fmod many, penCell ns (at_ + 1) ((absI (cellAt ns at_)).fdiv many)) else (drawNum (cellAt ns at_) at_ many, penCell ns (at_ + 1) rest))
  else (drawNum (cellAt ns at_) at_ many, penCell ns (at_ + 1) rest)
def m_draw (t : T) : PM Cell T := fun c => match c, t with
  | .lst [.lst xs, .int at_, .int rest], .int many => match intsOf xs with
    | some ns => if 0 < many ∧ many < 1000000000000000000000000000001 ∧ 0 ≤ at_ ∧ at_ ≤ big ∧ 0 ≤ rest ∧ ns.length ≤ 63 then .ok (.int (drawStep ns at_ rest many).1) (drawStep ns at_ rest many).2 else .bad
    | none => .bad
  | _, _ => .bad
theorem sat_draw {t : T} {c : Cell} {P : T → Cell → Prop} {X : T → Cell → Prop} (h : Sat (m_draw t c) P X) : ∃ ns at_ rest many, c = penCell ns at_ rest ∧ t = .int many ∧ (0 < many ∧ many < 1000000000000000000000000000001 ∧ 0 ≤ at_ ∧ at_ ≤ big ∧ 0 ≤ rest ∧ ns.length ≤ 63) ∧ P (.int (drawStep ns at_ rest many).1) (drawStep ns at_ rest many).2 := by
  unfold m_draw at h
  split at h
  · rename_i xs at_ rest many
    split at h
    · rename_i ns e
      split at h
      · rename_i k
        exact ⟨ns, at_, rest, many, by rw [intsOf_is e]; rfl, rfl, k, h⟩
      · exact h.elim
    · exact h.elim
  · exact h.elim
theorem draw_ok {n : Nat} {c : Cell} {many : Int} (h : PenC n c) (hn : n ≤ big) (h1 : 0 < many) (h2 : many < 1000000000000000000000000000001) : ∃ d c', m_draw (.int many) c = .ok (.int d) c' ∧ 0 ≤ d ∧ d < many ∧ PenC (n + 1) c' := by
  obtain ⟨ns, at_, rest, rfl, a0, a1, a2, a3⟩ := h
  have hb : (n : Int) ≤ big := by exact_mod_cast hn
  have e : m_draw (.int many) (.lst [.lst (ns.map T.int), .int at_, .int rest]) = .ok (.int (drawStep ns at_ rest many).1) (drawStep ns at_ rest many).2 := by
    unfold m_draw
    simp only [intsOf_map]
    rw [if_pos ⟨h1, h2, a0, by omega, a2, a3⟩]
  refine ⟨_, _, e, ?_⟩
  have w : 0 ≤ absI (cellAt ns at_) := by unfold absI; split <;> omega
  unfold drawStep
  split
  · exact ⟨fmod_lo h1, fmod_hi h1, ns, at_, _, rfl, a0, by omega, fdiv_lo a2 h1, a3⟩
  split
  · split
    · exact ⟨fmod_lo h1, fmod_hi h1, ns, at_ + 1, _, rfl, by omega, by omega, fdiv_lo w h1, a3⟩
    · exact ⟨fmod_lo h1, fmod_hi h1, ns, at_ + 1, _, rfl, by omega, by omega, a2, a3⟩
  · exact ⟨fmod_lo h1, fmod_hi h1, ns, at_ + 1, _, rfl, by omega, by omega, a2, a3⟩
end TL
namespace TL
open PySem PySem.Spec PyProof.Rows L2
section
variable {κ α β γ σ : Type}
/-- a condition -/
noncomputable def gdc (b : Prop) : PM κ Unit := @gd κ b (Classical.propDecidable b)
theorem gd_c {b : Prop} [d : Decidable b] : gd (κ := κ) b = gdc b := by
  unfold gdc
  congr
theorem gdc_t {b : Prop} (h : b) : gdc (κ := κ) b = pu () := @gd_true κ b (Classical.propDecidable b) h
theorem gdc_f {b : Prop} (h : ¬ b) : gdc (κ := κ) b = stuck := @if_neg b (Classical.propDecidable b) h _ _ _
theorem gdc_b {b : Prop} (h : b) (f : Unit → PM κ α) : bd (gdc b) f = f () := by rw [gdc_t h]; rfl
theorem ofO_none : ofO (κ := κ) (none : Option α) = stuck := rfl
theorem ofO_ite {c : Prop} [Decidable c] {v : α} : ofO (κ := κ) (if c then some v else none) = bd (gdc c) fun _ => pu v := by
  by_cases h : c
  · rw [if_pos h, gdc_t h]; rfl
  · rw [if_neg h, gdc_f h]; rfl
theorem ite_pu {c : Prop} [Decidable c] {x y : α} : (if c then pu (κ := κ) x else pu y) = pu (if c then x else y) := by split <;> rfl
theorem lft_bd (m : PM Unit α) (f : α → PM Unit β) : lft (κ := κ) (bd m f) = bd (lft m) fun a => lft (f a) := by
  funext k
  unfold lft bd
  cases m () <;> rfl
theorem lft_gdc {b : Prop} : lft (κ := κ) (gdc b) = gdc b := by
  by_cases h : b
  · rw [gdc_t h, gdc_t h]; rfl
  · rw [gdc_f h, gdc_f h]; rfl
theorem lft_ite {c : Prop} [Decidable c] {x y : PM Unit α} : lft (κ := κ) (if c then x else y) = if c then lft x else lft y := by split <;> rfl
theorem lft_stuck : lft (κ := κ) (stuck : PM Unit α) = stuck := rfl
def compA (f : α → PM κ (Option T)) : List α → PM κ (List T)
  | [] => pu []
  | x :: xs => bd (nox (f x)) fun o => bd (compA f xs) fun ys => pu (o.toList ++ ys)
theorem compA_cons {f : α → PM κ (Option T)} {x : α} {xs : List α} : compA f (x :: xs) = bd (nox (f x)) fun o => bd (compA f xs) fun ys => pu (o.toList ++ ys) := rfl
theorem compM_map {e : α → T} {f : T → PM κ (Option T)} : ∀ xs : List α, compM f (xs.map e) = compA (fun a => f (e a)) xs
  | [] => rfl
  | x :: xs => by
    rw [List.map_cons, compA_cons, ← compM_map xs]
    rfl
theorem compG_map {e : α → T} {f : T → PM κ (Option T)} {xs : List α} : compG f (xs.map e) = bd (gdc (xs.length ≤ sizeLine)) fun _ => compA (fun a => f (e a)) xs := by
  unfold compG
  rw [gd_c, compM_map, List.length_map]
theorem compA_pu {g : α → T} : ∀ xs : List α, compA (κ := κ) (fun a => pu (some (g a))) xs = pu (xs.map g)
  | [] => rfl
  | x :: xs => by
    rw [compA_cons, compA_pu xs]
    rfl
theorem compA_if {p : α → Prop} [DecidablePred p] {g : α → T} : ∀ xs : List α, compA (κ := κ) (fun a => if p a then pu (some (g a)) else pu none) xs = pu ((xs.filter fun a => decide (p a)).map g)
  | [] => rfl
  | x :: xs => by
    rw [compA_cons, compA_if xs]
    by_cases h : p x
    · rw [if_pos h, List.filter_cons_of_pos (by simpa using h)]; rfl
    · rw [if_neg h, List.filter_cons_of_neg (by simpa using h)]; rfl
theorem bd_stuck (m : PM κ α) (h : ∀ k, ∃ a k', m k = .ok a k' ∨ m k = .bad) : bd m (fun _ => (stuck : PM κ β)) = stuck := by
  funext k
  obtain ⟨a, k', e | e⟩ := h k <;> (unfold bd; rw [e]; rfl)
theorem nox_cases (m : PM κ α) [Inhabited α] (k : κ) : ∃ a k', nox m k = .ok a k' ∨ nox m k = .bad := by
  unfold nox
  cases e : m k with
  | ok a k' => exact ⟨a, k', .inl rfl⟩
  | exc x k' => exact ⟨default, k, .inr rfl⟩
  | bad => exact ⟨default, k, .inr rfl⟩
theorem compA_gd {c : α → Prop} {h : α → PM κ (Option T)} : ∀ xs : List α, compA (fun a => bd (gdc (c a)) fun _ => h a) xs = bd (gdc (∀ a ∈ xs, c a)) fun _ => compA h xs
  | [] => by rw [gdc_t (fun _ h => nomatch h)]; rfl
  | x :: xs => by
    have ih := compA_gd (c := c) (h := h) xs
    by_cases hx : c x
    · by_cases hs : ∀ a ∈ xs, c a
      · rw [gdc_t hs, pu_bd] at ih
        rw [gdc_t (List.forall_mem_cons.mpr ⟨hx, hs⟩), pu_bd, compA_cons, gdc_t hx, ih]
        rfl
      · rw [gdc_f hs, stuck_bd] at ih
        rw [gdc_f fun z => hs (List.forall_mem_cons.mp z).2, compA_cons, ih]
        exact bd_stuck _ (nox_cases _)
    · rw [gdc_f fun z => hx (List.forall_mem_cons.mp z).1, compA_cons, gdc_f hx]
      rfl
theorem compA_gdif {p c : α → Prop} [DecidablePred p] {h : α → PM κ (Option T)} (xs : List α) : compA (fun a => if p a then bd (gdc (c a)) fun _ => h a else pu none) xs = bd (gdc (∀ a ∈ xs, p a → c a)) fun _ => compA (fun a => if p a then h a else pu none) xs := by
  rw [← compA_gd]
  congr
  funext a
  by_cases hp : p a
  · rw [if_pos hp]
    by_cases hc : c a
    · rw [gdc_t hc, gdc_t (fun _ => hc), if_pos hp]
    · rw [gdc_f hc, gdc_f (fun z => hc (z hp))]; rfl
  · rw [if_neg hp, gdc_t (fun z => absurd z hp), if_neg hp]; rfl
theorem compA_congr {f g : α → PM κ (Option T)} : ∀ {xs : List α}, (∀ a ∈ xs, f a = g a) → compA f xs = compA g xs
  | [], _ => rfl
  | x :: xs, h => by
    rw [compA_cons, compA_cons, h x List.mem_cons_self, compA_congr fun a ha => h a (List.mem_cons_of_mem _ ha)]
def forA (f : α → σ → PM κ σ) : List α → σ → PM κ σ
  | [], s => pu s
  | x :: xs, s => bd (f x s) (forA f xs)
theorem forM_map {e : α → T} {f : T → σ → PM κ σ} : ∀ (xs : List α) (s : σ), forM f (xs.map e) s = forA (fun a => f (e a)) xs s
  | [], _ => rfl
  | x :: xs, s => by
    rw [List.map_cons]
    show bd (f (e x) s) (forM f (xs.map e)) = bd (f (e x) s) (forA (fun a => f (e a)) xs)
    congr
    funext s
    exact forM_map xs s
/-- a pure loop over states of a kind -/
theorem forA_pure {τ : Type} {f : α → σ → PM κ σ} {E : τ → σ} {g : α → τ → τ} (I : List α → τ → Prop) : ∀ (xs : List α) (s : τ), I xs s → (∀ x xs s, I (x :: xs) s → f x (E s) = pu (E (g x s)) ∧ I xs (g x s)) → forA f xs (E s) = pu (E (xs.foldl (fun s x => g x s) s))
  | [], _, _, _ => rfl
  | x :: xs, s, hi, h => by
    obtain ⟨h1, h2⟩ := h x xs s hi
    show bd (f x (E s)) (forA f xs) = _
    rw [h1, pu_bd]
    exact forA_pure I xs (g x s) h2 h
def forRA (f : α → σ → PM κ (Fl σ)) : List α → σ → PM κ (σ ⊕ T)
  | [], s => pu (.inl s)
  | x :: xs, s => bd (f x s) fun r => match r with
    | .nx s => forRA f xs s
    | .ct s => forRA f xs s
    | .bk s => pu (.inl s)
    | .rt v => pu (.inr v)
theorem forR_map {e : α → T} {f : T → σ → PM κ (Fl σ)} : ∀ (xs : List α) (s : σ), forR f (xs.map e) s = forRA (fun a => f (e a)) xs s
  | [], _ => rfl
  | x :: xs, s => by
    rw [List.map_cons]
    show bd (f (e x) s) _ = bd (f (e x) s) _
    congr
    funext r
    cases r with
    | nx s => exact forR_map xs s
    | ct s => exact forR_map xs s
    | _ => rfl
theorem forR_A {f : T → σ → PM κ (Fl σ)} (xs : List T) (s : σ) : forR f xs s = forRA f xs s := by
  have := forR_map (e := id) (f := f) xs s
  rwa [List.map_id] at this
/-- a loop that goes through: a state kept -/
theorem forRA_all {f : α → σ → PM κ (Fl σ)} : ∀ (xs : List α) (s : σ), (∀ x ∈ xs, f x s = pu (.nx s)) → forRA f xs s = pu (.inl s)
  | [], _, _ => rfl
  | x :: xs, s, h => by
    show bd (f x s) _ = _
    rw [h x List.mem_cons_self, pu_bd]
    exact forRA_all xs s fun y hy => h y (List.mem_cons_of_mem _ hy)
theorem sum_inl {f : σ → γ} {g : T → γ} {s : σ} : Sum.elim f g (.inl s) = f s := rfl
theorem sum_inr {f : σ → γ} {g : T → γ} {v : T} : Sum.elim f g (.inr v) = g v := rfl
end
def Pen (r : Nat) (c : Cell) : Prop := ∃ n, n + r ≤ big ∧ PenC n c
def HT {α : Type} (d : Nat) (m : PM Cell α) (P : α → Prop) : Prop := ∀ r c, Pen (r + d) c → ∃ a c', m c = .ok a c' ∧ Pen r c' ∧ P a
section
variable {α β γ σ : Type}
theorem HT.le {d d' : Nat} {m : PM Cell α} {P : α → Prop} (h : HT d m P) (hd : d ≤ d') : HT d' m P := fun r c ⟨n, h1, h2⟩ => by
  obtain ⟨a, c', e, ⟨n', k1, k2⟩, p⟩ := h (r + (d' - d)) c ⟨n, by omega, h2⟩
  exact ⟨a, c', e, ⟨n', by omega, k2⟩, p⟩
theorem HT.mono {d : Nat} {m : PM Cell α} {P Q : α → Prop} (h : HT d m P) (hq : ∀ a, P a → Q a) : HT d m Q := fun r c hc => by
  obtain ⟨a, c', e, k, p⟩ := h r c hc
  exact ⟨a, c', e, k, hq a p⟩
theorem HT.pu {d : Nat} {a : α} {P : α → Prop} (h : P a) : HT d (TL.pu a) P := fun r c ⟨n, h1, h2⟩ => ⟨a, c, rfl, ⟨n, by omega, h2⟩, h⟩
theorem HT.bd {d1 d2 : Nat} {m : PM Cell α} {f : α → PM Cell β} {P : α → Prop} {Q : β → Prop} (h1 : HT d1 m P) (h2 : ∀ a, P a → HT d2 (f a) Q) : HT (d2 + d1) (TL.bd m f) Q := fun r c hc => by
  obtain ⟨a, c1, e1, k1, p1⟩ := h1 (r + d2) c (by rw [Nat.add_assoc]; exact hc)
  obtain ⟨b, c2, e2, k2, p2⟩ := h2 a p1 r c1 k1
  exact ⟨b, c2, by unfold TL.bd; rw [e1]; exact e2, k2, p2⟩
theorem HT.draw {many : Int} {P : T → Prop} (h1 : 0 < many) (h2 : many < 1000000000) (h : ∀ d : Int, 0 ≤ d → d < many → P (.int d)) : HT 1 (m_draw (.int many)) P := fun r c ⟨n, k1, k2⟩ => by
  obtain ⟨d, c', e, d0, d1, k⟩ := draw_ok k2 (by omega) h1 (by omega)
  exact ⟨_, c', e, ⟨n + 1, by omega, k⟩, h d d0 d1⟩
/-- a draw, then on -/
theorem HT.drawB {many : Int} {d : Nat} {f : T → PM Cell β} {Q : β → Prop} (h1 : 0 < many) (h2 : many < 1000000000) (h : ∀ i : Int, 0 ≤ i → i < many → HT d (f (.int i)) Q) : HT (d + 1) (TL.bd (m_draw (.int many)) f) Q :=
  HT.bd (P := fun v => ∃ i : Int, 0 ≤ i ∧ i < many ∧ v = .int i) (HT.draw h1 h2 fun i a b => ⟨i, a, b, rfl⟩) fun v ⟨i, a, b, e⟩ => e ▸ h i a b
theorem HT.gdc {b : Prop} {d : Nat} {f : Unit → PM Cell β} {Q : β → Prop} (hb : b) (h : HT d (f ()) Q) : HT d (TL.bd (TL.gdc b) f) Q := by rw [gdc_b hb]; exact h
theorem HT.ite {c : Prop} [Decidable c] {d : Nat} {x y : PM Cell α} {P : α → Prop} (h1 : c → HT d x P) (h2 : ¬ c → HT d y P) : HT d (if c then x else y) P := by
  by_cases h : c
  · rw [if_pos h]; exact h1 h
  · rw [if_neg h]; exact h2 h
theorem HT.forA {d : Nat} {f : α → σ → PM Cell σ} (I : List α → σ → Prop) : ∀ (xs : List α) (s : σ), I xs s → (∀ x xs s, I (x :: xs) s → HT d (f x s) fun s' => I xs s') → HT (xs.length * d) (TL.forA f xs s) fun s' => I [] s'
  | [], s, hi, _ => by
    rw [List.length_nil, Nat.zero_mul]
    exact HT.pu hi
  | x :: xs, s, hi, h => by
    rw [List.length_cons, Nat.succ_mul]
    exact HT.bd (h x xs s hi) fun s' hs' => HT.forA I xs s' hs' h
/-- at most so many turns -/
theorem HT.forN (d n : Nat) {f : α → σ → PM Cell σ} (I : List α → σ → Prop) {xs : List α} {s : σ} (hn : xs.length ≤ n) (hi : I xs s) (h : ∀ x xs s, I (x :: xs) s → HT d (f x s) fun s' => I xs s') : HT (n * d) (TL.forA f xs s) fun s' => I [] s' :=
  (HT.forA I xs s hi h).le (Nat.mul_le_mul_right d hn)
theorem HT.compA {d : Nat} {f : α → PM Cell (Option T)} (I : List α → List T → Prop) : ∀ (xs : List α) (acc : List T), I xs acc → (∀ x xs acc, I (x :: xs) acc → HT d (f x) fun o => I xs (acc ++ o.toList)) → HT (xs.length * d) (TL.compA f xs) fun ys => I [] (acc ++ ys)
  | [], acc, hi, _ => by
    rw [List.length_nil, Nat.zero_mul]
    exact HT.pu (by simpa using hi)
  | x :: xs, acc, hi, h => by
    rw [List.length_cons, Nat.succ_mul]
    rw [compA_cons]
    refine HT.bd (P := fun o => I xs (acc ++ o.toList)) (fun r c hc => ?_) fun o ho => ?_
    · obtain ⟨a, c', e1, k1, p1⟩ := h x xs acc hi r c hc
      exact ⟨a, c', by unfold nox; rw [e1], k1, p1⟩
    · have := HT.compA I xs (acc ++ o.toList) ho h
      refine (HT.bd (d2 := 0) this fun ys hy => HT.pu ?_).le (Nat.le_of_eq (Nat.zero_add _))
      rw [← List.append_assoc]
      exact hy
theorem HT.compN (d n : Nat) {f : α → PM Cell (Option T)} (I : List α → List T → Prop) {xs : List α} (hn : xs.length ≤ n) (hi : I xs []) (h : ∀ x xs acc, I (x :: xs) acc → HT d (f x) fun o => I xs (acc ++ o.toList)) : HT (n * d) (TL.compA f xs) fun ys => I [] ys :=
  (HT.compA I xs [] hi h).le (Nat.mul_le_mul_right d hn)
/-- the law at its end -/
theorem HT.law {d : Nat} {m : PM Cell T} (h : HT d m fun v => v = .bl true) (hd : d ≤ 1000000000000) : ∀ c, PenC 0 c → ∃ k, m c = .ok (.bl true) k := fun c hc => by
  obtain ⟨a, c', e, _, rfl⟩ := h 0 c ⟨0, by unfold big; omega, hc⟩
  exact ⟨c', e⟩
end
end TL
namespace TL
open PySem PySem.Spec PyProof.Rows L2
abbrev Nm := List Sg
def fkT (x : Nm × Nm) : T := .tup [.str x.1, .str x.2]
/-- a kind of keys -/
structure KE {α : Type} (e : α → T) : Prop where
  inj : ∀ a b, e a = e b → a = b
  kx : ∀ a, kx (e a) = true
  dp : ∀ a, dep (e a) ≤ 8
  alk : ∀ a b, alk (e a) (e b) = true
theorem KE.okd {α : Type} {e : α → T} (h : KE e) (a : α) : okd (e a) = true := by
  have := h.dp a
  unfold TL.okd
  rw [kx_plain _ (h.kx a), decide_eq_true (by omega)]
  rfl
theorem ke_str : KE T.str := ⟨fun _ _ => str_inj, fun _ => rfl, fun _ => Nat.zero_le _, fun _ _ => rfl⟩
theorem famT_inj {f g : List Nm} (h : famT f = famT g) : f = g := by
  injection h with h
  exact (List.map_inj_right (fun _ _ => str_inj)).mp h
theorem ke_fam : KE famT := ⟨fun _ _ => famT_inj, fun f => (fam_facts f).1, fun f => by rw [(fam_facts f).2.2]; omega, fam_alk⟩
theorem ke_fk : KE fkT := ⟨fun a b h => by
  injection h with h
  injection h with h1 h2
  injection h2 with h2 _
  exact Prod.ext (str_inj h1) (str_inj h2), fun _ => rfl, fun _ => by show 1 ≤ 8; omega, fun _ _ => rfl⟩
theorem ke_kin : KE kinT := ⟨fun a b h => by
  injection h with h
  injection h with h1 h2
  injection h2 with h2 _
  exact Prod.ext (str_inj h1) (famT_inj h2), fun b => (kin_facts b).1, fun b => by rw [(kin_facts b).2.2]; omega, kin_alk⟩
section
variable {α : Type} {e : α → T} {S : Sto}
theorem KE.eqt (h : KE e) [DecidableEq α] (a b : α) : eqt (e a) (e b) = decide (a = b) := by
  have z := eqt_kx (e a) (e b) (h.kx a) (h.kx b)
  by_cases q : a = b
  · subst q; rw [decide_eq_true rfl]; exact z.mpr rfl
  · rw [decide_eq_false q]
    cases w : TL.eqt (e a) (e b) with
    | false => rfl
    | true => exact absurd (h.inj _ _ (z.mp w)) q
theorem KE.eqT (h : KE e) [DecidableEq α] (a b : α) : eqT emp (e a) (e b) = some (.bl (decide (a = b))) := by
  have r : ∀ a, res emp (e a) = e a := fun a => by
    have := h.kx a
    cases q : e a with
    | ref x => rw [q] at this; cases this
    | _ => rfl
  unfold TL.eqT
  rw [r, r, h.okd, h.okd, h.eqt]
  rfl
theorem KE.neT (h : KE e) [DecidableEq α] (a b : α) : neT emp (e a) (e b) = some (.bl (!decide (a = b))) := by
  have r : ∀ a, res emp (e a) = e a := fun a => by
    have := h.kx a
    cases q : e a with
    | ref x => rw [q] at this; cases this
    | _ => rfl
  unfold TL.neT
  rw [r, r, h.okd, h.okd, h.eqt]
  rfl
theorem KE.any (h : KE e) [DecidableEq α] (a : α) : ∀ xs : List α, ((xs.map e).any fun z => TL.eqt z (e a)) = decide (a ∈ xs)
  | [] => rfl
  | x :: xs => by
    rw [List.map_cons, List.any_cons, KE.any h a xs, h.eqt]
    by_cases q : x = a
    · subst q; simp
    · have q' : a ≠ x := fun z => q z.symm
      simp [q, q']
theorem KE.okds (h : KE e) (xs : List α) : TL.okd (.lst (xs.map e)) = true ∧ TL.okd (.tup (xs.map e)) = true := okd_map fun x _ => ⟨h.okd x, by have := h.dp x; omega⟩
theorem KE.inT (h : KE e) [DecidableEq α] (a : α) (xs : List α) : inT emp (e a) (.tup (xs.map e)) = some (.bl (decide (a ∈ xs))) ∧ inT emp (e a) (.lst (xs.map e)) = some (.bl (decide (a ∈ xs))) := by
  constructor
  · unfold TL.inT inQ
    show Option.map _ (if (TL.okd (e a) && TL.okd (.tup (xs.map e))) = true then _ else none) = _
    rw [h.okd, (h.okds xs).2, Bool.and_self, if_pos rfl, h.any]; rfl
  · unfold TL.inT inQ
    show Option.map _ (if (TL.okd (e a) && TL.okd (.lst (xs.map e))) = true then _ else none) = _
    rw [h.okd, (h.okds xs).1, Bool.and_self, if_pos rfl, h.any]; rfl
theorem KE.ninT (h : KE e) [DecidableEq α] (a : α) (xs : List α) : ninT emp (e a) (.tup (xs.map e)) = some (.bl (!decide (a ∈ xs))) ∧ ninT emp (e a) (.lst (xs.map e)) = some (.bl (!decide (a ∈ xs))) := by
  constructor
  · unfold TL.ninT inQ
    show Option.map _ (if (TL.okd (e a) && TL.okd (.tup (xs.map e))) = true then _ else none) = _
    rw [h.okd, (h.okds xs).2, Bool.and_self, if_pos rfl, h.any]; rfl
  · unfold TL.ninT inQ
    show Option.map _ (if (TL.okd (e a) && TL.okd (.lst (xs.map e))) = true then _ else none) = _
    rw [h.okd, (h.okds xs).1, Bool.and_self, if_pos rfl, h.any]; rfl
theorem KE.kxs (h : KE e) (xs : List α) : TL.kxs (xs.map e) = true := kxs_map fun x _ => h.kx x
theorem KE.eqts (h : KE e) [DecidableEq α] (xs ys : List α) : TL.eqts (xs.map e) (ys.map e) = decide (xs = ys) := by
  have z := eqts_kx (xs.map e) (ys.map e) (h.kxs xs) (h.kxs ys)
  by_cases q : xs = ys
  · subst q; rw [decide_eq_true rfl]; exact z.mpr rfl
  · rw [decide_eq_false q]
    cases w : TL.eqts (xs.map e) (ys.map e) with
    | false => rfl
    | true => exact absurd ((List.map_inj_right h.inj).mp (z.mp w)) q
/-- sorted -/
def srt (e : α → T) (xs : List α) : List α := xs.mergeSort fun a b => leT' (e a) (e b)
def ddup (e : α → T) : List α → List α
  | [] => []
  | t :: ts => if ((ddup e ts).any fun u => TL.eqt (e t) (e u)) = true then ddup e ts else t :: ddup e ts
def srtU (e : α → T) (xs : List α) : List α := srt e (ddup e xs)
theorem srt_map (xs : List α) : (xs.map e).mergeSort leT' = (srt e xs).map e := (List.map_mergeSort (r := fun a b => leT' (e a) (e b)) (s := leT') (f := e) (l := xs) fun a _ b _ => rfl).symm
theorem ddup_map : ∀ xs : List α, dedupT (xs.map e) = (ddup e xs).map e
  | [] => rfl
  | x :: xs => by
    rw [List.map_cons]
    unfold dedupT ddup
    rw [ddup_map xs, List.any_map, show (eqt (e x) ∘ e) = fun u => eqt (e x) (e u) from rfl]
    by_cases h : ((ddup e xs).any fun u => TL.eqt (e x) (e u)) = true
    · rw [if_pos h, if_pos h]
    · rw [if_neg h, if_neg h]; rfl
theorem srtU_map (xs : List α) : sortU (xs.map e) = (srtU e xs).map e := by
  unfold sortU srtU
  rw [ddup_map, srt_map]
theorem srt_perm (xs : List α) : (srt e xs).Perm xs := List.mergeSort_perm xs _
theorem srt_len (xs : List α) : (srt e xs).length = xs.length := (srt_perm xs).length_eq
theorem srt_mem {xs : List α} {a : α} : a ∈ srt e xs ↔ a ∈ xs := (srt_perm xs).mem_iff
theorem KE.ddup_mem (h : KE e) : ∀ {xs : List α} {a : α}, a ∈ ddup e xs ↔ a ∈ xs
  | [], _ => Iff.rfl
  | x :: xs, a => by
    have ih : ∀ {a : α}, a ∈ ddup e xs ↔ a ∈ xs := KE.ddup_mem h (xs := xs)
    unfold ddup
    by_cases q : ((ddup e xs).any fun u => TL.eqt (e x) (e u)) = true
    · rw [if_pos q, ih, List.mem_cons]
      refine ⟨.inr, fun z => z.elim (fun z => ?_) id⟩
      obtain ⟨u, hu, w⟩ := List.any_eq_true.mp q
      have := h.inj _ _ ((eqt_kx _ _ (h.kx x) (h.kx u)).mp w)
      subst z; subst this
      exact ih.mp hu
    · rw [if_neg q, List.mem_cons, List.mem_cons, ih]
theorem KE.ddup_nodup (h : KE e) : ∀ xs : List α, (ddup e xs).Nodup
  | [] => List.nodup_nil
  | x :: xs => by
    have ih := KE.ddup_nodup h xs
    unfold ddup
    by_cases q : ((ddup e xs).any fun u => TL.eqt (e x) (e u)) = true
    · rw [if_pos q]; exact ih
    · rw [if_neg q]
      refine List.nodup_cons.mpr ⟨fun z => q (List.any_eq_true.mpr ⟨x, z, ?_⟩), ih⟩
      exact (eqt_kx _ _ (h.kx x) (h.kx x)).mpr rfl
theorem ddup_len : ∀ xs : List α, (ddup e xs).length ≤ xs.length
  | [] => Nat.le_refl _
  | x :: xs => by
    have := ddup_len xs
    unfold ddup
    split
    · rw [List.length_cons]; omega
    · rw [List.length_cons, List.length_cons]; omega
theorem KE.srtU_mem (h : KE e) {xs : List α} {a : α} : a ∈ srtU e xs ↔ a ∈ xs := srt_mem.trans h.ddup_mem
theorem KE.srtU_nodup (h : KE e) (xs : List α) : (srtU e xs).Nodup := (srt_perm _).nodup_iff.mpr (h.ddup_nodup xs)
theorem srtU_len (xs : List α) : (srtU e xs).length ≤ xs.length := by
  unfold srtU
  rw [srt_len]
  exact ddup_len xs
/-- can be sorted -/
structure SE (e : α → T) (P : α → Prop) : Prop where
  ke : KE e
  srt : ∀ xs : List α, (∀ x ∈ xs, P x) → sortOk (xs.map e) = true
theorem se_str : SE T.str fun _ => True := ⟨ke_str, fun xs _ => sortOk_strs xs⟩
theorem se_fam : SE famT fun f => f ≠ [] := ⟨ke_fam, fun xs h => sortOk_of_tups (fun f _ => ke_fam.okd f) (fun f _ g _ => fam_alk f g) fun f hf => by
  cases q : f with
  | nil => exact absurd q (h f hf)
  | cons a b => exact ⟨_, _, rfl⟩⟩
theorem se_fk : SE fkT fun _ => True := ⟨ke_fk, fun xs _ => sortOk_of_tups (fun f _ => ke_fk.okd f) (fun f _ g _ => rfl) fun f _ => ⟨_, _, rfl⟩⟩
theorem se_kin : SE kinT fun _ => True := ⟨ke_kin, fun xs _ => sortOk_of_tups (fun f _ => ke_kin.okd f) (fun f _ g _ => kin_alk f g) fun f _ => ⟨_, _, rfl⟩⟩
variable {P : α → Prop}
theorem SE.sorted (h : SE e P) {xs : List α} (hp : ∀ x ∈ xs, P x) (hl : xs.length ≤ sizeLine) : sortedF emp [.lst (xs.map e)] = some (.lst ((TL.srt e xs).map e)) ∧ sortedF emp [.tup (xs.map e)] = some (.lst ((TL.srt e xs).map e)) := by
  constructor
  · rw [sortedF_lst, h.srt xs hp, List.length_map, decide_eq_true hl, Bool.and_self, if_pos rfl, srt_map]
  · rw [sortedF_tup, h.srt xs hp, List.length_map, decide_eq_true hl, Bool.and_self, if_pos rfl, srt_map]
theorem SE.rise (h : SE e P) {xs : List α} (hp : ∀ x ∈ xs, P x) (nd : xs.Nodup) : Rise ((TL.srt e xs).map e) := by
  rw [← srt_map]
  exact rise_sort (h.ke.kxs xs) (h.srt xs hp) (nodup_map h.ke.inj nd)
theorem SE.riseU (h : SE e P) {xs : List α} (hp : ∀ x ∈ xs, P x) : Rise ((srtU e xs).map e) := h.rise (fun x hx => hp x (h.ke.ddup_mem.mp hx)) (h.ke.ddup_nodup xs)
theorem SE.sset (h : SE e P) {xs : List α} (hp : ∀ x ∈ xs, P x) (ht : ∀ x, isTup (e x) = true) (hl : xs.length ≤ 62) : ssetT emp (.lst (xs.map e)) = some (.lst ((srtU e xs).map e)) ∧ ssetT emp (.tup (xs.map e)) = some (.lst ((srtU e xs).map e)) := by
  have so := setOk_tups (f := e) (xs := xs) (fun x _ => h.ke.kx x) (fun x _ => ht x) (fun x _ => h.ke.dp x) hl
  have st := h.srt xs hp
  constructor
  · rw [ssetT_lst, so, st, Bool.and_self, if_pos rfl, srtU_map]
  · rw [ssetT_tup, so, st, Bool.and_self, if_pos rfl, srtU_map]
theorem SE.slen (h : SE e P) {xs : List α} (ht : ∀ x, isTup (e x) = true) (hl : xs.length ≤ 62) : slenT emp (.lst (xs.map e)) = some (.int (ddup e xs).length) ∧ slenT emp (.tup (xs.map e)) = some (.int (ddup e xs).length) := by
  have so := setOk_tups (f := e) (xs := xs) (fun x _ => h.ke.kx x) (fun x _ => ht x) (fun x _ => h.ke.dp x) hl
  constructor
  · rw [slenT_lst, so, if_pos rfl, ddup_map, List.length_map]
  · rw [slenT_tup, so, if_pos rfl, ddup_map, List.length_map]
theorem setOk_strsD {xs : List Nm} (hl : (ddup T.str xs).length + 2 < scanBound) : setOk (xs.map T.str) = true := by
  unfold setOk
  rw [kxs_strs, show (xs.map T.str).all isScan = true from List.all_eq_true.mpr fun t ht => by obtain ⟨x, _, rfl⟩ := List.mem_map.mp ht; rfl, ddup_map, List.length_map, decide_eq_true hl]
  simp
theorem sset_strsD {xs : List Nm} (hl : (ddup T.str xs).length + 2 < scanBound) : ssetT emp (.lst (xs.map T.str)) = some (.lst ((srtU T.str xs).map T.str)) ∧ ssetT emp (.tup (xs.map T.str)) = some (.lst ((srtU T.str xs).map T.str)) := by
  constructor
  · rw [ssetT_lst, setOk_strsD hl, sortOk_strs, Bool.and_self, if_pos rfl, srtU_map]
  · rw [ssetT_tup, setOk_strsD hl, sortOk_strs, Bool.and_self, if_pos rfl, srtU_map]
theorem sset_strs {xs : List Nm} (hl : xs.length + 2 < scanBound) : ssetT emp (.lst (xs.map T.str)) = some (.lst ((srtU T.str xs).map T.str)) ∧ ssetT emp (.tup (xs.map T.str)) = some (.lst ((srtU T.str xs).map T.str)) := sset_strsD (by have := ddup_len (e := T.str) xs; omega)
/-- two rising rows of the same things are one -/
theorem rise_ext : ∀ {xs ys : List T}, Rise xs → Rise ys → (∀ a, a ∈ xs ↔ a ∈ ys) → (∀ a ∈ xs, ∀ b ∈ xs, ltt a b = true → ltt b a = false) → xs = ys
  | [], [], _, _, _, _ => rfl
  | [], y :: ys, _, _, h, _ => by have := (h y).mpr List.mem_cons_self; cases this
  | x :: xs, [], _, _, h, _ => by have := (h x).mp List.mem_cons_self; cases this
  | x :: xs, y :: ys, h1, h2, h, as => by
    obtain ⟨a1, a2⟩ := List.pairwise_cons.mp h1
    obtain ⟨b1, b2⟩ := List.pairwise_cons.mp h2
    have e : x = y := by
      rcases List.mem_cons.mp ((h x).mp List.mem_cons_self) with z | z
      · exact z
      rcases List.mem_cons.mp ((h y).mpr List.mem_cons_self) with w | w
      · exact w.symm
      have p := a1 y w
      have q := b1 x z
      have := as x List.mem_cons_self y (List.mem_cons_of_mem _ w) p
      rw [q] at this
      cases this
    subst e
    have irr : ∀ a ∈ x :: xs, ltt a a = false := fun a ha => by
      cases q : ltt a a with
      | false => rfl
      | true =>
        have := as a ha a ha q
        rw [q] at this
        exact this
    rw [rise_ext a2 b2 (fun a => ⟨fun ha => ?_, fun ha => ?_⟩) fun a ha b hb => as a (List.mem_cons_of_mem _ ha) b (List.mem_cons_of_mem _ hb)]
    · rcases List.mem_cons.mp ((h a).mp (List.mem_cons_of_mem _ ha)) with z | z
      · subst z
        have := a1 a ha
        rw [irr a List.mem_cons_self] at this
        cases this
      · exact z
    · rcases List.mem_cons.mp ((h a).mpr (List.mem_cons_of_mem _ ha)) with z | z
      · subst z
        have := b1 a ha
        rw [irr a List.mem_cons_self] at this
        cases this
      · exact z
theorem ltt_asym {x y : T} (kx1 : TL.kx x = true) (ky : TL.kx y = true) (al : TL.alk x y = true) (nx : x ≠ .non) (ny : y ≠ .non) (h : ltt x y = true) : ltt y x = false := by
  have d1 := ltt_dat x y (kx_plain _ kx1) (kx_plain _ ky) al nx
  have d2 := ltt_dat y x (kx_plain _ ky) (kx_plain _ kx1) (by rw [alk_symm]; exact al) ny
  cases q : ltt y x with
  | false => rfl
  | true =>
    rw [h] at d1
    rw [q] at d2
    have := lex_trans _ _ _ d1 d2
    rw [lex_irrefl] at this
    cases this
theorem KE.rise_ext (h : KE e) (hn : ∀ a, e a ≠ .non) {xs ys : List α} (h1 : Rise (xs.map e)) (h2 : Rise (ys.map e)) (hm : ∀ a, a ∈ xs ↔ a ∈ ys) : xs = ys := by
  refine (List.map_inj_right h.inj).mp (TL.rise_ext h1 h2 (fun t => ?_) fun a ha b hb hl => ?_)
  · simp only [List.mem_map]
    exact ⟨fun ⟨a, ha, q⟩ => ⟨a, (hm a).mp ha, q⟩, fun ⟨a, ha, q⟩ => ⟨a, (hm a).mpr ha, q⟩⟩
  · obtain ⟨x, _, rfl⟩ := List.mem_map.mp ha
    obtain ⟨y, _, rfl⟩ := List.mem_map.mp hb
    exact ltt_asym (h.kx x) (h.kx y) (h.alk x y) (hn x) (hn y) hl
end
end TL
namespace TL
open PySem PySem.Spec PyProof.Rows L2
section
variable {κ α β : Type} {e : α → T}
theorem gdc_T : gdc (κ := κ) True = pu () := gdc_t trivial
theorem isStr_str {x : Nm} : isStr (.str x) = true := rfl
theorem isTup_tup {x : List T} : isTup (.tup x) = true := rfl
theorem joinF_l {a : Nm} {ts : List T} : joinF emp (.str a) [.lst ts] = (strsOf ts).bind fun xs => if joinSz a xs = true then some (T.str (jnL a xs)) else none := by
  show (match strsOf ts with | some xs => if joinSz a xs = true then some (T.str (jnL a xs)) else none | none => none) = _
  cases strsOf ts <;> rfl
theorem joinF_t {a : Nm} {ts : List T} : joinF emp (.str a) [.tup ts] = (strsOf ts).bind fun xs => if joinSz a xs = true then some (T.str (jnL a xs)) else none := by
  show (match strsOf ts with | some xs => if joinSz a xs = true then some (T.str (jnL a xs)) else none | none => none) = _
  cases strsOf ts <;> rfl
theorem strsOf_nil : strsOf [] = some [] := rfl
theorem strsOf_cons {x : Nm} {ts : List T} : strsOf (.str x :: ts) = (strsOf ts).map (x :: ·) := rfl
theorem extM_l {xs zs : List T} : extM (κ := κ) xs (.lst zs) = bd (gdc (xs.length + zs.length ≤ sizeLine)) fun _ => pu (xs ++ zs) := by
  show bd (gd _) _ = _
  rw [gd_c]
theorem appM_c {xs : List T} {y : T} : appM (κ := κ) xs y = bd (gdc (xs.length < sizeLine)) fun _ => pu (xs ++ [y]) := by
  unfold appM
  rw [gd_c]
theorem forR_all {σ : Type} {f : T → σ → PM κ (Fl σ)} {xs : List T} {s : σ} (h : ∀ x ∈ xs, f x s = pu (.nx s)) : forR f xs s = pu (.inl s) := by rw [forR_A]; exact forRA_all xs s h
theorem joinSz_ok {a : Nm} {xs : List Nm} {k : Nat} (h : ∀ x ∈ xs, x.length ≤ k) (h2 : xs.length * (k + a.length) ≤ 1000000) : joinSz a xs = true := by
  have : (xs.map (·.length)).sum ≤ xs.length * k := by
    clear h2
    induction xs with
    | nil => exact Nat.zero_le _
    | cons x xs ih =>
      have a1 := h x List.mem_cons_self
      have a2 := ih fun y hy => h y (List.mem_cons_of_mem _ hy)
      rw [List.map_cons, List.sum_cons, List.length_cons, Nat.succ_mul]
      omega
  rw [Nat.mul_add] at h2
  show decide ((xs.map fun x => x.length).sum + xs.length * a.length ≤ 1000000) = true
  exact decide_eq_true (by omega)
theorem ix_map {xs : List α} {i : Int} (h0 : 0 ≤ i) (h1 : i < xs.length) : ∃ a, a ∈ xs ∧ ixT emp (.lst (xs.map e)) (.int i) = some (e a) ∧ ixT emp (.tup (xs.map e)) (.int i) = some (e a) := by
  obtain ⟨a, ha, q⟩ := atI_map_getD (f := e) h0 h1
  exact ⟨a, ha, q, q⟩
theorem neT_nilL {xs : List α} (h : KE e) : neT emp (.lst (xs.map e)) (.lst []) = some (.bl (!xs.isEmpty)) := by
  have := neT_nil (S := emp) (z := .lst (xs.map e)) (ts := xs.map e) rfl (h.okds xs).1
  rw [this]
  cases xs <;> rfl
theorem eqT_nilL {xs : List α} (h : KE e) : eqT emp (.lst (xs.map e)) (.lst []) = some (.bl xs.isEmpty) := by
  show (if (okd (.lst (xs.map e)) && okd (.lst [])) = true then some (T.bl (eqt (.lst (xs.map e)) (.lst []))) else none) = _
  rw [(h.okds xs).1]
  show some (T.bl (eqts (xs.map e) [])) = _
  rw [eqts_nil]
  cases xs <;> rfl
theorem jn_ones (cs : List Sg) : jnL [] (cs.map fun c => [c]) = cs := by
  cases cs with
  | nil => rfl
  | cons c cs =>
    show [c] ++ ((cs.map fun c => [c]).map ([] ++ ·)).flatten = c :: cs
    have : ((cs.map fun c => [c]).map (([] : List Sg) ++ ·)).flatten = cs := by
      rw [List.map_map]
      induction cs with
      | nil => rfl
      | cons d ds ih => rw [List.map_cons, List.flatten_cons, ih]; rfl
    rw [this]
    rfl
theorem at_ones {x : Nm} {i : Int} (h0 : 0 ≤ i) (h1 : i < x.length) (h2 : x.length ≤ sizeLine) : ∃ c, c ∈ x ∧ ixT emp (.str x) (.int i) = some (.str [c]) := by
  obtain ⟨c, hc, q⟩ := atI_mem h0 h1
  exact ⟨c, hc, by rw [ixT_str, if_pos h2, q]; rfl⟩
end
theorem famOk_sub {n1 n2 : List Nm} {f : List Nm} (h : FamOk n1 f) (s : ∀ x ∈ n1, x ∈ n2) : FamOk n2 f := ⟨h.lo, h.hi, h.rise, h.nd, fun x hx => s x (h.mem x hx)⟩
structure Bk where
  folk : List (Nm × Nm)
  unions : List (List Nm)
  births : List (Nm × List Nm)
  adopts : List (Nm × List Nm)
def bkT (B : Bk) : T := .tup [.tup (B.folk.map fkT), .tup (B.unions.map famT), .tup (B.births.map kinT), .tup (B.adopts.map kinT)]
def Bk.names (B : Bk) : List Nm := B.folk.map (·.1)
structure BkOk (B : Bk) : Prop where
  name : ∀ x ∈ B.folk, NameOk x.1 ∧ x.2 ∈ MKS
  nd : B.names.Nodup
  rf : Rise (B.folk.map fkT)
  lf : B.folk.length ≤ 16
  un : ∀ f ∈ B.unions, FamOk B.names f
  ru : Rise (B.unions.map famT)
  lu : B.unions.length ≤ 16
  bi : ∀ b ∈ B.births, KinOk B.names B.unions b
  rb : Rise (B.births.map kinT)
  lb : B.births.length ≤ 24
  ad : ∀ b ∈ B.adopts, KinOk B.names B.unions b
  ra : Rise (B.adopts.map kinT)
  la : B.adopts.length ≤ 12
theorem wmo_pick {d : Int} (h0 : 0 ≤ d) (h1 : d < 3) : ∃ w, w ∈ MKS ∧ ixT emp (.str (q "wmo")) (.int d) = some (.str w) := by
  obtain ⟨n, rfl⟩ := Int.eq_ofNat_of_zero_le h0
  have h : n < 3 := by omega
  refine ⟨MKS.getD n [], ?_, wmo_at h⟩
  match n, h with
  | 0, _ => decide +kernel
  | 1, _ => decide +kernel
  | 2, _ => decide +kernel
section
variable {B : Bk} (h : BkOk B)
include h
theorem BkOk.nm {x : Nm} (hx : x ∈ B.names) : NameOk x := by
  obtain ⟨p, hp, rfl⟩ := List.mem_map.mp hx
  exact (h.name p hp).1
theorem BkOk.nlen {x : Nm} (hx : x ∈ B.names) : x.length ≤ 8 := (h.nm hx).2.1
theorem BkOk.mlen {p : Nm × Nm} (hp : p ∈ B.folk) : p.2.length = 1 := MKS_len _ (h.name p hp).2
theorem BkOk.flen {f : List Nm} (hf : f ∈ B.unions) : f.length ≤ 2 ∧ 1 ≤ f.length ∧ ∀ x ∈ f, x.length ≤ 8 := ⟨(h.un f hf).hi, (h.un f hf).lo, fun x hx => h.nlen ((h.un f hf).mem x hx)⟩
end
end TL
namespace TL
open PySem PySem.Spec PyProof.Rows L2
structure Lens (B : Bk) : Prop where
  f : ∀ a ∈ B.folk, a.1.length ≤ 8 ∧ a.2.length = 1
  u : ∀ a ∈ B.unions, a.length ≤ 2 ∧ ∀ x ∈ a, x.length ≤ 8
  b : ∀ a ∈ B.births, a.1.length ≤ 8 ∧ a.2.length ≤ 2 ∧ ∀ x ∈ a.2, x.length ≤ 8
  a : ∀ a ∈ B.adopts, a.1.length ≤ 8 ∧ a.2.length ≤ 2 ∧ ∀ x ∈ a.2, x.length ≤ 8
theorem BkOk.lens {B : Bk} (h : BkOk B) : Lens B where
  f a ha := ⟨h.nlen (List.mem_map_of_mem ha), h.mlen ha⟩
  u a ha := ⟨(h.flen ha).1, (h.flen ha).2.2⟩
  b a ha := ⟨h.nlen (h.bi a ha).kid, (h.flen (h.bi a ha).fam).1, (h.flen (h.bi a ha).fam).2.2⟩
  a a ha := ⟨h.nlen (h.ad a ha).kid, (h.flen (h.ad a ha).fam).1, (h.flen (h.ad a ha).fam).2.2⟩
theorem kis_non_non : Kd.non.is .non = true := by decide
theorem kis_non_bool : Kd.non.is .bool = false := by decide
theorem kis_non_int : Kd.non.is .int = false := by decide
theorem kis_non_str : Kd.non.is .str = false := by decide
theorem kis_non_tup : Kd.non.is .tup = false := by decide
theorem kis_non_lst : Kd.non.is .lst = false := by decide
theorem kis_non_dct : Kd.non.is .dct = false := by decide
theorem kis_bool_non : Kd.bool.is .non = false := by decide
theorem kis_bool_bool : Kd.bool.is .bool = true := by decide
theorem kis_bool_int : Kd.bool.is .int = true := by decide
theorem kis_bool_str : Kd.bool.is .str = false := by decide
theorem kis_bool_tup : Kd.bool.is .tup = false := by decide
theorem kis_bool_lst : Kd.bool.is .lst = false := by decide
theorem kis_bool_dct : Kd.bool.is .dct = false := by decide
theorem kis_int_non : Kd.int.is .non = false := by decide
theorem kis_int_bool : Kd.int.is .bool = false := by decide
theorem kis_int_int : Kd.int.is .int = true := by decide
theorem kis_int_str : Kd.int.is .str = false := by decide
theorem kis_int_tup : Kd.int.is .tup = false := by decide
theorem kis_int_lst : Kd.int.is .lst = false := by decide
theorem kis_int_dct : Kd.int.is .dct = false := by decide
theorem kis_str_non : Kd.str.is .non = false := by decide
theorem kis_str_bool : Kd.str.is .bool = false := by decide
theorem kis_str_int : Kd.str.is .int = false := by decide
theorem kis_str_str : Kd.str.is .str = true := by decide
theorem kis_str_tup : Kd.str.is .tup = false := by decide
theorem kis_str_lst : Kd.str.is .lst = false := by decide
theorem kis_str_dct : Kd.str.is .dct = false := by decide
theorem kis_tup_non : Kd.tup.is .non = false := by decide
theorem kis_tup_bool : Kd.tup.is .bool = false := by decide
theorem kis_tup_int : Kd.tup.is .int = false := by decide
theorem kis_tup_str : Kd.tup.is .str = false := by decide
theorem kis_tup_tup : Kd.tup.is .tup = true := by decide
theorem kis_tup_lst : Kd.tup.is .lst = false := by decide
theorem kis_tup_dct : Kd.tup.is .dct = false := by decide
theorem kis_lst_non : Kd.lst.is .non = false := by decide
theorem kis_lst_bool : Kd.lst.is .bool = false := by decide
theorem kis_lst_int : Kd.lst.is .int = false := by decide
theorem kis_lst_str : Kd.lst.is .str = false := by decide
theorem kis_lst_tup : Kd.lst.is .tup = false := by decide
theorem kis_lst_lst : Kd.lst.is .lst = true := by decide
theorem kis_lst_dct : Kd.lst.is .dct = false := by decide
theorem kis_dct_non : Kd.dct.is .non = false := by decide
theorem kis_dct_bool : Kd.dct.is .bool = false := by decide
theorem kis_dct_int : Kd.dct.is .int = false := by decide
theorem kis_dct_str : Kd.dct.is .str = false := by decide
theorem kis_dct_tup : Kd.dct.is .tup = false := by decide
theorem kis_dct_lst : Kd.dct.is .lst = false := by decide
theorem kis_dct_dct : Kd.dct.is .dct = true := by decide
theorem isi_bl {S : Sto} {ks : List Kd} {b : Bool} : isiT ks S (.bl b) = some (.bl (ks.any fun c => Kd.is .bool c)) := rfl
theorem isi_non {S : Sto} {ks : List Kd} : isiT ks S .non = some (.bl (ks.any fun c => Kd.is .non c)) := rfl
theorem compA_ifo {κ α : Type} {p : α → Prop} [DecidablePred p] {g : α → T} (xs : List α) : compA (κ := κ) (fun a => pu (if p a then some (g a) else none)) xs = pu ((xs.filter fun a => decide (p a)).map g) := by
  rw [← compA_if]
  congr
  funext a
  split <;> rfl
theorem nodup_of_map {α β : Type} {f : α → β} {l : List α} (h : (l.map f).Nodup) : l.Nodup := (List.pairwise_map.mp h).imp fun hne e => hne (by rw [e])
inductive Dt : Nat → T → Prop
  | str (n : Nat) (x : Nm) : Dt n (.str x)
  | int (n : Nat) (i : Int) : Dt n (.int i)
  | bl (n : Nat) (b : Bool) : Dt n (.bl b)
  | tup {n : Nat} {xs : List T} : (∀ x ∈ xs, Dt n x) → xs.length ≤ 100000 → Dt (n + 1) (.tup xs)
  | lst {n : Nat} {xs : List T} : (∀ x ∈ xs, Dt n x) → xs.length ≤ 100000 → Dt (n + 1) (.lst xs)
theorem Dt.up : ∀ {n : Nat} {t : T}, Dt n t → Dt (n + 1) t
  | _, _, .str n x => .str _ x
  | _, _, .int n x => .int _ x
  | _, _, .bl n x => .bl _ x
  | _, _, .tup h l => .tup (fun x hx => Dt.up (h x hx)) l
  | _, _, .lst h l => .lst (fun x hx => Dt.up (h x hx)) l
theorem Dt.le {n m : Nat} {t : T} (h : Dt n t) (k : n ≤ m) : Dt m t := by
  induction k with
  | refl => exact h
  | step _ ih => exact ih.up
end TL
namespace TL
open PySem PySem.Spec PyProof.Rows L2
theorem kyT_str {x : Nm} : kyT (.str x) = some (.inr (txt x)) := rfl
theorem txt_iff {x y : Nm} : (some (.inr (txt x) : Key) = some (.inr (txt y))) ↔ x = y := by
  constructor
  · intro h
    injection h with h
    injection h with h
    exact txt_inj h
  · rintro rfl; rfl
theorem dHs_strs (x : Nm) : ∀ xs : List Nm, dHs (xs.map T.str) (.inr (txt x)) = decide (x ∈ xs)
  | [] => rfl
  | y :: ys => by
    rw [List.map_cons]
    unfold dHs
    rw [dHs_strs x ys, kyT_str]
    by_cases h : y = x
    · subst h; rw [if_pos rfl]; simp
    · rw [if_neg fun z => h (txt_iff.mp z)]
      have h' : x ≠ y := fun z => h z.symm
      simp [h']
theorem dLk_strs {F : Nm → T} {x : Nm} : ∀ {xs : List Nm}, x ∈ xs → dLk (xs.map T.str) (xs.map F) (.inr (txt x)) = some (F x)
  | [], h => by cases h
  | y :: ys, h => by
    rw [List.map_cons, List.map_cons]
    unfold dLk
    rw [kyT_str]
    by_cases e : y = x
    · subst e; rw [if_pos rfl]
    · rw [if_neg fun z => e (txt_iff.mp z)]
      exact dLk_strs ((List.mem_cons.mp h).resolve_left fun z => e z.symm)
theorem dgT_strs {F : Nm → T} {x : Nm} {xs : List Nm} (h : x ∈ xs) : dgT emp (.dct false (xs.map T.str) (xs.map F)) (.str x) = some (F x) := by
  show dLk _ _ _ = _
  exact dLk_strs h
def Bk.kins (B : Bk) : List (Nm × List Nm) := B.births ++ B.adopts
theorem BkOk.kin {B : Bk} (h : BkOk B) {b : Nm × List Nm} (hb : b ∈ B.kins) : KinOk B.names B.unions b := (List.mem_append.mp hb).elim (h.bi b) (h.ad b)
theorem BkOk.lk {B : Bk} (h : BkOk B) : B.kins.length ≤ 36 := by
  have := h.lb; have := h.la
  unfold Bk.kins
  rw [List.length_append]; omega
end TL
namespace TL
open PySem PySem.Spec PyProof.Rows L2
section
variable {X : Cx} {e : Expr} {p apos cpos pos : Pos}
def dvalsT (S : Sto) (x : T) : Option T := (dView S x).map fun p => .lst p.2
end
def tDictZip (X : Cx) (ta : L2.TA) : L2.TE := fun σ H Q => ta σ H fun us H1 => ∃ (a b : Addr) (ks : List Key) (ys : List V), us = [.ref a, .ref b] ∧ SqL X.K H1 a (ks.map kV) ∧ SqL X.K H1 b ys ∧ ∀ q, H1 q = none → Q (.ref q) (upd H1 q (.dK (mergeK [] (ks.zip ys))))
section
variable {X : Cx} {e e2 : Expr} {p p2 pos pos2 : Pos}
theorem kv_zip {ks : List Key} {ys : List V} {us : List Value} (r : Vals ys us) : KV (ks.zip ys) (ks.zip us) := by
  induction r generalizing ks with
  | nil => rw [List.zip_nil_right, List.zip_nil_right]; exact .nil
  | cons h t ih =>
    cases ks with
    | nil => exact .nil
    | cons k ks => exact .cons ⟨rfl, h⟩ ih
theorem pe_dictZip {ta : L2.TA} (hc : X.calm = true) (ha : PA X [e, e2] ta) (hg : Gl X "dict") (hm : X.mg "dict" = none) (hv : bootBuiltins "dict" = some (.type "dict")) (hg2 : Gl X "zip") (hm2 : X.mg "zip" = none)
    (hs : starEach [.Call (.Name "zip" p2) [e, e2] [] pos2] X.env = (false, eval (.Call (.Name "zip" p2) [e, e2] [] pos2) X.env) :: starEach [] X.env := by rfl)
    (hs2 : starEach [e, e2] X.env = (false, eval e X.env) :: starEach [e2] X.env := by rfl) (hpl2 : (backTo pos2 (starEach [e2] X.env)).any (·.1) = false := by rfl) :
    PE X (.Call (.Name "dict" p) [.Call (.Name "zip" p2) [e, e2] [] pos2] [] pos) (tDictZip X ta) := by
  refine ⟨fun pins s σ H Q I hq => ?_⟩
  refine wpAny_Call_Name_kw (ld_blt I hg hm hv ?_)
  refine PyProof.Rows.callWith_type1 ?_ hs rfl
  rw [hs]
  show wpAny _ _ (spliced ((false, eval (.Call (.Name "zip" p2) [e, e2] [] pos2) X.env) :: backTo pos (starEach [] X.env))) _ _ s
  refine Calls.spliced_cons ?_
  refine Call_ (ld_blt I hg2 hm2 PyProof.Rows.boot_zip (PyProof.Rows.callWith_type1 (thn (ha.run pos2 pins s σ H _ I hq) fun us s1 ⟨vs, H1, I1, r1, q1⟩ => ?_) hs2 hpl2))
  obtain ⟨a, b, ks, ys, ex, hqx, hqy, q⟩ := q1
  subst ex
  cases r1 with
  | cons r rr =>
    cases rr with
    | cons r' rr =>
      cases rr
      cases r
      cases r'
      obtain ⟨its, rv, p1, z1⟩ := I1.list hqx
      obtain ⟨its2, rv2, p2, z2⟩ := I1.list hqy
      have la : a < s1.heap.objs.size := p1.lt
      have lb : b < s1.heap.objs.size := p2.lt
      refine call_zip_2 p1.isList p2.isList fun h' hz hTI hTO h1 h2 hsz hk => ?_
      refine Calls.spliced_nil ?_
      have l1 : ks.length = its.length := by have := rv.length; simpa using this
      have l2 : ys.length = its2.length := rv2.length
      refine PySem.call_dict_pairs (knd := mixKind X.prog X.w) (kvs := ks.zip its2) (PairArg.zip (s1.heap.objs.size + 4) (s1.heap.objs.size + 2) (s1.heap.objs.size + 3) s1.heap.objs.size (s1.heap.objs.size + 1) a b (PySem.W.ktu_apart s1.heap.objs.size a b la lb) its.toArray its2.toArray) (I1.ok.hd hc) ⟨hz, hTI, ⟨_, _, hTO⟩, h1, h2, p1.isList.at fun o e => hk _ o e, p2.isList.at fun o e => hk _ o e⟩ ⟨?_, fun i key v ⟨g1, g2⟩ => ?_⟩ ?_ fun h'' tk hd hk2 => ?_
      · rw [List.length_zip]; simp [l1]
      · have g1' : its[i]? = some key := by simpa using g1
        have g2' : its2[i]? = some v := by simpa using g2
        have hi : i < its.length := (List.getElem?_eq_some_iff.mp g1').1
        have hk' : ks[i]? = some (ks[i]'(by omega)) := List.getElem?_eq_getElem (by omega)
        refine ⟨ks[i]'(by omega), ?_, ?_⟩
        · rw [List.getElem?_zip_eq_some]; exact ⟨hk', g2'⟩
        · have hm' : (ks.map kV)[i]? = some (kV (ks[i]'(by omega))) := by rw [List.getElem?_map, hk']; rfl
          obtain ⟨u, g3, g4⟩ := paired_get rv hm'
          rw [g1'] at g3
          cases g3
          exact kV_is g4
      · have z3 : ys.length ≤ sizeLine := by omega
        exact Nat.le_trans (Nat.min_le_right _ _) (by rw [List.size_toArray, ← l2]; exact z3)
      · have hge : s1.heap.objs.size ≤ h'.objs.size := by have := hsz; omega
        have keep : ∀ c o, s1.heap.get? c = some o → h''.get? c = some o := fun c o ec => hk2 c o (fun z => by
          have hc' := Heap.lt_size ec
          have e' : c = s1.heap.objs.size + 4 ∨ c = s1.heap.objs.size + 3 ∨ c = s1.heap.objs.size ∨ c = s1.heap.objs.size + 1 := by simpa using z
          have hle : s1.heap.objs.size ≤ c := by
            rcases e' with z | z | z | z
            · rw [z]; exact Nat.le_add_right _ _
            · rw [z]; exact Nat.le_add_right _ _
            · rw [z]; exact Nat.le_refl _
            · rw [z]; exact Nat.le_add_right _ _
          exact Nat.lt_irrefl _ (Nat.lt_of_lt_of_le hc' hle)) (hk c o ec)
        have nm : (h'.objs.size == sysModules) = false := beq_eq_false_iff_ne.mpr (Nat.ne_of_gt (Nat.lt_of_lt_of_le I1.big hge))
        have rel : KV (ks.zip ys) (ks.zip its2) := kv_zip rv2
        have hlen : (mergeK [] (ks.zip ys)).length ≤ sizeLine := by
          refine Nat.le_trans (length_mergeK (ks.zip ys) []) ?_
          rw [List.length_nil, Nat.zero_add, List.length_zip]
          rw [List.length_map] at z1
          omega
        exact ⟨.ref h'.objs.size, upd H1 h'.objs.size (.dK (mergeK [] (ks.zip ys))), I1.laid (t' := tk) keep hge (show ObjOk X.prog X.w _ _ _ (.dK (mergeK [] (ks.zip ys))) from ⟨hlen, nm, merged [] (ks.zip its2), KV.merge rel .nil, hd⟩), rfl, q _ (I1.hok.fresh hge)⟩
def zmT : List T → List T → List T → List T → Option (List T × List T)
  | t :: ts, u :: us, ks, vs => match kyT t with
    | some x => zmT ts us (dPk ks x t) (dPv ks vs x u)
    | none => none
  | _, _, ks, vs => some (ks, vs)
def dzipF (S : Sto) : List T → Option T
  | [x, y] => match res S x, res S y with
    | .lst ts, .lst us => if ts.length = us.length then (zmT ts us [] []).map fun p => .dct false p.1 p.2 else none
    | _, _ => none
  | _ => none
theorem zm_rep {G : Gd} {H : Hp} {S : Sto} : ∀ {ts us ks vs : List T} {xs ys : List V} {acc : List (Key × V)} {r : List T × List T}, ts.length = us.length → zmT ts us ks vs = some r → Reps G H S ts xs → Reps G H S us ys → Reps G H S ks (acc.map fun p => kV p.1) → Reps G H S vs (acc.map (·.2)) →
    ∃ kk : List Key, xs = kk.map kV ∧ Reps G H S r.1 ((mergeK acc (kk.zip ys)).map fun p => kV p.1) ∧ Reps G H S r.2 ((mergeK acc (kk.zip ys)).map (·.2))
  | [], [], ks, vs, xs, ys, acc, r, hl, e, h, g, h1, h2 => by
    cases h; cases g; cases e
    exact ⟨[], rfl, h1, h2⟩
  | [], _ :: _, _, _, _, _, _, _, hl, _, _, _, _, _ => by simp at hl
  | _ :: _, [], _, _, _, _, _, _, hl, _, _, _, _, _ => by simp at hl
  | t :: ts, u :: us, ks, vs, xs, ys, acc, r, hl, e, h, g, h1, h2 => by
    unfold zmT at e
    split at e
    · rename_i x hx
      cases h with
      | cons a1 a2 =>
        cases g with
        | cons b1 b2 =>
          obtain rfl := ky_rep a1 hx
          obtain ⟨p1, p2⟩ := put_rep h1 h2 a1 b1
          obtain ⟨kk, rfl, e3, e4⟩ := zm_rep (by simpa using hl) e a2 b2 p1 p2
          exact ⟨x :: kk, rfl, e3, e4⟩
    · cases e
theorem te_dzip {a b : TTE} (hc : X.calm = true) (ha : TE X e a) (hb : TE X e2 b) (hg : Gl X "dict") (hm : X.mg "dict" = none) (hg2 : Gl X "zip") (hm2 : X.mg "zip" = none)
    (hs : starEach [.Call (.Name "zip" p2) [e, e2] [] pos2] X.env = (false, eval (.Call (.Name "zip" p2) [e, e2] [] pos2) X.env) :: starEach [] X.env := by rfl)
    (hs2 : starEach [e, e2] X.env = (false, eval e X.env) :: starEach [e2] X.env := by rfl) (hs3 : starEach [e2] X.env = (false, eval e2 X.env) :: starEach [] X.env := by rfl) (hpl2 : (backTo pos2 (starEach [e2] X.env)).any (·.1) = false := by rfl) :
    TE X (.Call (.Name "dict" p) [.Call (.Name "zip" p2) [e, e2] [] pos2] [] pos) (cFn dzipF (cCons a (cCons b cNil))) := fun M S0 H0 E tk =>
  (pe_dictZip hc (ta_cons ha (ta_cons hb ta_nil hs3) hs2 M S0 H0 E tk) hg hm (by rfl) hg2 hm2 hs hs2 hpl2).weak fun σ H Q ⟨τ, S, Qt, rel, q, k⟩ => ⟨τ, S, _, rel, q, fun zs S1 ws H1 ⟨t, et, hq⟩ o1 x1 r1 => by
    unfold dzipF at et
    split at et
    · obtain ⟨v, w, rfl, rx, ry⟩ := r1.twos
      split at et
      · rename_i ts us hx hy
        obtain ⟨a1, xs, rfl, g1, g2⟩ := res_lst o1 rx hx
        obtain ⟨b1, ys, rfl, f1, f2⟩ := res_lst o1 ry hy
        split at et
        · rename_i hl
          obtain ⟨pp, hp, rfl⟩ := Option.map_eq_some_iff.mp et
          obtain ⟨kk, rfl, e3, e4⟩ := zm_rep (acc := []) hl hp g2 f2 .nil .nil
          exact ⟨a1, b1, kk, ys, rfl, SqL.of g1, SqL.of f1, fun q n => k _ S1 (.ref q) _ hq (o1.new n) (x1.trans (Ext.new n)) (.dK ⟨.inl upd_same, o1.free n, o1.nom n⟩ (Reps.ext (Ext.new n) _ _ e3) (Reps.ext (Ext.new n) _ _ e4))⟩
        · cases et
      · cases et
    · cases et⟩
end
section
variable {X : Cx} {o e : Expr} {to te : TTE} {apos cpos : Pos}
end
end TL
namespace TL
open PySem PySem.Spec PyProof.Rows L2
theorem fnv_dzipF : FnV dzipF := fun S zs vs r h e => by
  unfold dzipF at e
  split at e
  · rename_i v w
    cases h with
    | cons h1 h2 =>
      cases h2 with
      | cons h2 h3 =>
        cases h3
        rcases h1.res with ⟨e1, e1'⟩ | ⟨a, rfl⟩ | ⟨n, ks, vs, rfl⟩
        · rcases h2.res with ⟨e2, e2'⟩ | ⟨a, rfl⟩ | ⟨n, ks, vs, rfl⟩
          · rw [e1', e2'] at e
            unfold dzipF
            dsimp only
            rw [e1, e2]
            exact e
          · rw [e1'] at e
            cases v <;> cases e
          · rw [e1'] at e
            cases v <;> cases e
        · cases e
        · cases e
  · cases e
@[simp] theorem dvalsT_dct {ks vs : List T} : dvalsT emp (.dct false ks vs) = some (.lst vs) := rfl
theorem dzipF_l {ts us : List T} : dzipF emp [.lst ts, .lst us] = if ts.length = us.length then (zmT ts us [] []).map fun p => .dct false p.1 p.2 else none := rfl
section
variable {κ : Type} {W : κ → Sto} {p : TEnv} {α β : Type}
end
end TL
namespace TL
open PySem PySem.Spec PyProof.Rows L2
section
variable {κ α β σ : Type}
end
/-- the first book is a part of the other one, marks told or not -/
structure Part (P B : Bk) : Prop where
  nm : P.names.Sublist B.names
  mrk : ∀ p ∈ P.folk, ∃ m, (p.1, m) ∈ B.folk ∧ (p.2 = m ∨ p.2 = q "o")
  un : P.unions.Sublist B.unions
  bi : P.births.Sublist B.births
  ad : P.adopts.Sublist B.adopts
theorem Rise.sub {α : Type} {e : α → T} {xs ys : List α} (h : Rise (ys.map e)) (s : xs.Sublist ys) : Rise (xs.map e) := List.Pairwise.sublist (s.map e) h
theorem nodup_mapOn {α β : Type} {f : α → β} : ∀ {l : List α}, (∀ a ∈ l, ∀ b ∈ l, f a = f b → a = b) → l.Nodup → (l.map f).Nodup
  | [], _, _ => List.nodup_nil
  | x :: xs, inj, h => by
    obtain ⟨h1, h2⟩ := List.nodup_cons.mp h
    refine List.nodup_cons.mpr ⟨fun hx => ?_, nodup_mapOn (fun a ha b hb => inj a (List.mem_cons_of_mem _ ha) b (List.mem_cons_of_mem _ hb)) h2⟩
    obtain ⟨y, hy, e⟩ := List.mem_map.mp hx
    have := inj y (List.mem_cons_of_mem _ hy) x List.mem_cons_self e
    subst this
    exact h1 hy
theorem KE.rise_nodup {α : Type} {e : α → T} (h : KE e) (hn : ∀ a, e a ≠ .non) {xs : List α} (hr : Rise (xs.map e)) : xs.Nodup := by
  refine (List.pairwise_map.mp hr).imp fun {a b} hl e' => ?_
  subst e'
  have := ltt_asym (h.kx a) (h.kx a) (h.alk a a) (hn a) (hn a) hl
  rw [hl] at this
  cases this
def renF (F : Nm → Nm) (f : List Nm) : List Nm := srt T.str (f.map F)
def Bk.ren (F : Nm → Nm) (B : Bk) : Bk := ⟨srt fkT (B.folk.map fun p => (F p.1, p.2)), srt famT (B.unions.map (renF F)), srt kinT (B.births.map fun b => (F b.1, renF F b.2)), srt kinT (B.adopts.map fun b => (F b.1, renF F b.2))⟩
theorem renF_mem {F : Nm → Nm} {f : List Nm} {x : Nm} : x ∈ renF F f ↔ ∃ y ∈ f, F y = x := by
  unfold renF
  rw [srt_mem, List.mem_map]
theorem renF_len {F : Nm → Nm} {f : List Nm} : (renF F f).length = f.length := by
  unfold renF
  rw [srt_len, List.length_map]
section
variable {B : Bk} {F : Nm → Nm} (h : BkOk B) (inj : ∀ a ∈ B.names, ∀ b ∈ B.names, F a = F b → a = b)
include h inj
theorem renF_inj {f g : List Nm} (hf : FamOk B.names f) (hg : FamOk B.names g) (e : renF F f = renF F g) : f = g := by
  refine ke_str.rise_ext (fun _ h => nomatch h) hf.rise hg.rise fun x => ⟨fun hx => ?_, fun hx => ?_⟩
  · obtain ⟨y, hy, e2⟩ := renF_mem.mp (e ▸ renF_mem.mpr ⟨x, hx, rfl⟩)
    rw [← inj y (hg.mem y hy) x (hf.mem x hx) e2]; exact hy
  · obtain ⟨y, hy, e2⟩ := renF_mem.mp (e.symm ▸ renF_mem.mpr ⟨x, hx, rfl⟩)
    rw [← inj y (hf.mem y hy) x (hg.mem x hx) e2]; exact hy
theorem BkOk.ren (ok : ∀ n ∈ B.names, NameOk (F n)) : BkOk (B.ren F) := by
  have memf : ∀ p ∈ B.folk, p.1 ∈ B.names := fun p hp => List.mem_map_of_mem hp
  have mem' : ∀ n ∈ B.names, F n ∈ (B.ren F).names := fun n hn => by
    obtain ⟨p, hp, rfl⟩ := List.mem_map.mp hn
    exact List.mem_map.mpr ⟨(F p.1, p.2), srt_mem.mpr (List.mem_map.mpr ⟨p, hp, rfl⟩), rfl⟩
  have ndf : (B.folk.map fun p => (F p.1, p.2)).Nodup := by
    refine TL.nodup_of_map (f := (·.1)) ?_
    rw [List.map_map]
    have := nodup_mapOn inj h.nd
    unfold Bk.names at this
    rw [List.map_map] at this
    exact this
  have famk : ∀ f, FamOk B.names f → FamOk (B.ren F).names (renF F f) := fun f k => by
    have nd : (f.map F).Nodup := nodup_mapOn (fun a ha b hb => inj a (k.mem a ha) b (k.mem b hb)) k.nd
    refine ⟨by rw [renF_len]; exact k.lo, by rw [renF_len]; exact k.hi, se_str.rise (fun _ _ => trivial) nd, (srt_perm _).nodup_iff.mpr nd, fun x hx => ?_⟩
    obtain ⟨y, hy, rfl⟩ := renF_mem.mp hx
    exact mem' y (k.mem y hy)
  have ndu : (B.unions.map (renF F)).Nodup := nodup_mapOn (fun a ha b hb => renF_inj h inj (h.un a ha) (h.un b hb)) (ke_fam.rise_nodup (fun _ h => nomatch h) h.ru)
  have kin : ∀ b, KinOk B.names B.unions b → KinOk (B.ren F).names (B.ren F).unions (F b.1, renF F b.2) := fun b k => by
    refine ⟨mem' _ k.kid, srt_mem.mpr (List.mem_map_of_mem k.fam), fun hx => ?_⟩
    obtain ⟨y, hy, e⟩ := renF_mem.mp hx
    have := inj y ((h.un _ k.fam).mem y hy) b.1 k.kid e
    rw [this] at hy
    exact k.own hy
  have ndk : ∀ xs : List (Nm × List Nm), (∀ b ∈ xs, KinOk B.names B.unions b) → xs.Nodup → (xs.map fun b => (F b.1, renF F b.2)).Nodup := fun xs hx nd =>
    nodup_mapOn (fun a ha b hb e => by
      injection e with e1 e2
      exact Prod.ext (inj _ (hx a ha).kid _ (hx b hb).kid e1) (renF_inj h inj (h.un _ (hx a ha).fam) (h.un _ (hx b hb).fam) e2)) nd
  refine ⟨fun x hx => ?_, ?_, se_fk.rise (fun _ _ => trivial) ndf, ?_, fun f hf => ?_, ?_, ?_, fun b hb => ?_, ?_, ?_, fun b hb => ?_, ?_, ?_⟩
  · obtain ⟨p, hp, rfl⟩ := List.mem_map.mp (srt_mem.mp hx)
    exact ⟨ok _ (memf p hp), (h.name p hp).2⟩
  · show ((srt fkT (B.folk.map fun p => (F p.1, p.2))).map (·.1)).Nodup
    refine ((List.Perm.map (fun p : Nm × Nm => p.1) (srt_perm (e := fkT) (B.folk.map fun p => (F p.1, p.2)))).nodup_iff).mpr ?_
    rw [List.map_map]
    have := nodup_mapOn inj h.nd
    unfold Bk.names at this
    rw [List.map_map] at this
    exact this
  · show (srt fkT _).length ≤ 16
    rw [srt_len, List.length_map]; exact h.lf
  · obtain ⟨g, hg, rfl⟩ := List.mem_map.mp (srt_mem.mp hf)
    exact famk g (h.un g hg)
  · refine se_fam.rise (fun f hf => ?_) ndu
    obtain ⟨g, hg, rfl⟩ := List.mem_map.mp hf
    have := (h.un g hg).lo
    intro z
    have l : (renF F g).length = 0 := by rw [z]; rfl
    rw [renF_len] at l
    omega
  · show (srt famT _).length ≤ 16
    rw [srt_len, List.length_map]; exact h.lu
  · obtain ⟨g, hg, rfl⟩ := List.mem_map.mp (srt_mem.mp hb)
    exact kin g (h.bi g hg)
  · exact se_kin.rise (fun _ _ => trivial) (ndk _ h.bi (ke_kin.rise_nodup (fun _ h => nomatch h) h.rb))
  · show (srt kinT _).length ≤ 24
    rw [srt_len, List.length_map]; exact h.lb
  · obtain ⟨g, hg, rfl⟩ := List.mem_map.mp (srt_mem.mp hb)
    exact kin g (h.ad g hg)
  · exact se_kin.rise (fun _ _ => trivial) (ndk _ h.ad (ke_kin.rise_nodup (fun _ h => nomatch h) h.ra))
  · show (srt kinT _).length ≤ 12
    rw [srt_len, List.length_map]; exact h.la
end
theorem enumL_map {α : Type} {e : α → T} {xs : List α} : enumL (xs.map e) = xs.zipIdx.map fun p => .tup [.int (p.2 : Nat), e p.1] := by
  unfold enumL
  rw [List.zipIdx_map, List.map_map]
  rfl
theorem zm_strs {F : Nm → T} : ∀ {xs ds : List Nm}, (ds ++ xs).Nodup → zmT (xs.map T.str) (xs.map F) (ds.map T.str) (ds.map F) = some ((ds ++ xs).map T.str, (ds ++ xs).map F)
  | [], ds, _ => by rw [List.append_nil]; rfl
  | x :: xs, ds, h => by
    have hx : x ∉ ds := fun k => (List.nodup_append.mp h).2.2 x k x List.mem_cons_self rfl
    rw [List.map_cons, List.map_cons]
    unfold zmT
    show zmT (xs.map T.str) (xs.map F) (dPk (ds.map T.str) (.inr (txt x)) (.str x)) (dPv (ds.map T.str) (ds.map F) (.inr (txt x)) (F x)) = _
    have e1 : dPk (ds.map T.str) (.inr (txt x)) (.str x) = (ds ++ [x]).map T.str := by
      unfold dPk
      rw [dHs_strs, decide_eq_false hx, if_neg (by simp), List.map_append]; rfl
    have e2 : dPv (ds.map T.str) (ds.map F) (.inr (txt x)) (F x) = (ds ++ [x]).map F := by
      unfold dPv
      rw [dHs_strs, decide_eq_false hx, if_neg (by simp), List.map_append]; rfl
    rw [e1, e2, zm_strs (by rw [List.append_assoc]; exact h), List.append_assoc]
    rfl
theorem dzip_strs {F : Nm → T} {xs : List Nm} (h : xs.Nodup) : dzipF emp [.lst (xs.map T.str), .lst (xs.map F)] = some (.dct false (xs.map T.str) (xs.map F)) := by
  rw [dzipF_l, if_pos (by rw [List.length_map, List.length_map])]
  have := zm_strs (F := F) (xs := xs) (ds := []) (by simpa using h)
  rw [List.nil_append] at this
  rw [show zmT (xs.map T.str) (xs.map F) [] [] = _ from this]
  rfl
/-- pairs of the folk of two books -/
structure PairsOk (A B : Bk) (ps : List (Nm × Nm)) : Prop where
  nd1 : (ps.map (·.1)).Nodup
  nd2 : (ps.map (·.2)).Nodup
  m1 : ∀ p ∈ ps, p.1 ∈ A.names
  m2 : ∀ p ∈ ps, p.2 ∈ B.names
theorem ren_mem {B : Bk} {F : Nm → Nm} {n : Nm} (hn : n ∈ B.names) : F n ∈ (B.ren F).names := by
  obtain ⟨p, hp, rfl⟩ := List.mem_map.mp hn
  exact List.mem_map.mpr ⟨(F p.1, p.2), srt_mem.mpr (List.mem_map.mpr ⟨p, hp, rfl⟩), rfl⟩
theorem inj_of_nodup {α β : Type} {f : α → β} : ∀ {l : List α}, (l.map f).Nodup → ∀ a ∈ l, ∀ b ∈ l, f a = f b → a = b
  | x :: xs, h, a, ha, b, hb, e => by
    obtain ⟨h1, h2⟩ := List.nodup_cons.mp h
    rcases List.mem_cons.mp ha with z | z
    · rcases List.mem_cons.mp hb with w | w
      · rw [z, w]
      · rw [z] at e
        exact absurd (List.mem_map.mpr ⟨b, w, e.symm⟩) h1
    · rcases List.mem_cons.mp hb with w | w
      · rw [w] at e
        exact absurd (List.mem_map.mpr ⟨a, z, e⟩) h1
      · exact inj_of_nodup h2 a z b w e
end TL
namespace TL
open PySem PySem.Spec PyProof.Rows L2
/-- a kind of things that can be asked for -/
structure KQ {α : Type} (e : α → T) : Prop where
  inj : ∀ a b, e a = e b → a = b
  kx : ∀ a, kx (e a) = true
  dp : ∀ a, dep (e a) ≤ 8
section
variable {α : Type} {e : α → T}
theorem KQ.okd (h : KQ e) (a : α) : okd (e a) = true := by
  have := h.dp a
  unfold TL.okd
  rw [kx_plain _ (h.kx a), decide_eq_true (by omega)]
  rfl
theorem KQ.eqt (h : KQ e) [DecidableEq α] (a b : α) : eqt (e a) (e b) = decide (a = b) := by
  have z := eqt_kx (e a) (e b) (h.kx a) (h.kx b)
  by_cases q : a = b
  · subst q; rw [decide_eq_true rfl]; exact z.mpr rfl
  · rw [decide_eq_false q]
    cases w : TL.eqt (e a) (e b) with
    | false => rfl
    | true => exact absurd (h.inj _ _ (z.mp w)) q
theorem KQ.any (h : KQ e) [DecidableEq α] (a : α) : ∀ xs : List α, ((xs.map e).any fun z => TL.eqt z (e a)) = decide (a ∈ xs)
  | [] => rfl
  | x :: xs => by
    rw [List.map_cons, List.any_cons, KQ.any h a xs, h.eqt]
    by_cases q : x = a
    · subst q; simp
    · have q' : a ≠ x := fun z => q z.symm
      simp [q, q']
theorem KQ.okds (h : KQ e) (xs : List α) : TL.okd (.lst (xs.map e)) = true ∧ TL.okd (.tup (xs.map e)) = true := okd_map fun x _ => ⟨h.okd x, by have := h.dp x; omega⟩
theorem KQ.inT (h : KQ e) [DecidableEq α] (a : α) (xs : List α) : inT emp (e a) (.tup (xs.map e)) = some (.bl (decide (a ∈ xs))) ∧ inT emp (e a) (.lst (xs.map e)) = some (.bl (decide (a ∈ xs))) := by
  constructor
  · unfold TL.inT inQ
    show Option.map _ (if (TL.okd (e a) && TL.okd (.tup (xs.map e))) = true then _ else none) = _
    rw [h.okd, (h.okds xs).2, Bool.and_self, if_pos rfl, h.any]; rfl
  · unfold TL.inT inQ
    show Option.map _ (if (TL.okd (e a) && TL.okd (.lst (xs.map e))) = true then _ else none) = _
    rw [h.okd, (h.okds xs).1, Bool.and_self, if_pos rfl, h.any]; rfl
theorem KQ.ninT (h : KQ e) [DecidableEq α] (a : α) (xs : List α) : ninT emp (e a) (.tup (xs.map e)) = some (.bl (!decide (a ∈ xs))) ∧ ninT emp (e a) (.lst (xs.map e)) = some (.bl (!decide (a ∈ xs))) := by
  constructor
  · unfold TL.ninT inQ
    show Option.map _ (if (TL.okd (e a) && TL.okd (.tup (xs.map e))) = true then _ else none) = _
    rw [h.okd, (h.okds xs).2, Bool.and_self, if_pos rfl, h.any]; rfl
  · unfold TL.ninT inQ
    show Option.map _ (if (TL.okd (e a) && TL.okd (.lst (xs.map e))) = true then _ else none) = _
    rw [h.okd, (h.okds xs).1, Bool.and_self, if_pos rfl, h.any]; rfl
end
inductive Rw where
  | fk (p : Nm × Nm) : Rw
  | un (f : List Nm) : Rw
  | bo (b : Nm × List Nm) : Rw
  | ad (b : Nm × List Nm) : Rw
  deriving DecidableEq
theorem kx_row (xs : List T) (h : ∀ x ∈ xs, kx x = true) : kx (.tup xs) = true := by
  show kxs xs = true
  induction xs with
  | nil => rfl
  | cons x xs ih =>
    show (kx x && kxs xs) = true
    rw [h x List.mem_cons_self, ih fun y hy => h y (List.mem_cons_of_mem _ hy)]
    rfl
def Bk.rows (B : Bk) : List Rw := B.folk.map .fk ++ B.unions.map .un ++ B.births.map .bo ++ B.adopts.map .ad
def Bk.less (A B : Bk) : List Rw := A.rows.filter fun r => decide (decide (r ∈ B.rows) = false)
end TL
namespace TL
open PySem PySem.Spec PyProof.Rows L2
section
variable {G : Gd} {S1 : Sto} {H1 : Hp}
end
section
variable {S0 S S' : Sto} {H0 H H' : Hp} {d : Addr} {o : Obj} {kvs : List (Key × V)}
end
section
variable {X : Cx} {tg : Expr} {body : List Stmt} {g : TTG} {t : TTS} {vs : List Nat} {pos p : Pos} {x : Str} {i : Nat}
end
section
variable {X : Cx} {elt tg : Expr} {ifs : List Expr} {scope : Scope} {g : TTG} {tc : TTB} {te : TTE} {pos p : Pos} {x : Str} {i : Nat} {ow : List (Str × Nat)}
end
section
variable {X : Cx} {k v : Expr} {tk tv : TTE} {pos : Pos}
end
section
variable {X : Cx} {o e i : Expr} {to te ti : TTE} {apos cpos : Pos}
end
def cDictM (e : TTE) : TTE := fun τ S Q E => e τ S (fun x S1 => ∃ zs r, (res S1 x = .lst zs ∨ res S1 x = .tup zs) ∧ mrgT zs [] [] = some r ∧ ∀ p, S1 p = none → Q (.ref p) (ups S1 p (.dct false r.1 r.2))) E
section
variable {X : Cx} {e : Expr} {te : TTE} {p pos : Pos}
theorem te_dictM (hc : X.calm = true) (he : TE X e te) (hg : Gl X "dict") (hm : X.mg "dict" = none) (hs : starEach [e] X.env = (false, eval e X.env) :: starEach [] X.env := by rfl) (hpl : (backTo pos (starEach [] X.env)).any (·.1) = false := by rfl) :
    TE X (.Call (.Name "dict" p) [e] [] pos) (cDictM te) := fun M S0 H0 E tk =>
  (pe_callTy ((call_dictP hc).or (call_dictT hc)) hg hm (by rfl) (pa_cons (he M S0 H0 E tk) pa_nil hs) (by decide) (by decide) hs hpl).weak fun σ H Q ⟨τ, S, Qt, rel, h, k⟩ => ⟨τ, S, _, rel, h, fun x S1 v H1 ⟨zs, r, hz, hr, hq⟩ o1 x1 r1 => by
    have fin : ∀ kvs : List (Key × V), Reps (gdOf X M) H1 S1 r.1 ((mergeK [] kvs).map fun p => kV p.1) → Reps (gdOf X M) H1 S1 r.2 ((mergeK [] kvs).map (·.2)) → ∀ q, H1 q = none → Q (.ref q) (upd H1 q (.dK (mergeK [] kvs))) := fun kvs e3 e4 q n =>
      have x2 : Ext S1 H1 (ups S1 q (.dct false r.1 r.2)) (upd H1 q (.dK (mergeK [] kvs))) := Ext.cell (.inl n)
      k (.ref q) _ (.ref q) _ (hq q (o1.free n)) (o1.cell (.inl n) ⟨mergeK [] kvs, upd_same, Reps.ext x2 _ _ e3, Reps.ext x2 _ _ e4⟩) (x1.trans x2) (.ref q)
    rcases hz with hz | hz
    · obtain ⟨a, ws, rfl, h1, h2⟩ := res_lst o1 r1 hz
      obtain ⟨as, kvs, rfl, e2, e3, e4⟩ := mrg_rep (acc := []) hr h2 .nil .nil
      exact .inl ⟨a, as, kvs, rfl, SqL.of h1, e2, fin kvs e3 e4⟩
    · obtain rfl := res_id hz fun _ z => nomatch z
      cases r1 with
      | tup h1 h2 =>
        obtain ⟨as, kvs, rfl, e2, e3, e4⟩ := mrg_rep (acc := []) hr h2 .nil .nil
        exact .inr ⟨_, as, kvs, rfl, h1.bare, e2, fin kvs e3 e4⟩⟩
end
end TL
namespace TL
open PySem PySem.Spec PyProof.Rows L2
section
variable {κ : Type} {W : κ → Sto} {p : TEnv} {l : Cs}
def keysM (v : T) : PM κ (List T) := match v with
  | .dct false ks _ => pu ks
  | _ => stuck
@[simp] theorem keysM_dct {ks vs : List T} : keysM (κ := κ) (.dct false ks vs) = pu ks := rfl
/-- dict(xs), a new cell -/
def mrgM (v : T) : PM κ (List T × List T) := match v with
  | .lst zs => ofO (mrgT zs [] [])
  | .tup zs => ofO (mrgT zs [] [])
  | _ => stuck
variable {e : TTE} {m : PM κ T}
theorem xn_dictM (ha : XV W p l e m) : XN W p l (cDictM e) (bd m mrgM) (fun _ a => .ref a) (fun r a => [(a, .dct false r.1 r.2)]) := fun Q E k τ S hE i s => by
  refine ha _ _ k τ S hE i ((Sat.bd.mp s).mono (fun v k1 s1 z S1 i1 w1 => ?_) fun _ _ q => q)
  cases v with
  | lst zs =>
    obtain ⟨r, e1, s2⟩ := sat_ofO s1
    have hz : res S1 z = .lst zs := by
      rcases (w1.at i1).res with ⟨e1, _⟩ | ⟨b, e1⟩ | ⟨n, ks, vs, e1⟩
      · exact e1
      · cases e1
      · cases e1
    exact ⟨zs, r, .inl hz, e1, fun a n => s2 _ a (i1.new n)⟩
  | tup zs =>
    obtain ⟨r, e1, s2⟩ := sat_ofO s1
    have hz : res S1 z = .tup zs := by
      rcases (w1.at i1).res with ⟨e1, _⟩ | ⟨b, e1⟩ | ⟨n, ks, vs, e1⟩
      · exact e1
      · cases e1
      · cases e1
    exact ⟨zs, r, .inr hz, e1, fun a n => s2 _ a (i1.new n)⟩
  | _ => exact s1.elim
end
end TL
namespace TL
open PySem PySem.Spec PyProof.Rows L2
/-- a walk of so many steps -/
def Walk (ab : Nm → List Nm) : Nat → Nm → Nm → Prop
  | 0, a, b => a = b
  | k + 1, a, b => ∃ c, c ∈ ab a ∧ Walk ab k c b
structure Bfs (ab : Nm → List Nm) (b : Nm) (row : List Nm) (par : Nm → Option Nm) (D : Nm → Nat) (i : Nat) : Prop where
  nd : row.Nodup
  hd : row[0]? = some b
  db : D b = 0
  pb : par b = none
  pr : ∀ x ∈ row, x ≠ b → ∃ p, par x = some p ∧ p ∈ row ∧ x ∈ ab p ∧ D x = D p + 1
  mono : ∀ (j k : Nat) (x y : Nm), j ≤ k → row[j]? = some x → row[k]? = some y → D x ≤ D y
  near : ∀ x y : Nm, row[i]? = some x → y ∈ row → D y ≤ D x + 1
  done : ∀ (j : Nat) (x : Nm), j < i → row[j]? = some x → b ∉ ab x ∧ ∀ y ∈ ab x, y ∈ row ∧ D y ≤ D x + 1
section
variable {ab : Nm → List Nm} {b here y : Nm} {row : List Nm} {par : Nm → Option Nm} {D : Nm → Nat} {i : Nat}
theorem Bfs.start (b : Nm) : Bfs ab b [b] (fun _ => none) (fun _ => 0) 0 where
  nd := by simp
  hd := rfl
  db := rfl
  pb := rfl
  pr := fun x hx hn => absurd (List.mem_singleton.mp hx) hn
  mono := fun _ _ _ _ _ _ _ => Nat.le_refl _
  near := fun _ _ _ _ => Nat.zero_le _
  done := fun j _ h _ => absurd h (Nat.not_lt_zero _)
theorem Bfs.bm (h : Bfs ab b row par D i) : b ∈ row := List.mem_of_getElem? h.hd
theorem Bfs.next (h : Bfs ab b row par D i) (hi : row[i]? = some here) (hb : b ∉ ab here) (ha : ∀ y ∈ ab here, y ∈ row) : Bfs ab b row par D (i + 1) :=
  ⟨h.nd, h.hd, h.db, h.pb, h.pr, h.mono, fun x z hx hz => Nat.le_trans (h.near here z hi hz) (by have := h.mono i (i + 1) here x (by omega) hi hx; omega), fun j x hj hx => by
    by_cases e : j = i
    · subst e
      rw [hi] at hx
      cases hx
      exact ⟨hb, fun z hz => ⟨ha z hz, h.near here z hi (ha z hz)⟩⟩
    · exact h.done j x (by omega) hx⟩
theorem Bfs.none (h : Bfs ab b row par D row.length) : ∀ (k : Nat) (x : Nm), x ∈ row → ¬ Walk ab (k + 1) x b
  | 0, x, hx, ⟨c, hc, e⟩ => by
    obtain ⟨j, hj⟩ := List.getElem?_of_mem hx
    have e : c = b := e
    subst e
    exact (h.done j x (List.getElem?_eq_some_iff.mp hj).1 hj).1 hc
  | k + 1, x, hx, ⟨c, hc, w⟩ => by
    obtain ⟨j, hj⟩ := List.getElem?_of_mem hx
    exact h.none k c ((h.done j x (List.getElem?_eq_some_iff.mp hj).1 hj).2 c hc).1 w
theorem Bfs.least (h : Bfs ab b row par D i) (hi : row[i]? = some here) : ∀ (k : Nat) (x : Nm), x ∈ row → Walk ab (k + 1) x b → D here ≤ D x + k := by
  intro k
  induction k with
  | zero =>
    rintro x hx ⟨c, hc, e⟩
    obtain ⟨j, hj⟩ := List.getElem?_of_mem hx
    by_cases q : j < i
    · have e : c = b := e
      subst e
      exact absurd hc (h.done j x q hj).1
    · exact h.mono i j here x (by omega) hi hj
  | succ k ih =>
    rintro x hx ⟨c, hc, w⟩
    obtain ⟨j, hj⟩ := List.getElem?_of_mem hx
    by_cases q : j < i
    · obtain ⟨m1, m2⟩ := (h.done j x q hj).2 c hc
      have := ih c m1 w
      omega
    · have := h.mono i j here x (by omega) hi hj
      omega
end
/-- each one leads to the next one -/
def Chn (ab : Nm → List Nm) : List Nm → Prop
  | a :: c :: r => c ∈ ab a ∧ Chn ab (c :: r)
  | _ => True
section
variable {κ σ : Type} {c : σ → PM κ Bool} {b : σ → PM κ σ}
end
theorem mrg_strs {F : Nm → T} : ∀ {xs ds : List Nm}, (ds ++ xs).Nodup → mrgT (xs.map fun n => .tup [.str n, F n]) (ds.map T.str) (ds.map F) = some ((ds ++ xs).map T.str, (ds ++ xs).map F)
  | [], ds, _ => by rw [List.append_nil]; rfl
  | x :: xs, ds, h => by
    have hx : x ∉ ds := fun k => (List.nodup_append.mp h).2.2 x k x List.mem_cons_self rfl
    rw [List.map_cons]
    show mrgT (xs.map fun n => .tup [.str n, F n]) (dPk (ds.map T.str) (.inr (txt x)) (.str x)) (dPv (ds.map T.str) (ds.map F) (.inr (txt x)) (F x)) = _
    have e1 : dPk (ds.map T.str) (.inr (txt x)) (.str x) = (ds ++ [x]).map T.str := by
      unfold dPk
      rw [dHs_strs, decide_eq_false hx, if_neg (by simp), List.map_append]; rfl
    have e2 : dPv (ds.map T.str) (ds.map F) (.inr (txt x)) (F x) = (ds ++ [x]).map F := by
      unfold dPv
      rw [dHs_strs, decide_eq_false hx, if_neg (by simp), List.map_append]; rfl
    rw [e1, e2, mrg_strs (by rw [List.append_assoc]; exact h), List.append_assoc]
    rfl
theorem dict_strs {F : Nm → T} {xs : List Nm} (h : xs.Nodup) : dictF emp [.lst (xs.map fun n => .tup [.str n, F n])] = some (.dct false (xs.map T.str) (xs.map F)) := by
  have := mrg_strs (F := F) (xs := xs) (ds := []) (by simpa using h)
  rw [List.nil_append] at this
  show Option.map _ (mrgT _ [] []) = _
  rw [show mrgT (xs.map fun n => .tup [.str n, F n]) [] [] = _ from this]
  rfl
theorem mrgM_strs {κ : Type} {F : Nm → T} {xs : List Nm} (h : xs.Nodup) : mrgM (κ := κ) (.lst (xs.map fun n => .tup [.str n, F n])) = pu (xs.map T.str, xs.map F) := by
  have := mrg_strs (F := F) (xs := xs) (ds := []) (by simpa using h)
  rw [List.nil_append] at this
  show ofO (mrgT _ [] []) = _
  rw [show mrgT (xs.map fun n => .tup [.str n, F n]) [] [] = _ from this]
  rfl
theorem Bfs.deep {ab : Nm → List Nm} {b0 : Nm} {row : List Nm} {par : Nm → Option Nm} {D : Nm → Nat} {i : Nat} (h : Bfs ab b0 row par D i) : ∀ (n : Nat) (x : Nm), x ∈ row → D x = n → ∃ l : List Nm, l.Nodup ∧ (∀ y ∈ l, y ∈ row ∧ D y ≤ n) ∧ l.length = n + 1
  | 0, x, hx, hd => ⟨[x], by simp, fun y hy => by rw [List.mem_singleton.mp hy]; exact ⟨hx, by omega⟩, rfl⟩
  | n + 1, x, hx, hd => by
    have hn : x ≠ b0 := fun e => by rw [e, h.db] at hd; omega
    obtain ⟨p, _, e2, _, e4⟩ := h.pr x hx hn
    obtain ⟨l, l1, l2, l3⟩ := h.deep n p e2 (by omega)
    refine ⟨x :: l, List.nodup_cons.mpr ⟨fun z => by have := (l2 x z).2; omega, l1⟩, fun y hy => ?_, by rw [List.length_cons, l3]⟩
    rcases List.mem_cons.mp hy with rfl | hy
    · exact ⟨hx, by omega⟩
    · exact ⟨(l2 y hy).1, by have := (l2 y hy).2; omega⟩
section
variable {κ σ α : Type}
variable {c : σ → PM κ Bool} {b : σ → PM κ (Fl σ)} {k : Nat} {s s' : σ}
end
/-- a ring of forebears from somebody, of least length -/
structure RingAt (ab : Nm → List Nm) (V : List Nm) (b0 : Nm) (p : List Nm) : Prop where
  chn : Chn ab (b0 :: p)
  mem : ∀ x ∈ p, x ∈ V
  back : ∃ l, (b0 :: p)[p.length]? = some l ∧ b0 ∈ ab l
  least : ∀ k, Walk ab (k + 1) b0 b0 → p.length ≤ k
  len : p.length < V.length
theorem Walk.snoc {ab : Nm → List Nm} : ∀ {k : Nat} {a b c : Nm}, Walk ab k a b → c ∈ ab b → Walk ab (k + 1) a c
  | 0, a, b, c, h, hc => ⟨c, by have h : a = b := h; rw [h]; exact hc, rfl⟩
  | k + 1, a, b, c, ⟨d, hd, w⟩, hc => ⟨d, hd, w.snoc hc⟩
theorem Chn.walk {ab : Nm → List Nm} : ∀ {p : List Nm} {a l : Nm}, Chn ab (a :: p) → (a :: p)[p.length]? = some l → Walk ab p.length a l
  | [], a, l, _, h => by
    have h : some a = some l := h
    cases h
    rfl
  | c :: p, a, l, ⟨h1, h2⟩, h => ⟨c, h1, Chn.walk h2 (by simpa using h)⟩
theorem RingAt.walk {ab : Nm → List Nm} {V p : List Nm} {b0 : Nm} (h : RingAt ab V b0 p) : Walk ab (p.length + 1) b0 b0 := by
  obtain ⟨l, h1, h2⟩ := h.back
  exact (h.chn.walk h1).snoc h2
theorem dRp_strs {F : Nm → T} {x : Nm} {z : T} : ∀ {xs : List Nm}, dRp (xs.map T.str) (xs.map F) (.inr (txt x)) z = xs.map fun n => if n = x then z else F n
  | [] => rfl
  | y :: xs => by
    rw [List.map_cons, List.map_cons, List.map_cons]
    unfold dRp
    rw [kyT_str, dRp_strs]
    by_cases h : y = x
    · rw [if_pos (by rw [h]), if_pos h]
    · rw [if_neg (fun e => h (txt_iff.mp e)), if_neg h]
/-- a key that is there -/
theorem dput_old {κ : Type} {F : Nm → T} {x : Nm} {xs : List Nm} {z : T} (h : x ∈ xs) (hl : xs.length < sizeLine) : dputM (κ := κ) (xs.map T.str, xs.map F) (.str x) z = pu (xs.map T.str, xs.map fun n => if n = x then z else F n) := by
  show bd (gd _) _ = _
  rw [gd_c, gdc_t (by rw [List.length_map]; exact hl), pu_bd]
  unfold dPk dPv
  rw [dHs_strs, decide_eq_true h, if_pos rfl, if_pos rfl, dRp_strs]
end TL
namespace TL
open PySem PySem.Spec PyProof.Rows L2
end TL
namespace TL
open PySem PySem.Spec PyProof.Rows L2
end TL
namespace TL
open PySem PySem.Spec PyProof.Rows L2
/-- an exception class of the program -/
structure XC (K : PySem.W.Frag) (C : Addr) : Prop where
  oex : OexC K C
  ga : PySem.W.findIn K (.ref C) "__getattribute__" = some (some (.builtin "BaseException.__getattribute__"))
  gg : PySem.W.findIn K (.ref C) "__getattr__" = some none
  hd : PySem.W.hasDictIn K C = true
  ca : PySem.W.findIn K (.ref C) "__class__" = some (some (.builtin "object.__class__"))
  mo : PySem.W.mroIn K C (.type "object") = some true
  cn : PySem.W.specialIn K (.builtin "object.__class__") "__get__" = some (some (.builtin "getset_descriptor.__get__"))
  ct : PySem.W.takesIn K (.builtin "object.__class__") = some true
/-- the base class over ValueError, without an __init__ of its own -/
structure KeB (K : PySem.W.Frag) (B : Addr) : Prop where
  rd : PySem.W.readsIn K B (.type "type") = true
  ga : PySem.W.specialIn K (.ref B) "__getattribute__" = some (some (.builtin "type.__getattribute__"))
  at_ : PySem.W.findCls K (.ref B) (.type "type") "__init__" = some (.val (.builtin "ValueError.__init__"))
/-- C's __init__ at f; its fields aren't found in the class -/
structure XIn (K : PySem.W.Frag) (C f : Addr) (fs : List Str) : Prop where
  iC : PySem.W.findIn K (.ref C) "__init__" = some (some (.ref f))
  tI : PySem.W.typeIn K (.ref f) = some (.type "function")
  no : ∀ x ∈ fs, PySem.W.findIn K (.ref C) x = some none
section
variable {X : Cx} {o e : Expr} {es : List Expr} {ta : L2.TA} {p1 p2 pos : Pos} {x : Str} {B : Addr}
end
/-- what an __init__ of the class at C promises: its fields, the last one first -/
def spI (K : PySem.W.Frag) (C : Addr) (fs : List Str) : Sp := fun vs H Q _ => ∃ a ws, vs = .ref a :: ws ∧ ws.length = fs.length ∧ H a = some (exo a C none) ∧
  ((fs = [] ∧ Q .non H) ∨ (fs ≠ [] ∧ ∀ d H2, H d = none → d ≠ a → (∀ b, b ≠ a → b ≠ d → H2 b = H b) → H2 a = some (exo a C (some d)) → H2 d = some (exd d (fs.reverse.zip ws.reverse)) → Q .non H2))
section
variable {P : Program} {w : World} {K : PySem.W.Frag} {mg : Str → Option Value} {base : Heap} {x qual : Str} {params : Arguments} {body : List Stmt} {scope : Scope} {f C : Addr} {fd : FuncData} {m f1 f2 a1 a2 : Str}
end
section
variable {X : Cx} {CX : CXT} {x : Str} {C fI : Addr} {k : Nat} {fd : FuncData} {ps : List Str} {fs : List Str} {e : Expr} {es : List Expr} {ta : L2.TA} {p pos : Pos}
end
/-- a class of the module, its __init__ -/
structure XOk (P : Program) (w : World) (K : PySem.W.Frag) (mg : Str → Option Value) (base : Heap) (c : Str) (fs : List Str) : Prop where
  xc : XC K (He.ga K c)
  gm : mg c = some (.ref (He.ga K c))
  ini : ∃ (f : Addr) (fd : FuncData) (ps : List Str), XIn K (He.ga K c) f fs ∧ FnOk P w K mg base (L2N.CX P w) 1 f fd ps (spI K (He.ga K c) fs) ∧ Binds K fd ps []
section
variable {X : Cx} {c : Str} {fs : List Str} {e : Expr} {es : List Expr} {ta : TTA} {p pos pos' : Pos} {j : Nat}
end
section
variable {κ β : Type} {W : κ → Sto} {p : TEnv} {l : Cs} {u : TTS} {post : β → Dest}
end
end TL
namespace TL
open PySem PySem.Spec PyProof.Rows L2
section
variable {α σ : Type}
/-- a loop that may end by a return, but doesn't -/
theorem HT.forRA {d : Nat} {f : α → σ → PM Cell (Fl σ)} (I : List α → σ → Prop) : ∀ (xs : List α) (s : σ), I xs s → (∀ x xs s, I (x :: xs) s → HT d (f x s) fun r => ∃ s', r = .nx s' ∧ I xs s') → HT (xs.length * d) (TL.forRA f xs s) fun r => ∃ s', r = .inl s' ∧ I [] s'
  | [], s, hi, _ => by
    rw [List.length_nil, Nat.zero_mul]
    exact HT.pu ⟨s, rfl, hi⟩
  | x :: xs, s, hi, h => by
    rw [List.length_cons, Nat.succ_mul]
    refine HT.bd (h x xs s hi) fun r hr => ?_
    obtain ⟨s', rfl, hs'⟩ := hr
    exact HT.forRA I xs s' hs' h
theorem HT.forRN (d n : Nat) {f : α → σ → PM Cell (Fl σ)} (I : List α → σ → Prop) {xs : List α} {s : σ} (hn : xs.length ≤ n) (hi : I xs s) (h : ∀ x xs s, I (x :: xs) s → HT d (f x s) fun r => ∃ s', r = .nx s' ∧ I xs s') : HT (n * d) (TL.forRA f xs s) fun r => ∃ s', r = .inl s' ∧ I [] s' :=
  (HT.forRA I xs s hi h).le (Nat.mul_le_mul_right d hn)
end
end TL
namespace TL
open PySem PySem.Spec PyProof.Rows L2 HotX
section
variable {prog : Program} {w : World} {A : Around} {E : Value → Shared → Prop} {s : Shared} {x1 it l : Addr} {i : Nat} {items : Array Value}
end
/-- it stands frozen from the entry on, its context is None -/
def HotX (X : Cx) : Prop := ∃ a o vs u, X.A.handled = some (.ref a) ∧ X.H_0 a = some (.frz o u) ∧ o.data = .fields vs ∧ vs[2]? = some .none
section
variable {X : Cx} {pins : List (Addr × Obj)} {σ : L2.St} {H : Hp} {s : Shared}
theorem frz_get {P : Program} {w : World} {h : Heap} {a : Addr} {o : Obj} {u : HO} (x : ObjOk P w H h a (.frz o u)) : h.get? a = some o := by
  obtain ⟨e, _⟩ := x
  exact e
theorem HotX.at (c : HotX X) (I : Inv X pins σ H s) : ∃ a o vs u, X.A.handled = some (.ref a) ∧ H a = some (.frz o u) ∧ s.heap.get? a = some o ∧ o.data = .fields vs ∧ vs[2]? = some .none := by
  obtain ⟨a, o, vs, u, h1, h2, h3, h4⟩ := c
  have q := I.base.frzs a o u h2
  exact ⟨a, o, vs, u, h1, q, frz_get (I.hok a _ q), h3, h4⟩
theorem HotX.blk (c : HotX X) (I : Inv X pins σ H s) {scope : Scope} {env : Env} {fp : List Addr} : HotX (X.blk s H scope env fp) := by
  obtain ⟨a, o, vs, u, h1, q, _, h3, h4⟩ := c.at I
  exact ⟨a, o, vs, u, h1, q, h3, h4⟩
end
end TL
namespace TL
open PySem PySem.Spec PyProof.Rows L2 HotX
/-- an iterator's turns in such a context -/
structure TurnX (P : Program) (w : World) (K : PySem.W.Frag) (tg : Expr) (J : It) (fp : List Addr) (it : Addr) (tn : Nat → Heap → Prop) : Prop where
  mem : it ∈ fp
  obj : ∀ i h, tn i h → ∀ b ∈ fp, ∃ o, h.get? b = some o ∧ ∀ v, o.data ≠ .cell v
  keep : ∀ i h h', tn i h → (∀ b ∈ fp, ∀ o, h.get? b = some o → h'.get? b = some o) → tn i h'
  self : ∀ (A : Around) (i : Nat) (s : Shared) (Q : Value → Shared → Prop) (E : Value → Shared → Prop), tn i s.heap → Q (.ref it) s → wpAny (model P w) A (pyIter (.ref it)) Q E s
  item : ∀ (X : Cx) (i : Nat) (pins : List (Addr × Obj)) (s : Shared) (σ : L2.St) (H : Hp) (E : Value → Shared → Prop), X.prog = P → X.w = w → X.K = K → HotX X → Inv X pins σ H s → (∀ b ∈ fp, FpOk X pins H b) → tn i s.heap → J.go i H →
    wpAny (model P w) X.A (pyNext (.ref it)) (fun r s1 => ∃ u, r = some u ∧ wpAny (model P w) X.A (letOwnedTupleGo tg (.ref it) u) (fun _ s2 => ∃ x H', Inv X pins σ H' s2 ∧ RelV x u ∧ J.yld i H x H' ∧ tn (i + 1) s2.heap ∧ ∀ b ∈ fp, H' b = none) E s1) E s
  done : ∀ (X : Cx) (i : Nat) (pins : List (Addr × Obj)) (s : Shared) (σ : L2.St) (H : Hp) (E : Value → Shared → Prop), X.prog = P → X.w = w → X.K = K → HotX X → Inv X pins σ H s → (∀ b ∈ fp, FpOk X pins H b) → tn i s.heap → J.stop i H →
    wpAny (model P w) X.A (pyNext (.ref it)) (fun r s1 => r = none ∧ Inv X pins σ H s1) E s
structure PIX (X : Cx) (tg iter : Expr) (wi : L2.TI) : Prop where
  run : ∀ (pins : List (Addr × Obj)) (s : Shared) (σ : L2.St) (H : Hp) (R : It → Hp → Prop), Inv X pins σ H s → wi σ H R →
    wpAny (model X.prog X.w) X.A (eval iter X.env) (fun v s1 => wpAny (model X.prog X.w) X.A (pyIter v) (fun itv s2 =>
      ∃ it fp tn J H', itv = .ref it ∧ Inv X pins σ H' s2 ∧ TurnX X.prog X.w X.K tg J fp it tn ∧ tn 0 s2.heap ∧ (∀ b ∈ fp, FpOk X pins H' b) ∧ R J H') X.xe s1) X.xe s
theorem PIX.weak {X : Cx} {tg e : Expr} {t u : L2.TI} (h : PIX X tg e t) (k : ∀ σ H R, u σ H R → t σ H R) : PIX X tg e u := ⟨fun pins s σ H R I q => h.run pins s σ H R I (k _ _ _ q)⟩
section
variable {X : Cx} {elt tg iter : Expr} {ifs : List Expr} {scope : Scope} {own : List (Str × Nat)} {wi : L2.TI} {g : L2.TG} {tt : L2.TT} {te : L2.TE}
/-- the block's parts, wherever it begins -/
structure BlkX (X : Cx) (scope : Scope) (tg : Expr) (ifs : List Expr) (elt : Expr) (g : L2.TG) (tt : L2.TT) (te : L2.TE) : Prop where
  g : ∀ (s : Shared) (H : Hp) (C : Addr) (cl : List (Str × Addr)) (fp : List Addr), HotX (X.blk s H scope (compEnvC scope cl C X.env) fp) → PG (X.blk s H scope (compEnvC scope cl C X.env) fp) tg g
  t : ∀ (s : Shared) (H : Hp) (C : Addr) (cl : List (Str × Addr)) (fp : List Addr), PTs (X.blk s H scope (compEnvC scope cl C X.env) fp) ifs tt
  e : ∀ (s : Shared) (H : Hp) (C : Addr) (cl : List (Str × Addr)) (fp : List Addr), PE (X.blk s H scope (compEnvC scope cl C X.env) fp) elt te
end
end TL
namespace TL
open PySem PySem.Spec PyProof.Rows L2 HotX
section
variable {P : Program} {w : World} {X : Cx} {pins : List (Addr × Obj)} {σ : L2.St} {H : Hp} {s : Shared} {a C : Addr} {d : Option Addr}
end
section
variable {G : Gd} {H : Hp} {S : Sto} {a : Addr} {c : Str} {ns : List Str} {ts : List T}
theorem lookup_reps {f : Str} {t : T} : ∀ {ns : List Str} {ts : List T} {xs : List V}, Reps G H S ts xs → (ns.zip ts).lookup f = some t → ∃ v, (ns.zip xs).lookup f = some v ∧ Rep G H S t v
  | [], _, _, _, e => by cases e
  | n :: ns, [], _, _, e => by cases e
  | n :: ns, t' :: ts, _, r, e => by
    cases r with
    | @cons _ _ v vs r1 r2 =>
      rw [List.zip_cons_cons, List.lookup_cons] at e
      rw [List.zip_cons_cons]
      by_cases q : f = n
      · subst q
        simp only [beq_self_eq_true] at e
        cases e
        exact ⟨v, by simp [List.lookup], r1⟩
      · have q' : (f == n) = false := by simpa using q
        rw [q'] at e
        obtain ⟨w, h1, h2⟩ := lookup_reps r2 e
        exact ⟨w, by rw [List.lookup_cons, q']; exact h1, h2⟩
end
section
variable {X : Cx} {a e : Expr} {ta : TTE} {p p2 pos : Pos} {D f : Str} {tbl : Str → Option Bool} {ok : Str → Bool}
end
end TL
namespace TL
open PySem PySem.Spec PyProof.Rows L2 HotX
structure Hd where
  c : Value
  i : Option Nat
  ts : Addr → L2.TS
def hdSet : Option Nat → Option V → L2.St → L2.St
  | none, _, σ => σ
  | some i, v, σ => σ.set i v
/-- the context of a suite -/
abbrev sui (X : Cx) (a : Addr) (pins : List (Addr × Obj)) : Cx := X.suite a (X.pn ++ pins)
inductive HdsX (X : Cx) : List ExceptHandler → List Hd → Prop
  | nil : HdsX X [] []
  | plain {x : Str} {c : Value} {ts : Addr → L2.TS} {b₀ : Stmt} {suite : List Stmt} {np pos' : Pos} {hds : List ExceptHandler} {l : List Hd} (hc : Names X x c) (hsu : ∀ a pins, PSs (sui X a pins) (b₀ :: suite) (ts a)) (r : HdsX X hds l) :
      HdsX X (.ExceptHandler (some (.Name x np)) none (b₀ :: suite) pos' :: hds) (⟨c, none, ts⟩ :: l)
  | named {x n : Str} {c : Value} {i : Nat} {ts : Addr → L2.TS} {b₀ : Stmt} {suite : List Stmt} {np pos' : Pos} {hds : List ExceptHandler} {l : List Hd} (hc : Names X x c) (hN : X.N.Nodup) (hi : X.N[i]? = some n) (hln : X.env.kindOf n = some .local) (hsu : ∀ a pins, PSs (sui X a pins) (b₀ :: suite) (ts a)) (r : HdsX X hds l) :
      HdsX X (.ExceptHandler (some (.Name x np)) (some n) (b₀ :: suite) pos' :: hds) (⟨c, some i, ts⟩ :: l)
section
variable {X : Cx} {pins : List (Addr × Obj)} {σ : L2.St} {H : Hp} {s sI : Shared} {a C : Addr} {d : Option Addr}
end
section
variable {X : Cx} {body : List Stmt} {h₀ : ExceptHandler} {hds : List ExceptHandler} {l : List Hd} {pos : Pos} {tb : WX → L2.TS} {Wout : WX}
end
end TL
namespace TL
open PySem PySem.Spec PyProof.Rows L2 HotX
abbrev RoomH := L2H.RoomH
def HotA (A : Around) (H : Hp) : Prop := ∃ a o vs u, A.handled = some (.ref a) ∧ H a = some (.frz o u) ∧ o.data = .fields vs ∧ vs[2]? = some .none
abbrev CX0 : CXT := fun _ _ _ _ _ _ => False
structure FnX (P : Program) (w : World) (K : PySem.W.Frag) (mg : Str → Option Value) (base : Heap) (k : Nat) (f : Addr) (fd : FuncData) (ps : List Str) (sp : Sp) : Prop where
  len : ∀ vs H Q E, sp vs H Q E → vs.length = ps.length
  run : ∀ (A : Around) (outer : List Env) (s : Shared) (H : Hp) (args : Args) (us : List Value) (vs : List V) (Q : VK) (E : XK), RoomH k A → HotA A H → Env0 P w K mg base A outer s H → BindsTo s fd args (ps.zip us) → Vals vs us → sp vs H Q E →
    codeAny (model P w) A (.call (.ref f) args) (CR CX0 outer P w H s Q E) s
section
variable {P : Program} {w : World} {K : PySem.W.Frag} {mg : Str → Option Value} {base : Heap} {x qual : Str} {params : Arguments} {body : List Stmt} {scope : Scope} {f : Addr} {fd : FuncData} {N ps : List Str} {k : Nat} {c : TTS}
end
def HotS (A : Around) (S : Sto) (H : Hp) : Prop := ∃ a o vs u, A.handled = some (.ref a) ∧ H a = some (.frz o u) ∧ S a = none ∧ o.data = .fields vs ∧ vs[2]? = some .none
theorem HotS.ext {A : Around} {S S' : Sto} {H H' : Hp} (h : HotS A S H) (x : Ext S H S' H') : HotS A S' H' := by
  obtain ⟨a, o, vs, u, h1, h2, h3, h4, h5⟩ := h
  obtain ⟨q1, q2⟩ := (x a (.frz o u) h3).1 h2 rfl
  exact ⟨a, o, vs, u, h1, q1, q2, h4, h5⟩
theorem HotS.a {A : Around} {S : Sto} {H : Hp} (h : HotS A S H) : HotA A H := by
  obtain ⟨a, o, vs, u, h1, h2, h3, h4, h5⟩ := h
  exact ⟨a, o, vs, u, h1, h2, h4, h5⟩
def TEH (X : Cx) (e : Expr) (t : TTE) : Prop := ∀ M S0 H0 E, HotS X.A S0 H0 → Takes X (wOf X M S0 H0 E) → PE X e (LE X M S0 H0 t E)
def TSH (X : Cx) (s : Stmt) (t : TTS) : Prop := ∀ M S0 H0 E, HotS X.A S0 H0 → Takes X (wOf X M S0 H0 E) → PS X s (LS X M S0 H0 t E)
def TSsH (X : Cx) (s : List Stmt) (t : TTS) : Prop := ∀ M S0 H0 E, HotS X.A S0 H0 → Takes X (wOf X M S0 H0 E) → PSs X s (LS X M S0 H0 t E)
section
variable {X : Cx} {k j : Nat} {f : Addr} {fd : FuncData} {ps : List Str} {x : Str} {p pos : Pos} {e : Expr} {es : List Expr}
theorem TE.h {t : TTE} (h : TE X e t) : TEH X e t := fun M S0 H0 E _ tk => h M S0 H0 E tk
theorem TS.h {st : Stmt} {t : TTS} (h : TS X st t) : TSH X st t := fun M S0 H0 E _ tk => h M S0 H0 E tk
end
section
variable {X : Cx} {tg e a b elt iter : Expr} {ifs : List Expr} {ta tb te : TTE} {p pos tpos spos py : Pos} {elts : List Expr} {kk : Nat} {ti : TTI} {g : TTG} {tc : TTB} {scope : Scope} {ow : List (Str × Nat)}
end
end TL
namespace TL
open PySem PySem.Spec PyProof.Rows L2 HotX
/-- a clause: its class, the slot of its name, its suite -/
structure Hc where
  c : Str
  i : Option Nat
  ts : TTS
def hSet : Option Nat → Option T → TEnv → TEnv
  | none, _, τ => τ
  | some i, v, τ => τ.set i v
inductive HcX (X : Cx) : List ExceptHandler → List Hc → Prop
  | nil : HcX X [] []
  | plain {x : Str} {ts : TTS} {b₀ : Stmt} {suite : List Stmt} {np pos' : Pos} {hds : List ExceptHandler} {l : List Hc} (hc : Names X x (.ref (He.ga X.K x))) (hsu : ∀ a pins, TSsH (sui X a pins) (b₀ :: suite) ts) (r : HcX X hds l) :
      HcX X (.ExceptHandler (some (.Name x np)) none (b₀ :: suite) pos' :: hds) (⟨x, none, ts⟩ :: l)
  | named {x n : Str} {i : Nat} {ts : TTS} {b₀ : Stmt} {suite : List Stmt} {np pos' : Pos} {hds : List ExceptHandler} {l : List Hc} (hc : Names X x (.ref (He.ga X.K x))) (hN : X.N.Nodup) (hi : X.N[i]? = some n) (hln : X.env.kindOf n = some .local) (hsu : ∀ a pins, TSsH (sui X a pins) (b₀ :: suite) ts) (r : HcX X hds l) :
      HcX X (.ExceptHandler (some (.Name x np)) (some n) (b₀ :: suite) pos' :: hds) (⟨x, some i, ts⟩ :: l)
section
variable {X : Cx}
theorem EnvR.off {G : Gd} {H : Hp} {S : Sto} {σ : L2.St} {τ : TEnv} (h : EnvR G H S σ τ) (i : Option Nat) : EnvR G H S (hdSet i none σ) (hSet i none τ) := by
  cases i with
  | none => exact h
  | some i => exact h.wipe [i]
theorem Rel.off {G : Gd} {S0 S : Sto} {H0 H : Hp} {σ : L2.St} {τ : TEnv} (r : Rel G S0 H0 σ H τ S) (i : Option Nat) : Rel G S0 H0 (hdSet i none σ) H (hSet i none τ) S := ⟨r.env.off i, r.sto, r.ext⟩
end
section
variable {κ α β σ : Type} {W : κ → Sto} {p : TEnv} {post : β → Dest}
/-- the slot of the clause's name is not told -/
def OffP (i : Option Nat) : Dest → Prop
  | .nx p _ => ∀ j, i = some j → p[j]? = some none
  | .bk p _ => ∀ j, i = some j → p[j]? = some none
  | .ct p _ => ∀ j, i = some j → p[j]? = some none
  | .rt _ => True
  | .fin => True
theorem En.off {p τ : TEnv} {i : Option Nat} (h : En p τ) (hi : ∀ j, i = some j → p[j]? = some none) : En p (hSet i none τ) := by
  cases i with
  | none => exact h
  | some j =>
    have e : p.set j none = p := by
      apply List.ext_getElem?
      intro n
      by_cases hn : j = n
      · subst hn
        rw [List.getElem?_set_self', hi j rfl]
        rfl
      · rw [List.getElem?_set_ne hn]
    have z := h.set (i := j) (x := none)
    rw [e] at z
    exact z
inductive XHs (W : κ → Sto) (p : TEnv) (post : β → Dest) : List Hc → List (Str × (T → PM κ β)) → Prop
  | nil : XHs W p post [] []
  | cons {c : Str} {i : Option Nat} {ts : TTS} {g : T → PM κ β} {l : List Hc} {lm : List (Str × (T → PM κ β))} (h : ∀ x, XS W (hSet i (some x) p) [] ts (g x) post) (o : ∀ b, OffP i (post b)) (r : XHs W p post l lm) : XHs W p post (⟨c, i, ts⟩ :: l) ((c, g) :: lm)
end
section
variable {X : Cx} {j i : Nat} {x : Str} {p pos : Pos} {e : Expr} {es : List Expr} {ta : TTA}
end
section
variable {κ : Type} {W : κ → Sto} {p : TEnv} {l : Cs}
def fnOf (t : Str → Option (List T → PM Unit T)) : T → Option (List T → PM Unit T)
  | .fn x => t x
  | _ => none
end
inductive Alls {α : Type} (P : α → Prop) : List α → Prop
  | nil : Alls P []
  | cons {a : α} {l : List α} (h : P a) (r : Alls P l) : Alls P (a :: l)
theorem Alls.mem {α : Type} {P : α → Prop} {l : List α} (h : Alls P l) : ∀ {a : α}, a ∈ l → P a := by
  induction h with
  | nil => intro a m; cases m
  | cons h r ih =>
    intro a m
    rcases List.mem_cons.mp m with e | m
    · exact e ▸ h
    · exact ih m
def okL (l : List Str) : Str → Bool := fun c => l.contains c
end TL
namespace TL
open PySem PySem.Spec PyProof.Rows L2 HotX
section
variable {κ : Type} {W : κ → Sto} {p : TEnv} {l : Cs} {a b : TTE} {ma mb : PM κ T}
end
end TL
namespace TL
open PySem PySem.Spec PyProof.Rows L2 HotX
section
variable {K : PySem.W.Frag} {mg : Str → Option Value} {x : Str}
end
end TL
namespace TL
open PySem PySem.Spec PyProof.Rows L2
structure SaysY (fa : List He.Fa) (fn : List He.DefD) (ex : PySem.W.Frag → Bool) (w : World) (K : PySem.W.Frag) : Prop where
  t : He.SaysT fa fn [] w K
  more : ex K = true
end TL
namespace TL
open PySem PySem.Spec PyProof.Rows L2
def isbT (_ : Sto) (x y : T) : Option T := match x, y with
  | .bl a, .bl b => some (.bl (a == b))
  | _, _ => none
def isnbT (_ : Sto) (x y : T) : Option T := match x, y with
  | .bl a, .bl b => some (.bl (!(a == b)))
  | _, _ => none
section
variable {X : Cx}
end
theorem isbT_bl {a b : Bool} : isbT emp (.bl a) (.bl b) = some (.bl (a == b)) := rfl
theorem isnbT_bl {a b : Bool} : isnbT emp (.bl a) (.bl b) = some (.bl (!(a == b))) := rfl
end TL
namespace TL
open PySem PySem.Spec PyProof.Rows L2
section
variable {prog : Program} {w : World} {A : Around} {E : Value → Shared → Prop} {s : Shared}
end
section
variable {X : Cx} {e ks : Expr} {te tk : L2.TE} {p3 pos : Pos}
end
end TL
namespace TL
open PySem PySem.Spec PyProof.Rows L2
/-- a written dict of the module: from texts to ints -/
structure TabOk (K : PySem.W.Frag) (w : World) (mg : Str → Option Value) (x : Str) (l : List (Str × Int)) : Prop where
  gm : mg x = some (.ref (He.ga K x))
  kd : ∃ es n, KDict K w (He.ga K x) es n
  vs : ∀ p ∈ l, ∃ u, PySem.W.nsIn K (He.ga K x) p.1 = some (some u) ∧ RelV (.int p.2) u
theorem tab_of {K : PySem.W.Frag} {w : World} {mg : Str → Option Value} {x : Str} {l : List (Str × Int)} (hm : mg x = some (.ref (He.ga K x))) (hk : ∃ es n, KDict K w (He.ga K x) es n) (hv : He.valsB K (He.ga K x) (l.map fun p => (p.1, He.Dv.int p.2)) = true) : TabOk K w mg x l :=
  ⟨hm, hk, fun p hp => He.valsB_ok hv (List.mem_map.mpr ⟨p, hp, rfl⟩)⟩
end TL
namespace TL
open PySem PySem.Spec PyProof.Rows L2
end TL
namespace TL
open PySem PySem.Spec PyProof.Rows L2
def intsT : List T → Option (List Int)
  | [] => some []
  | .int i :: ts => (intsT ts).map (i :: ·)
  | _ => none
theorem intsT_map {α : Type} {f : α → Int} : ∀ xs : List α, intsT (xs.map fun a => T.int (f a)) = some (xs.map f)
  | [] => rfl
  | x :: xs => by
    rw [List.map_cons, intsT, intsT_map xs]; rfl
theorem intsT_reps {G : Gd} {H : Hp} {S : Sto} : ∀ {ts : List T} {ns : List Int} {vs : List V}, intsT ts = some ns → Reps G H S ts vs → vs = ns.map V.int
  | [], _, _, e, r => by
    cases e
    cases r
    rfl
  | t :: ts, ns, _, e, r => by
    cases r with
    | cons a b =>
      cases t with
      | int i =>
        obtain ⟨ms, h1, rfl⟩ := Option.map_eq_some_iff.mp (show (intsT ts).map (i :: ·) = some ns from e)
        cases a
        rw [intsT_reps h1 b]
        rfl
      | _ => cases e
def maxI : List Int → Int
  | [] => 0
  | n :: ns => ns.foldl max n
theorem foldl_max_ge : ∀ (ns : List Int) (n : Int), n ≤ ns.foldl max n ∧ ∀ y ∈ ns, y ≤ ns.foldl max n
  | [], n => ⟨Int.le_refl _, nofun⟩
  | m :: ns, n => by
    obtain ⟨h1, h2⟩ := foldl_max_ge ns (max n m)
    have a := Int.le_max_left n m
    have b := Int.le_max_right n m
    refine ⟨by rw [List.foldl_cons]; omega, fun y hy => ?_⟩
    rw [List.foldl_cons]
    rcases List.mem_cons.mp hy with z | z
    · rw [z]; omega
    · exact h2 y z
theorem foldl_max_mem : ∀ (ns : List Int) (n : Int), ns.foldl max n = n ∨ ns.foldl max n ∈ ns
  | [], n => .inl rfl
  | m :: ns, n => by
    rw [List.foldl_cons]
    rcases foldl_max_mem ns (max n m) with h | h
    · rcases (by omega : max n m = n ∨ max n m = m) with z | z
      · exact .inl (h.trans z)
      · exact .inr (by rw [h, z]; exact .head _)
    · exact .inr (.tail _ h)
theorem maxI_mem {ns : List Int} (h : ns ≠ []) : maxI ns ∈ ns := by
  cases ns with
  | nil => exact absurd rfl h
  | cons n ns =>
    rcases foldl_max_mem ns n with z | z
    · show ns.foldl max n ∈ _
      rw [z]; exact .head _
    · exact .tail _ z
theorem le_maxI {ns : List Int} {y : Int} (h : y ∈ ns) : y ≤ maxI ns := by
  cases ns with
  | nil => cases h
  | cons n ns =>
    obtain ⟨a, b⟩ := foldl_max_ge ns n
    rcases List.mem_cons.mp h with z | z
    · rw [z]; exact a
    · exact b y z
def max1F (S : Sto) : List T → Option T
  | [t] => match res S t with
    | .lst ts => (intsT ts).bind fun ns => if ns.isEmpty = true then none else some (.int (maxI ns))
    | _ => none
  | _ => none
section
variable {X : Cx}
theorem ints_of {M : Addr → Prop} {H : Hp} {S : Sto} {t : T} {v : V} {ts : List T} {ns : List Int} (o : StoOk (gdOf X M) H S) (ry : Rep (gdOf X M) H S t v) (hz : res S t = .lst ts) (hi : intsT ts = some ns) : ∃ a, v = .ref a ∧ SqL X.K H a (ns.map V.int) := by
  obtain ⟨a, ws, rfl, h1, h2⟩ := res_lst o ry hz
  have hw := intsT_reps hi h2
  subst hw
  exact ⟨a, rfl, SqL.of h1⟩
theorem fn_max1 (hc : X.calm = true) : CallT X (.builtin "max") max1F := by
  intro pins s σ H xs us Q I r h
  obtain ⟨M, S, ts, t, o, rs, e, fin⟩ := h
  unfold max1F at e
  split at e
  · obtain ⟨v, rfl, ry⟩ := rs.one
    split at e
    · rename_i zs hz
      obtain ⟨ns, hi, e⟩ := Option.bind_eq_some_iff.mp e
      split at e
      · cases e
      · rename_i hne
        cases e
        have hne' : ns ≠ [] := fun z => hne (by rw [z]; rfl)
        obtain ⟨a, rfl, hs⟩ := ints_of o ry hz hi
        refine cr_max hc pins s σ H _ us Q I r ⟨a, ns, rfl, hs, List.length_pos_iff.mpr hne', fun m h1 h2 => ?_⟩
        obtain rfl : m = maxI ns := Int.le_antisymm (le_maxI h1) (h2 _ (maxI_mem hne'))
        exact fin _ _ o Ext.refl (.int _)
    · cases e
  · cases e
end
theorem fnv_max1F : FnV max1F := fnv_one (fun x => match x with
  | .lst ts => (intsT ts).bind fun ns => if ns.isEmpty = true then none else some (.int (maxI ns))
  | _ => none) (fun _ _ => rfl) rfl (fun _ _ _ => rfl) (fun _ => rfl) fun _ _ _ => rfl
theorem max1F_l {ns : List Int} (h : ns ≠ []) : max1F emp [.lst (ns.map T.int)] = some (.int (maxI ns)) := by
  have e := intsT_map (f := fun a : Int => a) ns
  rw [List.map_id'] at e
  show (intsT (ns.map fun a => T.int a)).bind _ = _
  rw [e]
  show (if _ then _ else _) = _
  rw [if_neg (by cases ns with | nil => exact absurd rfl h | cons _ _ => exact Bool.false_ne_true)]
end TL
namespace TL
open PySem PySem.Spec PyProof.Rows L2
mutual
theorem Dt.plain : ∀ {n : Nat} (t : T), Dt n t → TL.plain t = true
  | _, _, .str _ _ => rfl
  | _, _, .int _ _ => rfl
  | _, _, .bl _ _ => rfl
  | _, .tup xs, .tup h _ => Dt.plains xs h
  | _, .lst xs, .lst h _ => Dt.plains xs h
theorem Dt.plains : ∀ {n : Nat} (ts : List T), (∀ x ∈ ts, Dt n x) → TL.plains ts = true
  | _, [], _ => rfl
  | _, t :: ts, h => by
    show (TL.plain t && TL.plains ts) = true
    rw [Dt.plain t (h t (.head _)), Dt.plains ts fun x hx => h x (.tail _ hx)]
    rfl
end
mutual
theorem Dt.dep : ∀ {n : Nat} (t : T), Dt n t → TL.dep t ≤ n
  | _, _, .str _ _ => Nat.zero_le _
  | _, _, .int _ _ => Nat.zero_le _
  | _, _, .bl _ _ => Nat.zero_le _
  | _, .tup xs, .tup h _ => Nat.succ_le_succ (Dt.deps xs h)
  | _, .lst xs, .lst h _ => Nat.succ_le_succ (Dt.deps xs h)
theorem Dt.deps : ∀ {n : Nat} (ts : List T), (∀ x ∈ ts, Dt n x) → TL.deps ts ≤ n
  | _, [], _ => Nat.zero_le _
  | _, t :: ts, h => Nat.max_le.mpr ⟨Dt.dep t (h t (.head _)), Dt.deps ts fun x hx => h x (.tail _ hx)⟩
end
theorem Dt.okd {n : Nat} {t : T} (h : Dt n t) (hn : n ≤ 64) : TL.okd t = true := by
  unfold TL.okd
  rw [Dt.plain t h, decide_eq_true (Nat.le_trans (Dt.dep t h) hn)]
  rfl
theorem nl_res {t : T} (h : plain t = true) : res emp t = t := by
  cases t <;> first | rfl | cases h
theorem Dt.eqT {n m : Nat} {x y : T} (h : Dt n x) (hn : n ≤ 64) (k : Dt m y) (hm : m ≤ 64) : TL.eqT emp x y = some (.bl (eqt x y)) := by
  unfold TL.eqT
  rw [nl_res (Dt.plain x h), nl_res (Dt.plain y k), h.okd hn, k.okd hm]
  rfl
theorem Dt.neT {n m : Nat} {x y : T} (h : Dt n x) (hn : n ≤ 64) (k : Dt m y) (hm : m ≤ 64) : TL.neT emp x y = some (.bl (!eqt x y)) := by
  unfold TL.neT
  rw [nl_res (Dt.plain x h), nl_res (Dt.plain y k), h.okd hn, k.okd hm]
  rfl
end TL
namespace TL
open PySem PySem.Spec PyProof.Rows L2
section
variable {X : Cx}
end
/-- what a def promises where nothing guards -/
structure FnG (P : Program) (w : World) (K : PySem.W.Frag) (mg : Str → Option Value) (base : Heap) (k : Nat) (f : Addr) (fd : FuncData) (ps : List Str) (sp : Sp) : Prop where
  run : ∀ (A : Around) (outer : List Env) (s : Shared) (H : Hp) (args : Args) (us : List Value) (vs : List V) (Q : VK) (E : XK), A.guards = some [] → Room k A → Env0 P w K mg base A outer s H → BindsTo s fd args (ps.zip us) → Vals vs us → sp vs H Q E →
    codeAny (model P w) A (.call (.ref f) args) (CR (L2N.CX P w) outer P w H s Q E) s
section
variable {P : Program} {w : World} {K : PySem.W.Frag} {mg : Str → Option Value} {base : Heap} {x qual : Str} {params : Arguments} {body : List Stmt} {scope : Scope} {f : Addr} {fd : FuncData} {N ps : List Str} {k : Nat} {c : TTS} {sp : SpT}
abbrev cxG (P : Program) (w : World) (K : PySem.W.Frag) (mg : Str → Option Value) (base : Heap) (N : List Str) (qual : Str) (scope : Scope) (f : Addr) := cxOf (L2N.CX P w) P w K mg base N qual scope f
end
end TL
namespace TL
open PySem PySem.Spec PyProof.Rows L2
end TL
namespace TL
open PySem PySem.Spec PyProof.Rows L2
local macro_rules | `(tactic| simp_arith [$ts,*] $[$loc]?) => `(tactic| simp (implicitDefEqProofs := false) only [pu_bd, bd_bd, bd_pu, ofO_some, ofO_none, ofO_ite, stuck_bd, thr_bd, lft_pu, lft_bd, lft_gdc, lft_ite, lft_stuck, tb_bl, intO_int, itemsM_tup, itemsM_lst, itemsM_str, gd_c, gdc_T, compG_map, compA_pu, compA_gd, compA_if, compA_gdif, forM_map, forR_map, un2_tup, un3_tup, un4_tup, sum_inl, sum_inr, isStr_str, isTup_tup, joinF_l, joinF_t, strsOf_nil, strsOf_cons, strsOf_map, Option.bind_some, Option.bind_none, addT_int, addT_str, addT_lst, addT_tup, subT_int, mulT2_int, mulT2_str, fdivT_int, modT_int, powT_int, negT_int, eqT_int, neT_int, eqT_str, neT_str, eqT_bl, neT_bl, ltT_int, gtT_int, leT_int, geT_int, ixT_lst, ixT_tup, atI_0, atI_1, atI_2, atI_3, lenF_lst, lenF_tup, lenF_str, absF_int, intF_int, intF_bl, max2F_int, min2F_int, strF_int, isi_str, isi_int, isi_tup, isi_lst, slT_lst, slT_tup, slT_str, tupleF_lst, tupleF_tup, listF_lst, listF_tup, inT_strs, ninT_strs, inT_strsT, ninT_strsT, ite_pu, decide_eq_true_eq, Bool.not_eq_true', if_true, if_false, Bool.false_eq_true, Bool.true_eq_false, Option.map_some, Option.map_none, isbT_bl, isnbT_bl, $ts,*] $[$loc]?)
local macro_rules | `(tactic| simp_arith! [$ts,*] $[$loc]?) => `(tactic| simp (implicitDefEqProofs := false) only [pu_bd, bd_bd, bd_pu, ofO_some, ofO_none, ofO_ite, stuck_bd, thr_bd, lft_pu, lft_bd, lft_gdc, lft_ite, lft_stuck, tb_bl, intO_int, itemsM_tup, itemsM_lst, itemsM_str, gd_c, gdc_T, compG_map, compA_pu, compA_gd, compA_if, compA_gdif, forM_map, forR_map, un2_tup, un3_tup, un4_tup, sum_inl, sum_inr, isStr_str, isTup_tup, joinF_l, joinF_t, strsOf_nil, strsOf_cons, strsOf_map, Option.bind_some, Option.bind_none, addT_int, addT_str, addT_lst, addT_tup, subT_int, mulT2_int, mulT2_str, fdivT_int, modT_int, powT_int, negT_int, eqT_int, neT_int, eqT_str, neT_str, eqT_bl, neT_bl, ltT_int, gtT_int, leT_int, geT_int, ixT_lst, ixT_tup, atI_0, atI_1, atI_2, atI_3, lenF_lst, lenF_tup, lenF_str, absF_int, intF_int, intF_bl, max2F_int, min2F_int, strF_int, isi_str, isi_int, isi_tup, isi_lst, slT_lst, slT_tup, slT_str, tupleF_lst, tupleF_tup, listF_lst, listF_tup, inT_strs, ninT_strs, inT_strsT, ninT_strsT, ite_pu, decide_eq_true_eq, Bool.not_eq_true', if_true, if_false, Bool.false_eq_true, Bool.true_eq_false, Option.map_some, Option.map_none, isbT_bl, isnbT_bl, kis_non_non, kis_non_bool, kis_non_int, kis_non_str, kis_non_tup, kis_non_lst, kis_non_dct, kis_bool_non, kis_bool_bool, kis_bool_int, kis_bool_str, kis_bool_tup, kis_bool_lst, kis_bool_dct, kis_int_non, kis_int_bool, kis_int_int, kis_int_str, kis_int_tup, kis_int_lst, kis_int_dct, kis_str_non, kis_str_bool, kis_str_int, kis_str_str, kis_str_tup, kis_str_lst, kis_str_dct, kis_tup_non, kis_tup_bool, kis_tup_int, kis_tup_str, kis_tup_tup, kis_tup_lst, kis_tup_dct, kis_lst_non, kis_lst_bool, kis_lst_int, kis_lst_str, kis_lst_tup, kis_lst_lst, kis_lst_dct, kis_dct_non, kis_dct_bool, kis_dct_int, kis_dct_str, kis_dct_tup, kis_dct_lst, kis_dct_dct, isi_bl, isi_non, List.any_cons, List.any_nil, Bool.or_false, Bool.or_true, Bool.false_or, Bool.true_or, Bool.not_true, Bool.not_false, beq_self_eq_true, bne_self_eq_false, $ts,*] $[$loc]?)
local macro_rules | `(tactic| simp_all_arith [$ts,*]) => `(tactic| simp (implicitDefEqProofs := false) only [pu_bd, bd_bd, bd_pu, ofO_some, ofO_none, ofO_ite, stuck_bd, thr_bd, lft_pu, lft_bd, lft_gdc, lft_ite, lft_stuck, tb_bl, intO_int, itemsM_tup, itemsM_lst, itemsM_str, gd_c, gdc_T, compG_map, compA_pu, compA_gd, compA_if, compA_gdif, forM_map, forR_map, un2_tup, un3_tup, un4_tup, sum_inl, sum_inr, isStr_str, isTup_tup, joinF_l, joinF_t, strsOf_nil, strsOf_cons, strsOf_map, Option.bind_some, Option.bind_none, addT_int, addT_str, addT_lst, addT_tup, subT_int, mulT2_int, mulT2_str, fdivT_int, modT_int, powT_int, negT_int, eqT_int, neT_int, eqT_str, neT_str, eqT_bl, neT_bl, ltT_int, gtT_int, leT_int, geT_int, ixT_lst, ixT_tup, atI_0, atI_1, atI_2, atI_3, lenF_lst, lenF_tup, lenF_str, absF_int, intF_int, intF_bl, max2F_int, min2F_int, strF_int, isi_str, isi_int, isi_tup, isi_lst, slT_lst, slT_tup, slT_str, tupleF_lst, tupleF_tup, listF_lst, listF_tup, inT_strs, ninT_strs, inT_strsT, ninT_strsT, ite_pu, decide_eq_true_eq, Bool.not_eq_true', if_true, if_false, Bool.false_eq_true, Bool.true_eq_false, Option.map_some, Option.map_none, isbT_bl, isnbT_bl, extM_l, appM_c, compA_ifo, fkT, kinT, famT, List.cons_append, List.nil_append, $ts,*])
/-- a family's names, in either order -/
structure LFam (f : List Nm) : Prop where
  lo : 1 ≤ f.length
  hi : f.length ≤ 2
  nd : f.Nodup
  ok : ∀ x ∈ f, NameOk x
theorem LFam.rise {f : List Nm} (h : LFam f) : Rise ((srt T.str f).map T.str) := se_str.rise (fun _ _ => trivial) h.nd
def addF (B : Bk) (p : Nm × Nm) : Bk := ⟨srt fkT (B.folk ++ [p]), B.unions, B.births, B.adopts⟩
def xcT (c : Str) : T := .exc c [] []
def putF (B : Bk) (p : Nm × Nm) : PM Unit T := if p.1 ∈ B.names then thr (xcT "Known") else if B.folk.length = 16 then thr (xcT "TooMuch") else pu (bkT (addF B p))
end TL
namespace TL
open PySem PySem.Spec PyProof.Rows L2
end TL
namespace TL
open PySem PySem.Spec PyProof.Rows L2
end TL
namespace TL
open PySem PySem.Spec PyProof.Rows L2
section
variable {X : Cx} {pins : List (Addr × Obj)} {s : Shared} {σ : L2.St} {H : Hp} {S : Sto} {M : Addr → Prop} {Q : VK}
end
section
variable {X : Cx} {e : Expr} {p apos cpos pos : Pos}
end
end TL
namespace TL
open PySem PySem.Spec PyProof.Rows L2
section
variable {X : Cx} {k v : Expr} {pos : Pos} {a b : List Sg}
end
section
variable {κ : Type} {W : κ → Sto} {p : TEnv} {l : Cs} {a b : List Sg}
end
end TL
namespace TL
open PySem PySem.Spec PyProof.Rows L2
def neE (S : Sto) (x y : T) : Option T := match res S x, res S y with
  | .lst (_ :: _), .lst [] => some (.bl true)
  | .tup (_ :: _), .tup [] => some (.bl true)
  | _, _ => neT S x y
section
variable {X : Cx}
theorem plain_is {s : Shared} {a : Addr} {its : Array Value} (h : PlainL s.heap a its) : s.heap.IsList a its := by
  obtain ⟨o, n, ho, hc, _, hd⟩ := h
  exact ⟨o, ho, hc, n, hd⟩
theorem two_lists {pins : List (Addr × Obj)} {s : Shared} {σ : L2.St} {H : Hp} {M : Addr → Prop} {S : Sto} {tx ty t : T} {ts : List T} {x y : V} {v u : Value} (I : Inv X pins σ H s) (o : StoOk (gdOf X M) H S) (rx : RelV x v) (ry : RelV y u) (hx : Rep (gdOf X M) H S tx x) (hy : Rep (gdOf X M) H S ty y) (e1 : res S tx = .lst (t :: ts)) (e2 : res S ty = .lst []) :
    ∃ (a b : Addr) (i1 i2 : Array Value), v = .ref a ∧ u = .ref b ∧ s.heap.IsList a i1 ∧ s.heap.IsList b i2 ∧ (i1.size != i2.size) = true := by
  obtain ⟨a, xs, rfl, h1, r1⟩ := res_lst o hx e1
  obtain ⟨b, ys, rfl, h2, r2⟩ := res_lst o hy e2
  cases rx
  cases ry
  cases r2
  obtain ⟨its, rv, pl, _⟩ := I.list (SqL.of h1)
  obtain ⟨jts, rw_, pk, _⟩ := I.list (SqL.of h2)
  cases rw_
  have l1 := r1.length
  have l2 := rv.length
  refine ⟨a, b, _, _, rfl, rfl, plain_is pl, plain_is pk, ?_⟩
  rw [List.length_cons] at l1
  have : its.toArray.size ≠ 0 := by rw [List.size_toArray]; omega
  simpa using this
theorem two_tups {pins : List (Addr × Obj)} {s : Shared} {σ : L2.St} {H : Hp} {M : Addr → Prop} {S : Sto} {tx ty t : T} {ts : List T} {x y : V} {v u : Value} (I : Inv X pins σ H s) (o : StoOk (gdOf X M) H S) (rx : RelV x v) (ry : RelV y u) (hx : Rep (gdOf X M) H S tx x) (hy : Rep (gdOf X M) H S ty y) (e1 : res S tx = .tup (t :: ts)) (e2 : res S ty = .tup []) :
    ∃ (a b : Addr) (i1 i2 : Array Value), v = .ref a ∧ u = .ref b ∧ s.heap.IsTuple a i1 ∧ s.heap.IsTuple b i2 ∧ i1.size ≠ 0 ∧ i2.size = 0 := by
  obtain rfl := res_id e1 fun _ z => nomatch z
  obtain rfl := res_id e2 fun _ z => nomatch z
  cases hx with
  | tup h1 r1 =>
    cases hy with
    | tup h2 r2 =>
      cases rx
      cases ry
      cases r2
      obtain ⟨its, rv, ⟨ob, b1, b2, n, b3⟩, _⟩ := I.tuple h1.sq
      obtain ⟨jts, rw_, ⟨oc, c1, c2, m, c3⟩, _⟩ := I.tuple h2.sq
      cases rw_
      have l1 := r1.length
      have l2 := rv.length
      refine ⟨_, _, _, _, rfl, rfl, ⟨ob, b1, b2, n, b3⟩, ⟨oc, c1, c2, m, c3⟩, ?_, rfl⟩
      rw [List.length_cons] at l1
      rw [List.size_toArray]
      omega
theorem tups_off {n m : Nat} (h : n ≠ 0) (k : m = 0) : ((List.range (min n m)).all (fun _ => true) && n == m) = false := by
  subst k
  cases n with
  | zero => exact absurd rfl h
  | succ n => simp
theorem op_neE (hu : X.A.units + 64 < cLine) : OpT X (compareOp .NotEq) neE := by
  intro pins s σ H x y v u Q I rx ry h
  obtain ⟨M, S, tx, ty, t, o, hx, hy, e, fin⟩ := h
  unfold neE at e
  split at e
  · rename_i t1 ts1 e1 e2
    cases e
    obtain ⟨a, b, i1, i2, rfl, rfl, l1, l2, hs⟩ := two_lists I o rx ry hx hy e1 e2
    exact PySem.SeqAt.RcNeAt.lists_lengths l1 l2 hs (by omega) X.prog X.w X.xe _ ⟨V.bl true, H, I, rfl, fin _ H o Ext.refl (.bl _)⟩
  · rename_i t1 ts1 e1 e2
    cases e
    obtain ⟨a, b, i1, i2, rfl, rfl, l1, l2, hs, hz⟩ := two_tups I o rx ry hx hy e1 e2
    have z := PySem.SeqAt.RcNeAt.tuples (A := X.A) (e := fun _ => true) l1 l2 (by omega) fun j j1 j2 => absurd j2 (by omega)
    rw [tups_off hs hz] at z
    exact z X.prog X.w X.xe _ ⟨V.bl true, H, I, rfl, fin _ H o Ext.refl (.bl _)⟩
  · exact op_neT hu pins s σ H x y v u Q I rx ry ⟨M, S, tx, ty, t, o, hx, hy, e, fin⟩
end
def eqG (b : Bool) (x y : T) : Option T := match x, y with
  | .lst (_ :: _), .lst [] => some (.bl (!b))
  | .tup (_ :: _), .tup [] => some (.bl (!b))
  | _, _ => if (okd x && okd y) = true then some (.bl (if b = true then eqt x y else !eqt x y)) else none
theorem eqG_no {b : Bool} {x y : T} (h : okd x = false ∨ okd y = false) (n1 : ∀ ts, x = .lst ts → y ≠ .lst []) (n2 : ∀ ts, x = .tup ts → y ≠ .tup []) : eqG b x y = none := by
  unfold eqG
  split
  · exact absurd rfl (n1 _ rfl)
  · exact absurd rfl (n2 _ rfl)
  · rw [if_neg]
    rcases h with h | h
    · rw [h]; simp
    · rw [h]; simp
theorem neE_g (S : Sto) (x y : T) : neE S x y = eqG false (res S x) (res S y) := by
  unfold neE eqG
  split <;> rfl
theorem opv_neE : OpV neE := opv_of (eqG false) neE_g (fun _ _ => eqG_no (.inl rfl) (fun _ h => nomatch h) (fun _ h => nomatch h)) (fun _ x => eqG_no (.inr (okd_refN ..)) (fun _ _ h => nomatch h) (fun _ _ h => nomatch h)) (fun _ _ _ _ => eqG_no (.inl rfl) (fun _ h => nomatch h) (fun _ h => nomatch h)) fun _ _ _ x => eqG_no (.inr (okd_dctN ..)) (fun _ _ h => nomatch h) (fun _ _ h => nomatch h)
theorem neE_nil (ts : List T) : neE emp (.lst ts) (.lst []) = some (.bl (!ts.isEmpty)) := by
  cases ts <;> rfl
end TL
namespace TL
open PySem PySem.Spec PyProof.Rows
open L2 hiding putF
end TL
namespace TL
open PySem PySem.Spec PyProof.Rows L2
section
variable {X : Cx} {pins : List (Addr × Obj)} {s : Shared} {σ : L2.St} {H : Hp} {M : Addr → Prop} {S : Sto}
end
section
variable {X : Cx}
end
end TL
namespace TL
open PySem PySem.Spec PyProof.Rows L2
end TL
namespace TL
open PySem PySem.Spec PyProof.Rows L2
section
variable {X : Cx} {k1 v1 k2 v2 k3 v3 : Expr} {pos : Pos} {a1 b1 a2 b2 a3 b3 : List Sg}
end
section
variable {κ : Type} {W : κ → Sto} {p : TEnv} {l : Cs} {a1 b1 a2 b2 a3 b3 : List Sg}
end
end TL
namespace TL
open PySem PySem.Spec PyProof.Rows L2
section
variable {κ : Type} {W : κ → Sto} {p : TEnv} {l : Cs} {a : TTE} {lo hi : TTO} {ma : PM κ T} {ml mh : PM κ (Option Int)}
end
end TL
namespace TL
open PySem PySem.Spec PyProof.Rows L2
section
variable {κ : Type} {W : κ → Sto} {p : TEnv} {β : Type}
end
end TL
namespace TL
open PySem PySem.Spec PyProof.Rows L2
section
variable {X : Cx} {o e : Expr} {to te : TTE} {apos cpos : Pos}
def lixF (_ : Sto) (o : T) (ys : List T) : Option T := match o, ys with
  | .lst ts, [.str z] => match strsOf ts with
    | some xs => (plc z xs).map fun j => .int (j : Nat)
    | none => none
  | _, _ => none
theorem lixF_l {xs : List (List Sg)} {z : List Sg} : lixF emp (.lst (xs.map T.str)) [.str z] = (plc z xs).map fun j => .int (j : Nat) := by
  show (match strsOf (xs.map T.str) with
    | some xs => (plc z xs).map fun j => T.int (j : Nat)
    | none => none) = _
  rw [strsOf_map]
end
section
variable {κ : Type} {W : κ → Sto} {p : TEnv} {l : Cs} {β : Type} {u : TTS} {post : β → Dest}
end
end TL
namespace TL
open PySem PySem.Spec PyProof.Rows L2
section
variable {P : Program} {K : PySem.W.Frag} {w : World} {M M2 : Addr → Prop} {H H2 : Hp} {S S2 : Sto}
/-- all cells are lists -/
def noD (S : Sto) : Prop := ∀ a c, S a = some c → ∃ ts, c = .lst ts
/-- what is not looked at while a list is to be new -/
def old (M : Addr → Prop) (H : Hp) (S : Sto) : Addr → Prop := fun a => M a ∨ S a ≠ none ∨ ∃ xs, H a = some (.lst xs)
end
section
variable {X : Cx} {k j : Nat} {ps : List Str} {sp : SpT} {x : Str} {p pos : Pos} {e : Expr} {es : List Expr} {ta : TTA}
end
end TL
namespace TL
open PySem PySem.Spec PyProof.Rows L2
/-- the lists of a store -/
def lsS (S : Sto) : Sto := fun a => match S a with
  | some (.lst ts) => some (.lst ts)
  | _ => none
theorem lsS_at {S : Sto} {a : Addr} {c : Cell} : lsS S a = some c ↔ S a = some c ∧ ∃ ts, c = .lst ts := by
  unfold lsS
  constructor
  · intro h
    split at h
    · rename_i ts e
      cases h
      exact ⟨e, ts, rfl⟩
    · cases h
  · rintro ⟨h, ts, rfl⟩
    rw [h]
def allL (l : Cs) : Bool := l.all fun e => match e.2 with
  | .lst _ => true
  | _ => false
theorem allL_at {l : Cs} (h : allL l = true) {e : Addr × Cell} (m : e ∈ l) : ∃ ts, e.2 = .lst ts := by
  have := List.all_eq_true.mp h e m
  cases q : e.2 with
  | lst ts => exact ⟨ts, rfl⟩
  | dct b ks vs => rw [q] at this; cases this
  | ins c ns ts => rw [q] at this; cases this
  | tab z => rw [q] at this; cases this
section
variable {p : TEnv} {l : Cs} {β : Type} {pa : Addr} {k : Cell} {S : Sto}
theorem SI.ls (hl : allL l = true) (hk : ∃ ts, k = Cell.lst ts) (i : SI (penW emp pa) l k S) : SI (penW emp pa) l k (lsS S) :=
  ⟨fun e m => lsS_at.mpr ⟨i.at_ e m, allL_at hl m⟩, i.own, i.nd, fun a c h => by
    refine lsS_at.mpr ⟨i.base a c h, ?_⟩
    by_cases e : a = pa
    · subst e
      have h : ups emp a k a = some c := h
      rw [ups_same] at h
      cases h
      exact hk
    · have h : ups emp pa k a = some c := h
      rw [ups_ne e] at h
      cases h⟩
/-- the store without some cells -/
def wo (S : Sto) (l : Cs) : Sto := fun a => if a ∈ l.map (·.1) then none else S a
variable {u : TTS} {post : β → Dest}
end
end TL
namespace TL
open PySem PySem.Spec PyProof.Rows L2
section
variable {X : Cx} {elt tg : Expr} {ifs : List Expr} {scope : Scope} {g : TTG} {tc : TTB} {te : TTE} {pos p spos py : Pos} {x y : Str} {i j : Nat} {ow : List (Str × Nat)}
end
end TL
namespace TL
open PySem PySem.Spec PyProof.Rows L2
section
variable {S0 : Sto} {pa : Addr} {p : TEnv} {l : Cs} {β : Type} {u : TTS} {post : β → Dest}
end
section
variable {κ : Type} {W : κ → Sto} {p : TEnv} {l1 l2 : Cs}
end
end TL
namespace TL
open PySem PySem.Spec PyProof.Rows L2
section
variable {prog : Program} {w : World} {A : Around} {E : Value → Shared → Prop} {s : Shared} {z TI TO i1 i2 T : Addr} {f : Bool} {oT : Obj} {fp1 fp2 : List Addr} {n1 n2 i : Nat} {P1 P2 : Nat → Value → Prop} {St1 St2 : Nat → Heap → Prop}
end
theorem SeB.at {b : Bool} {h h' : Heap} {l : Addr} {xs : Array Value} (x : SeB b h l xs) (k : ∀ o, h.get? l = some o → h'.get? l = some o) : SeB b h' l xs := by
  cases b
  · exact Heap.IsTuple.at x k
  · exact Heap.IsList.at x k
theorem SeB.there {b : Bool} {h : Heap} {l : Addr} {xs : Array Value} (x : SeB b h l xs) : ∃ o, h.get? l = some o := by
  cases b
  · obtain ⟨o, ho, _⟩ := x
    exact ⟨o, ho⟩
  · obtain ⟨o, ho, _⟩ := x
    exact ⟨o, ho⟩
section
variable {prog : Program} {w : World}
end
section
variable {X : Cx} {e e2 : Expr} {p p2 pos pos2 : Pos}
end
end TL
namespace TL
open PySem PySem.Spec PyProof.Rows L2
section
variable {prog : Program} {w : World} {A : Around} {E : Value → Shared → Prop} {s : Shared}
end
section
variable {X : Cx} {e : Expr} {p apos cpos pos : Pos}
end
end TL
namespace TL
open PySem PySem.Spec PyProof.Rows L2
section
variable {κ : Type} {W : κ → Sto} {p : TEnv} {l : Cs} {β : Type} {u : TTS} {post : β → Dest}
end
end TL
namespace TL
open PySem PySem.Spec PyProof.Rows L2 HotX
section
variable {κ : Type} {W : κ → Sto} {p : TEnv} {l : Cs} {β : Type} {u : TTS} {post : β → Dest}
end
section
variable {X : Cx} {body : List Stmt} {h₀ : ExceptHandler} {hds : List ExceptHandler} {pos : Pos}
end
section
variable {κ : Type} {W : κ → Sto} {p : TEnv} {l : Cs} {β : Type} {u : TTS} {post : β → Dest}
end
end TL
namespace TL
open PySem PySem.Spec PyProof.Rows L2
section
variable {X : Cx} {pins : List (Addr × Obj)} {s : Shared} {σ : L2.St} {H : Hp} {S : Sto} {M : Addr → Prop}
mutual
theorem nst_of (I : Inv X pins σ H s) : ∀ (t : T) (v : V) (u : Value) (k : NestedKey), Rep (gdOf X M) H S t v → RelV v u → keyOf t = some k → NestedIs s.heap k u
  | .non, _, _, _, r, q, e => by
    cases r; cases e
    obtain rfl := (show _ = Value.none from q)
    exact .none
  | .bl b, _, _, _, r, q, e => by
    cases r; cases e
    obtain rfl := (show _ = Value.bool b from q)
    exact .bool rfl
  | .int i, _, _, _, r, q, e => by
    cases r; cases e
    obtain ⟨t, rfl⟩ := q
    exact .int _ _
  | .str x, _, _, _, r, q, e => by
    cases r; cases e
    obtain ⟨t, rfl⟩ := q
    exact .text _ _
  | .tup ts, _, _, _, r, q, e => by
    obtain ⟨ks, hk, rfl⟩ := Option.map_eq_some_iff.mp (show (keysOf ts).map NestedKey.tup = some _ from e)
    cases r with
    | @tup a xs _ h1 h2 =>
      obtain rfl := (show _ = Value.ref a from q)
      obtain ⟨its, hv, ⟨ob, g1, g2, n, g4⟩, hz⟩ := I.tuple h1.sq
      exact .tup g1 g2 g4 (nst_all I ts xs its ks h2 hv hk)
  | .lst _, _, _, _, _, _, e => by cases e
  | .ref _, _, _, _, _, _, e => by cases e
  | .exc _ _ _, _, _, _, _, _, e => by cases e
  | .dct _ _ _, _, _, _, _, _, e => by cases e
  | .obj _ _ _, _, _, _, _, _, e => by cases e
  | .fn _, _, _, _, _, _, e => by cases e
  | .scr _, _, _, _, _, _, e => by cases e
  | .clo .., _, _, _, _, _, e => by cases e
theorem nst_all (I : Inv X pins σ H s) : ∀ (ts : List T) (vs : List V) (us : List Value) (ks : List NestedKey), Reps (gdOf X M) H S ts vs → Vals vs us → keysOf ts = some ks → NestedAll s.heap ks us
  | [], _, _, _, r, q, e => by
    cases r; cases q; cases e
    exact .nil
  | t :: ts, _, _, _, r, q, e => by
    cases r with
    | cons r1 r2 =>
      cases q with
      | cons q1 q2 =>
        unfold keysOf at e
        split at e
        · rename_i k ks h1 h2
          cases e
          exact .cons (nst_of I t _ _ k r1 q1 h1) (nst_all I ts _ _ ks r2 q2 h2)
        · cases e
end
end
abbrev Es := List (NestedKey × Addr × V)
def hsE (es : Es) (k : NestedKey) : Bool := es.any fun e => decide (e.1 = k)
def stE (es : Es) (k : NestedKey) (b : Addr) (v : V) : Es := if hsE es k = true then es.map (fun e => if e.1 = k then (e.1, e.2.1, v) else e) else es ++ [(k, b, v)]
def zf (es : Es) (us : List Value) : List (NestedKey × Addr × Value) := (es.zip us).map fun q => (q.1.1, q.1.2.1, q.2)
theorem zf_keys : ∀ {es : Es} {us : List Value}, es.length = us.length → (zf es us).map (·.1) = es.map (·.1)
  | [], _, _ => rfl
  | _ :: _, [], h => by cases h
  | e :: es, u :: us, h => by
    have := zf_keys (es := es) (us := us) (by simpa using h)
    unfold zf at this ⊢
    rw [List.zip_cons_cons, List.map_cons, List.map_cons, this]
    rfl
theorem at_zf (k : NestedKey) : ∀ {es : Es} {us : List Value}, es.length = us.length → (atKey (zf es us) k).isSome = hsE es k
  | [], _, _ => rfl
  | _ :: _, [], h => by cases h
  | e :: es, u :: us, h => by
    have ih := at_zf k (es := es) (us := us) (by simpa using h)
    unfold atKey zf hsE at *
    rw [List.zip_cons_cons, List.map_cons, List.find?_cons, List.any_cons]
    by_cases q : e.1 = k
    · simp [q]
    · simp only [q, decide_false, Bool.false_or]
      exact ih
theorem st_zip {k : NestedKey} {b : Addr} {v : V} {u : Value} (r : RelV v u) {es : Es} {us : List Value} (h : Vals (es.map (·.2.2)) us) :
    ∃ us', Vals ((stE es k b v).map (·.2.2)) us' ∧ storedH (zf es us) k b u = zf (stE es k b v) us' := by
  have hl : es.length = us.length := by have := h.length; rwa [List.length_map] at this
  unfold storedH stE
  rw [at_zf k hl]
  by_cases q : hsE es k = true
  · rw [if_pos q, if_pos q]
    clear q hl
    induction es generalizing us with
    | nil =>
      cases h
      exact ⟨[], .nil, rfl⟩
    | cons e es ih =>
      cases h with
      | @cons _ u0 _ us h1 h2 =>
        obtain ⟨us', i1, i2⟩ := ih h2
        by_cases z : e.1 = k
        · refine ⟨u :: us', ?_, ?_⟩
          · rw [List.map_cons, if_pos z]
            exact .cons r i1
          · unfold zf at i2 ⊢
            rw [List.zip_cons_cons, List.map_cons, List.map_cons, i2, List.map_cons, if_pos z, List.zip_cons_cons, List.map_cons]
            simp [putAt, z]
        · refine ⟨u0 :: us', ?_, ?_⟩
          · rw [List.map_cons, if_neg z]
            exact .cons h1 i1
          · unfold zf at i2 ⊢
            rw [List.zip_cons_cons, List.map_cons, List.map_cons, i2, List.map_cons, if_neg z, List.zip_cons_cons, List.map_cons]
            simp [putAt, z]
  · rw [if_neg q, if_neg q]
    refine ⟨us ++ [u], ?_, ?_⟩
    · rw [List.map_append]
      exact h.append (.cons r .nil)
    · unfold zf
      rw [List.zip_append hl, List.map_append]
      rfl
theorem stE_len {es : Es} {k : NestedKey} {b : Addr} {v : V} : (stE es k b v).length ≤ es.length + 1 := by
  unfold stE
  split
  · rw [List.length_map]; omega
  · rw [List.length_append]; exact Nat.le_refl _
theorem stE_mem {es : Es} {k : NestedKey} {b : Addr} {v : V} {e : NestedKey × Addr × V} (h : e ∈ stE es k b v) : e.1 = k ∨ ∃ f ∈ es, f.1 = e.1 := by
  unfold stE at h
  split at h
  · obtain ⟨f, hf, rfl⟩ := List.mem_map.mp h
    refine .inr ⟨f, hf, ?_⟩
    split <;> rfl
  · rcases List.mem_append.mp h with h | h
    · exact .inr ⟨e, h, rfl⟩
    · rw [List.mem_singleton.mp h]; exact .inl rfl

def nHs : List T → NestedKey → Bool
  | k :: ks, x => if keyOf k = some x then true else nHs ks x
  | [], _ => false
def nRp : List T → List T → NestedKey → T → List T
  | k :: ks, v :: vs, x, y => (if keyOf k = some x then y else v) :: nRp ks vs x y
  | _, _, _, _ => []
def nPk (ks : List T) (x : NestedKey) (t : T) : List T := if nHs ks x = true then ks else ks ++ [t]
def nPv (ks vs : List T) (x : NestedKey) (y : T) : List T := if nHs ks x = true then nRp ks vs x y else vs ++ [y]
/-- a key that is a tuple -/
def tky : T → Option NestedKey
  | .tup ts => match keyOf (.tup ts) with
    | some k => if k.depth ≤ 8 then some k else none
    | none => none
  | _ => none
theorem tky_of {t : T} {k : NestedKey} (e : tky t = some k) : (∃ ts, t = .tup ts) ∧ keyOf t = some k ∧ k.depth ≤ 8 := by
  unfold tky at e
  split at e
  · split at e
    · rename_i ts k' h
      split at e
      · cases e; exact ⟨⟨_, rfl⟩, h, by assumption⟩
      · cases e
    · cases e
  · cases e
def dnk : List T → Bool
  | [] => false
  | _ :: _ => true
def nView (S : Sto) : T → Option (List T × List T)
  | .dct true ks vs => some (ks, vs)
  | .dct false [] [] => some ([], [])
  | .ref a => match S a with
    | some (.dct true ks vs) => some (ks, vs)
    | some (.dct false [] []) => some ([], [])
    | _ => none
  | _ => none
def tinQ (S : Sto) (x y : T) : Option Bool := match nView S y, tky x with
  | some p, some k => some (nHs p.1 k)
  | _, _ => none
def tninT (S : Sto) (x y : T) : Option T := (tinQ S x y).map fun b => .bl (!b)
def cTput (o i e : TTE) : TTS := fun D τ S E => e τ S (fun z S1 => o τ S1 (fun x S2 => i τ S2 (fun y S3 => ∃ a ks vs k, x = .ref a ∧ S3 a = some (.dct (dnk ks) ks vs) ∧ tky y = some k ∧ ks.length < sizeLine ∧ D.nx τ (ups S3 a (.dct true (nPk ks k y) (nPv ks vs k z))))
  (fun x S' => E x τ S')) (fun x S' => E x τ S')) (fun x S' => E x τ S')
/-- sorted(d): the keys -/
def sktT (S : Sto) (x : T) : Option T := (nView S x).bind fun p => if (sortOk p.1 && decide (p.1.length ≤ sizeLine)) = true then some (.lst (p.1.mergeSort leT')) else none
def sktF (S : Sto) : List T → Option T
  | [x] => sktT S x
  | _ => none
section
variable {G : Gd} {H : Hp} {S : Sto}
theorem hs_repN : ∀ {ks : List T} {es : Es} (k : NestedKey), keysOf ks = some (es.map (·.1)) → hsE es k = nHs ks k
  | [], es, k, e => by
    have : es = [] := by cases es with
      | nil => rfl
      | cons a b => cases e
    subst this
    rfl
  | t :: ks, es, k, e => by
    unfold keysOf at e
    split at e
    · rename_i k' ks' h1 h2
      cases es with
      | nil => cases e
      | cons f es =>
        rw [List.map_cons] at e
        injection e with e
        injection e with e1 e2
        subst e1
        have ih := hs_repN (ks := ks) (es := es) k (by rw [h2, e2])
        unfold hsE at ih ⊢
        unfold nHs
        rw [h1, List.any_cons]
        by_cases q : f.1 = k
        · rw [if_pos (by rw [q])]; simp [q]
        · rw [if_neg (fun z => q (Option.some.inj z))]; simp only [q, decide_false, Bool.false_or]; exact ih
    · cases e
theorem keysOf_len : ∀ {ks : List T} {es : List NestedKey}, keysOf ks = some es → ks.length = es.length
  | [], es, e => by cases e; rfl
  | t :: ks, es, e => by
    unfold keysOf at e
    split at e
    · rename_i k' ks' h1 h2
      cases e
      rw [List.length_cons, List.length_cons, keysOf_len h2]
    · cases e
theorem keysOf_app : ∀ {ks : List T} {es : List NestedKey} {t : T} {k : NestedKey}, keysOf ks = some es → keyOf t = some k → keysOf (ks ++ [t]) = some (es ++ [k])
  | [], es, t, k, e, h => by
    cases e
    unfold keysOf
    rw [List.nil_append]
    unfold keysOf
    simp [h, keysOf]
  | x :: ks, es, t, k, e, h => by
    unfold keysOf at e
    split at e
    · rename_i k' ks' h1 h2
      cases e
      rw [List.cons_append]
      unfold keysOf
      rw [h1, keysOf_app h2 h]
      rfl
    · cases e
theorem rp_repN : ∀ {ks vs : List T} {es : Es} (k : NestedKey) {y : T} {v : V}, keysOf ks = some (es.map (·.1)) → Reps G H S vs (es.map (·.2.2)) → Rep G H S y v →
    Reps G H S (nRp ks vs k y) ((es.map fun e => if e.1 = k then (e.1, e.2.1, v) else e).map (·.2.2))
  | [], vs, es, k, y, v, e, r, ry => by
    have : es = [] := by cases es with
      | nil => rfl
      | cons a b => cases e
    subst this
    cases r
    exact .nil
  | t :: ks, vs, es, k, y, v, e, r, ry => by
    unfold keysOf at e
    split at e
    · rename_i k' ks' h1 h2
      cases es with
      | nil => cases e
      | cons f es =>
        rw [List.map_cons] at e
        injection e with e
        injection e with e1 e2
        subst e1
        cases r with
        | cons r1 r2 =>
          have ih := rp_repN (ks := ks) (es := es) k (y := y) (v := v) (by rw [h2, e2]) r2 ry
          unfold nRp
          rw [h1, List.map_cons]
          by_cases q : f.1 = k
          · rw [if_pos (by rw [q]), if_pos q, List.map_cons]
            exact .cons ry ih
          · rw [if_neg (fun z => q (Option.some.inj z)), if_neg q, List.map_cons]
            exact .cons r1 ih
    · cases e
theorem put_repN {ks vs : List T} {es : Es} {t y : T} {k : NestedKey} {b : Addr} {v : V} (hk : keysOf ks = some (es.map (·.1))) (r1 : Reps G H S ks (es.map fun e => V.ref e.2.1)) (r2 : Reps G H S vs (es.map (·.2.2)))
    (ek : keyOf t = some k) (ht : Rep G H S t (.ref b)) (r : Rep G H S y v) :
    keysOf (nPk ks k t) = some ((stE es k b v).map (·.1)) ∧ Reps G H S (nPk ks k t) ((stE es k b v).map fun e => V.ref e.2.1) ∧ Reps G H S (nPv ks vs k y) ((stE es k b v).map (·.2.2)) := by
  unfold nPk nPv stE
  rw [hs_repN k hk]
  by_cases q : nHs ks k = true
  · rw [if_pos q, if_pos q, if_pos q]
    have e1 : (es.map fun e => if e.1 = k then (e.1, e.2.1, v) else e).map (·.1) = es.map (·.1) := by
      rw [List.map_map]
      exact List.map_congr_left fun e _ => by
        show (if e.1 = k then (e.1, e.2.1, v) else e).1 = e.1
        split <;> rfl
    have e2 : (es.map fun e => if e.1 = k then (e.1, e.2.1, v) else e).map (fun e => V.ref e.2.1) = es.map fun e => V.ref e.2.1 := by
      rw [List.map_map]
      exact List.map_congr_left fun e _ => by
        show V.ref (if e.1 = k then (e.1, e.2.1, v) else e).2.1 = V.ref e.2.1
        split <;> rfl
    rw [e1, e2]
    exact ⟨hk, r1, rp_repN k hk r2 r⟩
  · rw [if_neg q, if_neg q, if_neg q, List.map_append, List.map_append, List.map_append]
    exact ⟨keysOf_app hk ek, r1.append (.cons ht .nil), r2.append (.cons r .nil)⟩
end
section
variable {X : Cx} {pins : List (Addr × Obj)} {s : Shared} {σ : L2.St} {H : Hp} {S : Sto} {M : Addr → Prop}
/-- a dict's entries, be it one by tuples or an empty one -/
def NAt (X : Cx) (M : Addr → Prop) (H : Hp) (S : Sto) (a : Addr) (p : List T × List T) (es : Es) : Prop :=
  (Rd H a (dN X.w a es) ∨ (es = [] ∧ Rd H a (.dK []))) ∧ keysOf p.1 = some (es.map (·.1)) ∧ Reps (gdOf X M) H S p.1 (es.map fun e => V.ref e.2.1) ∧ Reps (gdOf X M) H S p.2 (es.map (·.2.2))
theorem nat_cell (o : StoOk (gdOf X M) H S) {a : Addr} {ks vs : List T} (e : S a = some (.dct (dnk ks) ks vs)) : ∃ es, NAt X M H S a (ks, vs) es ∧ ((H a = some (dN X.w a es)) ∨ (es = [] ∧ H a = some (.dK []))) := by
  cases ks with
  | cons k ks =>
    obtain ⟨es, h1, h2, h3, h4⟩ := o.at_ a _ (show S a = some (.dct true (k :: ks) vs) from e)
    exact ⟨es, ⟨.inl (.inl h1), h2, h3, h4⟩, .inl h1⟩
  | nil =>
    obtain ⟨kvs, h1, h2, h3⟩ := o.at_ a _ (show S a = some (.dct false [] vs) from e)
    have : kvs = [] := by
      cases kvs with
      | nil => rfl
      | cons a b => cases h2
    subst this
    cases h3
    exact ⟨[], ⟨.inr ⟨rfl, .inl h1⟩, rfl, .nil, .nil⟩, .inr ⟨rfl, h1⟩⟩
theorem nView_rep {x : T} {v : V} {p : List T × List T} (o : StoOk (gdOf X M) H S) (r : Rep (gdOf X M) H S x v) (e : nView S x = some p) : ∃ a es, v = .ref a ∧ NAt X M H S a p es := by
  cases r with
  | dN h1 h2 h3 h4 => cases e; exact ⟨_, _, rfl, .inl h1.1, h2, h3, h4⟩
  | @dK a kvs ks vs h1 h2 h3 =>
    unfold nView at e
    split at e
    · rename_i z; cases z
    · rename_i z
      cases z
      cases e
      have : kvs = [] := by
        cases kvs with
        | nil => rfl
        | cons a b => cases h2
      subst this
      exact ⟨a, [], rfl, .inr ⟨rfl, h1.1⟩, rfl, .nil, .nil⟩
    · rename_i z; cases z
    · cases e
  | ref a =>
    unfold nView at e
    simp only at e
    cases q : S a with
    | none => rw [q] at e; cases e
    | some c =>
      rw [q] at e
      cases c with
      | dct n ks vs =>
        cases n with
        | true =>
          cases e
          obtain ⟨es, h1, h2, h3, h4⟩ := o.at_ a _ q
          exact ⟨a, es, rfl, .inl (.inl h1), h2, h3, h4⟩
        | false =>
          cases ks with
          | cons _ _ => cases e
          | nil =>
            cases vs with
            | cons _ _ => cases e
            | nil =>
              cases e
              obtain ⟨es, h1, _⟩ := nat_cell o (ks := []) (vs := []) q
              exact ⟨a, es, rfl, h1⟩
      | _ => cases e
  | _ => cases e
theorem nkeys_is (I : Inv X pins σ H s) : ∀ {ks : List T} {es : Es}, keysOf ks = some (es.map (·.1)) → Reps (gdOf X M) H S ks (es.map fun e => V.ref e.2.1) → ∀ e ∈ es, NestedIs s.heap e.1 (.ref e.2.1)
  | [], es, h, _, e, he => by
    have : es = [] := by cases es with
      | nil => rfl
      | cons a b => cases h
    subst this
    cases he
  | t :: ks, es, h, r, e, he => by
    unfold keysOf at h
    split at h
    · rename_i k' ks' h1 h2
      cases es with
      | nil => cases h
      | cons f es =>
        rw [List.map_cons] at h
        injection h with h
        injection h with e1 e2
        subst e1
        cases r with
        | cons r1 r2 =>
          rcases List.mem_cons.mp he with rfl | he
          · exact nst_of I t _ _ _ r1 rfl h1
          · exact nkeys_is I (by rw [h2, e2]) r2 e he
    · cases h
theorem dN_at {a : Addr} {es : Es} {h : Heap} {P : Program} {w : World} (x : Rd H a (dN w a es)) (k : HOk P w H h) : rawN w a es h := by
  have z : ObjOk P w H h a (dN w a es) := x.elim (fun e => k a _ e) fun ⟨o, e⟩ => (show ObjOk P w H h a (.frz o (dN w a es)) from k a _ e).2
  exact z.1
/-- as the kit's rules want it -/
theorem nat_of (I : Inv X pins σ H s) {a : Addr} {p : List T × List T} {es : Es} (h : NAt X M H S a p es) :
    es.length ≤ sizeLine ∧ (a == sysModules) = false ∧ (∀ e ∈ es, e.1.depth ≤ 8) ∧ ∃ us, Vals (es.map (·.2.2)) us ∧ s.heap.DictOfH (nestedKind X.prog X.w) a (zf es us) := by
  obtain ⟨h1, hk, r1, r2⟩ := h
  rcases h1 with h1 | ⟨rfl, h1⟩
  · obtain ⟨l, ns, dep, nd, us, hv, o, en, ep, g1, g2, g3, g4⟩ := dN_at h1 I.hok
    have hl : es.length = us.length := by have := hv.length; rwa [List.length_map] at this
    refine ⟨l, ns, dep, us, hv, o, en, ep, g1, g2, g3, ?_, fun x hx => ?_, by rw [zf_keys hl]; exact nd⟩
    · rw [g4]
      unfold zf
      rw [List.map_map]
      rfl
    · unfold zf at hx
      obtain ⟨⟨e, u⟩, hq, rfl⟩ := List.mem_map.mp hx
      have he := (List.of_mem_zip hq).1
      exact ⟨nkeys_is I hk r1 e he, dep e he⟩
  · obtain ⟨z, hd, vs, kv, dd⟩ := dk_rd I.hok h1
    cases kv
    refine ⟨Nat.zero_le _, hd, nofun, [], .nil, ?_⟩
    obtain ⟨o, es, ep, ho, hc, hdt, hs, hp, hn⟩ := dd
    have : es.toList = [] := by
      cases q : es.toList with
      | nil => rfl
      | cons a b => rw [q] at hp; cases hp
    exact ⟨o, es, ep, ho, hc, hdt, this, nofun, .nil⟩
theorem nroom {A : Around} (hu : A.units + 64 < cLine) : (nestedKind X.prog X.w).room A.in1 := by
  show A.units + 1 + 8 < cLine
  omega
variable {a b o i e : Expr} {ta tb to ti te : TTE} {pos pos' apos cpos p : Pos}
theorem op_tninT (hu : X.A.units + 65 < cLine) : OpT X (compareOp .NotIn) tninT := by
  intro pins s σ H x y v u Q I rx ry h
  obtain ⟨M, S, tx, ty, t, o, hx, hy, e, fin⟩ := h
  obtain ⟨b, hb, rfl⟩ := Option.map_eq_some_iff.mp e
  unfold tinQ at hb
  split at hb
  · rename_i p kk h1 h2
    obtain ⟨d, es, rfl, na⟩ := nView_rep o hy h1
    obtain rfl : u = Value.ref d := ry
    obtain ⟨hl, hd, _, us, hv, dd⟩ := nat_of I na
    obtain ⟨⟨ts, rfl⟩, hk, dep⟩ := tky_of h2
    have ni := nst_of I _ _ _ kk hx rx hk
    obtain rfl := Option.some.inj hb
    have hlen : es.length = us.length := by have := hv.length; rwa [List.length_map] at this
    cases hx with
    | @tup aa xs _ q1 q2 =>
      obtain rfl : v = Value.ref aa := rx
      show wpAny _ _ (do return Value.bool (!(← contains (Value.ref d) (Value.ref aa)))) _ _ s
      refine wpAny_bind (wpAny_contains_heap (nroom (by omega)) ⟨ni, dep⟩ hd dd (wpAny_pure ?_))
      rw [at_zf kk hlen, hs_repN kk na.2.1]
      exact ⟨.bl _, H, I.tok _, rfl, fin _ H o Ext.refl (.bl _)⟩
  · cases hb
/-- d[k] = v on an entry list -/
theorem n_set (hu : X.A.units + 64 < cLine) (I : Inv X pins σ H s) {d b : Addr} {p : List T × List T} {es : Es} {k : NestedKey} {v : V} {u : Value} (na : NAt X M H S d p es) (hH : (H d = some (dN X.w d es)) ∨ (es = [] ∧ H d = some (.dK [])))
    (ni : NestedIs s.heap k (.ref b)) (dep : k.depth ≤ 8) (hl : es.length < sizeLine) (rv : RelV v u) {Q : Unit → Shared → Prop} {E : Value → Shared → Prop} (h : ∀ s', Inv X pins σ (upd H d (dN X.w d (stE es k b v))) s' → Q () s') :
    wpAny (model X.prog X.w) X.A (setItem (.ref d) (.ref b) u) Q E s := by
  obtain ⟨_, hd, dp, us, hv, dd⟩ := nat_of I na
  have hlen : es.length = us.length := by have := hv.length; rwa [List.length_map] at this
  have hz : (zf es us).length ≤ sizeLine := by
    unfold zf
    rw [List.length_map, List.length_zip]
    omega
  refine wpAny_setItem_heap (hsz := hz) (nroom hu) ⟨ni, dep⟩ dd fun h' hm' hs => h _ ?_
  obtain ⟨us', i1, i2⟩ := st_zip (k := k) (b := b) rv hv
  rw [i2] at hm'
  have hl' : (stE es k b v).length = us'.length := by have := i1.length; rwa [List.length_map] at this
  obtain ⟨o, en, ep, g1, g2, g3, g4, g5, g6⟩ := hm'
  have mu : Mut (H d) := by
    rcases hH with z | ⟨_, z⟩ <;> (rw [z]; exact True.intro)
  refine I.write (x := d) (e := d) mu (.inl rfl) (fun c w hc z => (hs.2 c hc).trans z) ⟨o, g1⟩ ⟨⟨?_, hd, fun f hf => ?_, ?_, us', i1, o, en, ep, g1, g2, g3, ?_⟩, ⟨o, g1⟩, ?_⟩
  · have := stE_len (es := es) (k := k) (b := b) (v := v)
    omega
  · rcases stE_mem hf with z | ⟨g, hg, z⟩
    · rw [z]; exact dep
    · rw [← z]; exact dp g hg
  · rw [zf_keys hl'] at g6
    exact g6
  · rw [g4]
    unfold zf
    rw [List.map_map]
    rfl
  · rintro h1 h2 ⟨a1, a2, a3, a4, us2, a5, o2, en2, ep2, b1, b2, b3, b4⟩ hk
    exact ⟨a1, a2, a3, a4, us2, a5, o2, en2, ep2, hk _ b1, b2, b3, b4⟩
theorem ts_tput (hu : X.A.units + 64 < cLine) (ho : TE X o to) (hi : TE X i ti) (hv : TE X e te) (hs : swapsWith e (some (.Subscript o i pos')) pos.line X.env = pure false := by rfl) : TS X (.Assign [.Subscript o i pos'] e pos) (cTput to ti te) := fun M S0 H0 E tk => by
  refine ⟨fun pins s σ H D I hq => ?_⟩
  obtain ⟨τ, S, B, rel, h, k1, _⟩ := hq
  refine wpAny_Assign_Subscript (thn ((hv M S0 H0 E tk).run pins s σ H (fun v H1 => ∃ z S1, (to τ S1 (fun x S2 => ti τ S2 (fun y S3 => ∃ a ks vs k, x = .ref a ∧ S3 a = some (.dct (dnk ks) ks vs) ∧ tky y = some k ∧ ks.length < sizeLine ∧ B.nx τ (ups S3 a (.dct true (nPk ks k y) (nPv ks vs k z))))
    (fun x S' => E x τ S')) (fun x S' => E x τ S')) ∧ StoOk (gdOf X M) H1 S1 ∧ Ext S H S1 H1 ∧ Rep (gdOf X M) H1 S1 z v) I ⟨τ, S, _, rel, h, fun z S1 v H1 hz o1 x1 r1 => ⟨z, S1, hz, o1, x1, r1⟩⟩) fun r s1 ⟨v, H1, I1, rv, zz, S1, h1, o1, x1, r1⟩ => ?_) hs
  refine thn ((ho M S0 H0 E tk).run pins s1 σ H1 (fun v H2 => ∃ x S2, (ti τ S2 (fun y S3 => ∃ a ks vs k, x = .ref a ∧ S3 a = some (.dct (dnk ks) ks vs) ∧ tky y = some k ∧ ks.length < sizeLine ∧ B.nx τ (ups S3 a (.dct true (nPk ks k y) (nPv ks vs k zz)))) (fun x S' => E x τ S')) ∧ StoOk (gdOf X M) H2 S2 ∧ Ext S1 H1 S2 H2 ∧ Rep (gdOf X M) H2 S2 x v) I1
    ⟨τ, S1, _, rel.step o1 x1, h1, fun z S2 v H2 hz o2 x2 r2 => ⟨z, S2, hz, o2, x2, r2⟩⟩) fun u s2 ⟨x, H2, I2, rx, xx, S2, h2, o2, x2, r2⟩ => ?_
  refine thn ((hi M S0 H0 E tk).run pins s2 σ H2 (fun v H3 => ∃ y S3, (∃ a ks vs k, xx = .ref a ∧ S3 a = some (.dct (dnk ks) ks vs) ∧ tky y = some k ∧ ks.length < sizeLine ∧ B.nx τ (ups S3 a (.dct true (nPk ks k y) (nPv ks vs k zz)))) ∧ StoOk (gdOf X M) H3 S3 ∧ Ext S2 H2 S3 H3 ∧ Rep (gdOf X M) H3 S3 y v) I2
    ⟨τ, S2, _, rel.step o2 (x1.trans x2), h2, fun z S2 v H2 hz o2 x2 r2 => ⟨z, S2, hz, o2, x2, r2⟩⟩) fun iv s3 ⟨yv, H3, I3, ry, yy, S3, ⟨a, ks, vs, kk, ea, es, ek, hl, hn⟩, o3, x3, r3⟩ => ?_
  subst ea
  cases r2
  obtain rfl : u = Value.ref a := rx
  obtain ⟨en, na, hH⟩ := nat_cell o3 es
  obtain ⟨⟨ts, rfl⟩, hk, dep⟩ := tky_of ek
  have ni := nst_of I3 _ _ _ kk r3 ry hk
  have hlen : en.length < sizeLine := by
    have := keysOf_len na.2.1
    rw [List.length_map] at this
    have e1 : ((ks, vs) : List T × List T).1 = ks := rfl
    rw [e1] at this
    omega
  have hrep := r3
  cases r3 with
  | @tup aa xs _ q1 q2 =>
    obtain rfl : iv = Value.ref aa := ry
    refine n_set hu I3 na hH ni dep hlen rv fun s4 I4 => ⟨σ, _, I4, ?_⟩
    obtain ⟨p1, p2, p3⟩ := put_repN (b := aa) na.2.1 na.2.2.1 na.2.2.2 hk hrep (Rep.ext (x2.trans x3) _ _ r1)
    have xc : Ext S3 H3 (ups S3 a (.dct true (nPk ks kk (.tup ts)) (nPv ks vs kk zz))) (upd H3 a (dN X.w a (stE en kk aa v))) := Ext.cell (.inr ⟨_, es⟩)
    have rel4 := rel.step (o3.cell (o := dN X.w a (stE en kk aa v)) (c := .dct true (nPk ks kk (.tup ts)) (nPv ks vs kk zz)) (.inr ⟨_, es⟩) ⟨_, upd_same, p1, Reps.ext xc _ _ p2, Reps.ext xc _ _ p3⟩) (((x1.trans x2).trans x3).trans xc)
    exact k1 σ _ τ _ rel4 (((x1.trans x2).trans x3).trans xc) hn
end
section
variable {X : Cx} {pins : List (Addr × Obj)} {s : Shared} {σ : L2.St} {H : Hp} {S : Sto} {M : Addr → Prop}
theorem nent {a : Addr} {es : Es} {us : List Value} (hl : es.length = us.length) (dd : s.heap.DictOfH (nestedKind X.prog X.w) a (zf es us)) : ∃ en ep, s.heap.DictRaw a en ep ∧ en.size = es.length ∧ ∀ i (hi : i < en.size), ∃ e, es[i]? = some e ∧ en[i].key = .ref e.2.1 := by
  obtain ⟨en, ep, h1, h2, h3⟩ := dd.raw
  have hz : (zf es us).length = es.length := by
    unfold zf
    rw [List.length_map, List.length_zip]
    omega
  refine ⟨en, ep, h1, h2.trans hz, fun i hi => ?_⟩
  obtain ⟨y, g1, g2, _⟩ := h3 i hi
  unfold zf at g1
  rw [List.getElem?_map] at g1
  obtain ⟨⟨e, u⟩, g3, rfl⟩ := Option.map_eq_some_iff.mp g1
  exact ⟨e, (List.getElem?_zip_eq_some.mp g3).1, g2⟩
/-- sorted(d), d by tuples -/
theorem fn_sktT (hc : X.calm = true) (hu : X.A.units + 70 < cLine) : CallT X (.builtin "sorted") sktF := by
  intro pins s σ H xs us Q I r h
  obtain ⟨M, S, ts, t, o, rs, e, fin⟩ := h
  unfold sktF at e
  split at e
  · rename_i y
    obtain ⟨v, rfl, ry⟩ := rs.one
    obtain ⟨u, rfl, ru⟩ := vals1 r
    obtain ⟨p, hp, e⟩ := Option.bind_eq_some_iff.mp e
    split at e
    · rename_i hk
      cases e
      obtain ⟨k1, k2⟩ := Bool.and_eq_true_iff.mp hk
      obtain ⟨d, es, rfl, na⟩ := nView_rep o ry hp
      obtain rfl : u = Value.ref d := ru
      obtain ⟨hl, hd, _, ws, hv, dd⟩ := nat_of I na
      have hlen : es.length = ws.length := by have := hv.length; rwa [List.length_map] at this
      obtain ⟨en, ep, q1, q2, q3⟩ := nent hlen dd
      refine sorted_via (M := M) (S := S) (Pt := fun x => x = p.1) hu o (fun A E R hA kk => ?_) (fun x hx => by rw [hx]; exact ⟨k1, of_decide_eq_true k2⟩) fun x w H' hx o2 x2 r2 _ => by
        subst hx
        exact fin w H' o2 x2 r2
      refine PySem.W.kdu_collect (KdlSrc.rawDict (es := en) hd) (hA.trans (I.ok.hd hc)) q1 (by omega) fun h' tk acc hkeep hit => ?_
      have out : acc.toList = es.map fun e => Value.ref e.2.1 := by
        refine List.ext_getElem (by rw [Array.length_toList, hit.1, List.length_map, q2]) fun i h1 h2 => ?_
        have hi : i < en.size := by rw [Array.length_toList, hit.1] at h1; exact h1
        have ha : i < acc.size := by rwa [Array.length_toList] at h1
        obtain ⟨hi', e⟩ := hit.2 i acc[i] (Array.getElem?_eq_getElem ha)
        obtain ⟨f, f1, f2⟩ := q3 i hi
        rw [Array.getElem_toList, e, f2, List.getElem_map]
        rw [List.getElem?_eq_getElem (by omega)] at f1
        rw [Option.some.inj f1]
      refine kk _ _ _ (I.kept (t' := tk) hkeep) ?_ rfl
      rw [out]
      have : ∀ (es : Es), Vals (es.map fun e => V.ref e.2.1) (es.map fun e => Value.ref e.2.1) := fun es => by
        induction es with
        | nil => exact .nil
        | cons e es ih => exact .cons rfl ih
      exact eachVT na.2.2.1 (this es)
    · cases e
  · cases e
end
end TL
namespace TL
open PySem PySem.Spec PyProof.Rows
open L2 hiding putF
/-- e.f: f of an instance of one of the classes ok -/
def fldT (f : Str) (ok : Str → Bool) (S : Sto) : T → Option T
  | .obj c ns ts => if ok c = true then (ns.zip ts).lookup f else none
  | .ref a => match S a with
    | some (.ins c ns ts) => if ok c = true then (ns.zip ts).lookup f else none
    | _ => none
  | _ => none
/-- the fields with f set -/
def putN : List Str → List T → Str → T → List Str × List T
  | [], _, f, y => ([f], [y])
  | n :: ns, t :: ts, f, y => if n = f then (n :: ns, y :: ts) else (n :: (putN ns ts f y).1, t :: (putN ns ts f y).2)
  | _ :: _, [], _, _ => ([], [])
def cFput (f : Str) (ok : Str → Bool) (o e : TTE) : TTS := fun D τ S E => e τ S (fun z S1 => o τ S1 (fun x S2 => ∃ a c ns ts, x = .ref a ∧ S2 a = some (.ins c ns ts) ∧ ok c = true ∧ ns.length < 1000 ∧
  D.nx τ (ups S2 a (.ins c (putN ns ts f z).1 (putN ns ts f z).2))) (fun x S' => E x τ S')) (fun x S' => E x τ S')
/-- C(..) -/
def cMake (c : Str) (sp : SpT) (a : TTA) : TTE := fun τ S Q E => a τ S (fun ts S1 => ∀ p, S1 p = none → sp (.ref p :: ts) (ups S1 p (.ins c [] [])) (fun z S2 => z = .non ∧ Fin Q (.ref p) S2) E) E
/-- an instance of c, without the name m of its own -/
def isI (c m : Str) (S : Sto) : T → Prop
  | .obj d ns _ => d = c ∧ m ∉ ns
  | .ref a => ∃ ns ts, S a = some (.ins c ns ts) ∧ m ∉ ns
  | _ => False
/-- o.m(..) -/
def cMeth (c m : Str) (sp : SpT) (o : TTE) (a : TTA) : TTE := fun τ S Q E => o τ S (fun x S1 => isI c m S1 x ∧ a τ S1 (fun ts S2 => sp (x :: ts) S2 Q E) E) E
/-- a method of the module's class c keeps its promise -/
def Okm (P : Program) (w : World) (K : PySem.W.Frag) (mg : Str → Option Value) (base : Heap) (k : Nat) (c m : Str) (ps : List Str) (sp : SpT) : Prop :=
  ∃ fd, FnOk P w K mg base (L2N.CX P w) k (He.ma K (He.ga K c) m) fd ps (liftSp P K w sp) ∧ Cls K (He.ga K c) ∧ Meth K (He.ga K c) m (He.ma K (He.ga K c) m) ∧ Binds K fd ps []
/-- its __init__ -/
def Okc (P : Program) (w : World) (K : PySem.W.Frag) (mg : Str → Option Value) (base : Heap) (k : Nat) (c : Str) (ps : List Str) (sp : SpT) : Prop :=
  ∃ fd, FnOk P w K mg base (L2N.CX P w) k (He.ma K (He.ga K c) "__init__") fd ps (liftSp P K w sp) ∧ Mk K (He.ga K c) (He.ma K (He.ga K c) "__init__") ∧ mg c = some (.ref (He.ga K c)) ∧ Binds K fd ps []
section
variable {G : Gd} {H : Hp} {S : Sto}
theorem putN_rep {f : Str} {y : T} {v : V} (r : Rep G H S y v) : ∀ {ns : List Str} {ts : List T} {xs : List V}, Reps G H S ts xs → ns.length = xs.length →
    ∃ xs', L2.putF f v (ns.zip xs) = (putN ns ts f y).1.zip xs' ∧ (putN ns ts f y).1.length = xs'.length ∧ Reps G H S (putN ns ts f y).2 xs'
  | [], ts, xs, h, l => by
    have : xs = [] := List.length_eq_zero_iff.mp l.symm
    subst this
    cases h
    exact ⟨[v], rfl, rfl, .cons r .nil⟩
  | n :: ns, _, _, .nil, l => by cases l
  | n :: ns, _, _, @Reps.cons _ _ _ t ts v0 vs h1 h2, l => by
    obtain ⟨xs', i1, i2, i3⟩ := putN_rep r (ns := ns) h2 (by simpa using l)
    unfold putN
    rw [List.zip_cons_cons]
    unfold L2.putF
    by_cases q : n = f
    · rw [if_pos q, if_pos q]
      exact ⟨v :: vs, rfl, by simpa using l, .cons r h2⟩
    · rw [if_neg q, if_neg q, i1]
      exact ⟨v0 :: xs', rfl, by simp [i2], .cons h1 i3⟩
theorem ins_rep {f : Str} {ok : Str → Bool} {x t : T} {v : V} (o : StoOk G H S) (r : Rep G H S x v) (e : fldT f ok S x = some t) :
    ∃ a c d, ∃ (ns : List Str) (xs : List V) (w : V), v = .ref a ∧ H a = some (.ins (He.ga G.K c) d (ns.zip xs)) ∧ ok c = true ∧ (ns.zip xs).lookup f = some w ∧ Rep G H S t w := by
  cases r with
  | @obj a d c ns ts xs h1 h2 h3 =>
    have e : (if ok c = true then (ns.zip ts).lookup f else none) = some t := e
    by_cases hc : ok c = true
    · rw [if_pos hc] at e
      obtain ⟨w, l, rw1⟩ := lookup_reps h3 e
      exact ⟨a, c, d, ns, xs, w, rfl, h1.1, hc, l, rw1⟩
    · rw [if_neg hc] at e; cases e
  | ref a =>
    unfold fldT at e
    simp only at e
    cases q : S a with
    | none => rw [q] at e; cases e
    | some c =>
      rw [q] at e
      cases c with
      | ins c ns ts =>
        simp only at e
        by_cases hc : ok c = true
        · rw [if_pos hc] at e
          obtain ⟨d, xs, h1, h2, h3⟩ := o.at_ a _ q
          obtain ⟨w, l, rw1⟩ := lookup_reps h3 e
          exact ⟨a, c, d, ns, xs, w, rfl, h1, hc, l, rw1⟩
        · rw [if_neg hc] at e; cases e
      | _ => cases e
  | _ => cases e
theorem lookup_no {m : Str} : ∀ {ns : List Str} {xs : List V}, m ∉ ns → (ns.zip xs).lookup m = none
  | [], _, _ => rfl
  | _ :: _, [], _ => rfl
  | n :: ns, x :: xs, h => by
    rw [List.mem_cons, not_or] at h
    have q : (m == n) = false := beq_eq_false_iff_ne.mpr h.1
    rw [List.zip_cons_cons, List.lookup_cons, q]
    exact lookup_no h.2
theorem isI_rep {c m : Str} {x : T} {v : V} (o : StoOk G H S) (r : Rep G H S x v) (e : isI c m S x) : ∃ a d, ∃ (ns : List Str) (xs : List V), v = .ref a ∧ H a = some (.ins (He.ga G.K c) d (ns.zip xs)) ∧ (ns.zip xs).lookup m = none := by
  cases r with
  | @obj a d c' ns ts xs h1 h2 h3 =>
    obtain ⟨e1, e2⟩ := (show c' = c ∧ m ∉ ns from e)
    subst e1
    exact ⟨a, d, ns, xs, rfl, h1.1, lookup_no e2⟩
  | ref a =>
    obtain ⟨ns, ts, q, e⟩ := (show ∃ ns ts, S a = some (.ins c ns ts) ∧ m ∉ ns from e)
    obtain ⟨d, xs, h1, h2, h3⟩ := o.at_ a _ q
    exact ⟨a, d, ns, xs, rfl, h1, lookup_no e⟩
  | _ => exact e.elim
end
section
variable {X : Cx} {e o : Expr} {te to : TTE} {f : Str} {ok : Str → Bool} {p pos pos' apos : Pos} {es : List Expr} {ta : TTA} {j k : Nat} {c m x : Str} {ps : List Str} {sp : SpT}
theorem te_fld (hk : ∀ c, ok c = true → Cls X.K (He.ga X.K c) ∧ NoAttr X.K (He.ga X.K c) f) (he : TE X e te) (hb : attributeBase e f X.env (eval e X.env) = eval e X.env := by rfl) : TE X (.Attribute e f pos) (cUn (fldT f ok) te) := fun M S0 H0 E tk =>
  (pe_fld (he M S0 H0 E tk) hb).weak fun σ H Q ⟨τ, S, Qt, rel, h, fin⟩ => ⟨τ, S, _, rel, h, fun z S1 v H1 ⟨w, e, hq⟩ o1 x1 r1 => by
    obtain ⟨a, c, d, ns, xs, u, rfl, h1, hc, l, rw1⟩ := ins_rep o1 r1 e
    obtain ⟨k1, k2⟩ := hk c hc
    exact ⟨a, _, d, _, u, rfl, h1, k1, k2, l, fin w S1 u H1 hq o1 x1 rw1⟩⟩
theorem ts_fput (hk : ∀ c, ok c = true → Cls X.K (He.ga X.K c) ∧ NoAttr X.K (He.ga X.K c) f) (ho : TE X o to) (he : TE X e te) (hs : swapsWith e (some (.Attribute o f pos')) pos.line X.env = pure false := by rfl) : TS X (.Assign [.Attribute o f pos'] e pos) (cFput f ok to te) := fun M S0 H0 E tk =>
  (ps_fld (ho M S0 H0 E tk) (he M S0 H0 E tk) hs).weak fun D σ H ⟨τ, S, B, rel, h, k1, _⟩ => ⟨τ, S, _, rel, h, fun zz S1 z H1 h1 o1 x1 r1 => ⟨τ, S1, _, rel.step o1 x1, h1, fun zx S2 x H2 ⟨a, c, ns, ts, ea, es, hc, hl, hn⟩ o2 x2 r2 => by
    subst ea
    cases r2
    obtain ⟨d, xs, g1, g2, g3⟩ := o2.at_ a _ es
    obtain ⟨q1, q2⟩ := hk c hc
    obtain ⟨xs', p1, p2, p3⟩ := putN_rep (f := f) (Rep.ext x2 _ _ r1) g3 g2
    have xc : Ext S2 H2 (ups S2 a (.ins c (putN ns ts f zz).1 (putN ns ts f zz).2)) (upd H2 a (.ins (He.ga X.K c) d ((putN ns ts f zz).1.zip xs'))) := Ext.cell (.inr ⟨_, es⟩)
    refine ⟨a, _, d, _, rfl, g1, q1, q2, ?_, ?_⟩
    · rw [List.length_zip]; omega
    · rw [p1]
      have rel4 := rel.step (o2.cell (o := .ins (He.ga X.K c) d ((putN ns ts f zz).1.zip xs')) (c := .ins c (putN ns ts f zz).1 (putN ns ts f zz).2) (.inr ⟨_, es⟩) ⟨d, xs', upd_same, p2, Reps.ext xc _ _ p3⟩) ((x1.trans x2).trans xc)
      exact k1 σ _ τ _ rel4 ((x1.trans x2).trans xc) hn⟩⟩
end
end TL
namespace L2
open PySem PySem.Spec PyProof.Rows
section
variable {X : Cx} {CX : CXT} {k : Nat} {f C : Addr} {fd : FuncData} {ps : List Str} {sp : Sp} {x m : Str} {p apos pos : Pos} {o e : Expr} {es : List Expr} {ta : TE} {t : TA}
theorem run_makeS {E : XK} {pins : List (Addr × Obj)} {σ : St} {H : Hp} {s : Shared} {Q : VK} {us : List Value} {vs : List V} (M : Mk X.K C f) (F : FnOk X.prog X.w X.K X.mg X.base CX k f fd ps sp) (hr : Room (k + 1) X.A) (hb : Binds X.K fd ps [])
    (hx : PassesAt CX X σ E) (I : Inv X pins σ H s) (r : Vals vs us)
    (h : ∀ x dx, H x = none → H dx = none → dx ≠ x → sp (.ref x :: vs) (upd (upd H dx (.own x)) x (.ins C dx [])) (fun v H2 => v = .non ∧ Q (.ref x) H2) E) :
    wpAny (model X.prog X.w) X.A (call (.ref C) us) (EP X pins σ Q) X.xe s := by
  have hq := h (s.heap.objs.size + 1) s.heap.objs.size (I.hok.fresh (Nat.le_succ _)) (I.hok.fresh (Nat.le_refl _)) (Nat.ne_of_lt (Nat.lt_succ_self _))
  have I2 := Inv.made (C := C) I
  have r2 : Vals (V.ref (s.heap.objs.size + 1) :: vs) (Value.ref (s.heap.objs.size + 1) :: us) := .cons rfl r
  have hl : (Value.ref (s.heap.objs.size + 1) :: us ++ []).length = ps.length := by
    rw [List.append_nil]
    have e := r2.length
    rw [F.len _ _ _ _ hq] at e
    exact e.symm
  refine wpAny_call (make_map (f := f) I.kIn M.makes M.init (beq_iff_eq.mp M.fn) (codeAny_mono (F.run _ X.stack _ _ ⟨Value.ref (s.heap.objs.size + 1) :: us, []⟩ (Value.ref (s.heap.objs.size + 1) :: us) _ _ E (hr.make C us [])
    (I2.env0.make C us []) (by have := hb _ (Value.ref (s.heap.objs.size + 1) :: us) I2.kIn hl; rwa [List.append_nil] at this) r2 hq) fun r s' hq' => ?_))
  cases r with
  | error e => exact hx pins _ _ e s' I2 hq'
  | ok fl =>
    cases fl with
    | ret u =>
      obtain ⟨v, H', I3, rv, ev, q3⟩ := I2.after hq'
      subst ev
      exact ⟨rv, ⟨V.ref (s.heap.objs.size + 1), H', I3, rfl, q3⟩⟩
    | next => exact False.elim hq'
    | brk => exact False.elim hq'
    | cont => exact False.elim hq'
def tMakeS (C : Addr) (sp : Sp) (E : St → XK) (t : TA) : TE := fun σ H Q => t σ H fun vs H1 => ∀ x dx, H1 x = none → H1 dx = none → dx ≠ x → sp (.ref x :: vs) (upd (upd H1 dx (.own x)) x (.ins C dx [])) (fun v H2 => v = .non ∧ Q (.ref x) H2) (E σ)
theorem pe_makeS {E : St → XK} (M : Mk X.K C f) (F : FnOk X.prog X.w X.K X.mg X.base CX k f fd ps sp) (hr : Room (k + 1) X.A) (hg : Gl X x) (hm : X.mg x = some (.ref C)) (hb : Binds X.K fd ps []) (hx : ∀ σ, PassesAt CX X σ (E σ))
    (ha : PA X (e :: es) t) (hdb : (x == ("__debug__" : Str)) = false := by decide) (he : starEach (e :: es) X.env = (false, eval e X.env) :: starEach es X.env := by rfl) (hpl : (backTo pos (starEach es X.env)).any (·.1) = false := by rfl) :
    PE X (.Call (.Name x p) (e :: es) [] pos) (tMakeS C sp E t) := by
  refine ⟨fun pins s σ H Q I h => ?_⟩
  refine wpAny_Call_Name_kw (ld_glob I hg hm ?_ hdb)
  refine PySem.W.callWith_K (h₀ := X.base) I.ok.mod.kin M.kp (thn (ha.run pos pins s σ H _ I h) fun us s1 ⟨vs, H1, I1, r, q⟩ => ⟨I1.kIn, ?_⟩) he hpl
  exact run_makeS M F hr hb (hx σ) I1 r q
def tMethSS (C : Addr) (m : Str) (sp : Sp) (E : St → XK) (ta : TE) (t : TA) : TE := fun σ H Q => ta σ H fun x H1 => ∃ a dx fs, x = .ref a ∧ H1 a = some (.ins C dx fs) ∧ fs.lookup m = none ∧ t σ H1 fun vs H2 => sp (x :: vs) H2 Q (E σ)
theorem pe_methSS {E : St → XK} {pl : Sem Bool} (he : PE X o ta) (c : Cls X.K C) (hm : Meth X.K C m f) (F : FnOk X.prog X.w X.K X.mg X.base CX k f fd ps sp) (hr : Room k X.A) (hb : Binds X.K fd ps []) (hx : ∀ σ, PassesAt CX X σ (E σ)) (ha : PA X (e :: es) t)
    (hst : starEach (e :: es) X.env = (false, eval e X.env) :: starEach es X.env := by rfl) (hpl : (backTo pos (starEach es X.env)).any (·.1) = false := by rfl)
    (ht : eval (.Call (.Attribute o m apos) (e :: es) [] pos) X.env = (do
      let ov ← eval o X.env
      standAt apos.atName
      let (f, first) ← holding [ov] (getMethod ov m pl)
      callWith pos f first (backTo pos (starEach (e :: es) X.env)) (backToKw pos (keywordEach [] X.env))) := by rfl) :
    PE X (.Call (.Attribute o m apos) (e :: es) [] pos) (tMethSS C m sp E ta t) := by
  refine ⟨fun pins s σ H Q I h => ?_⟩
  refine PySem.W.methodCall_KW (pl := pl) (thn (he.run pins s σ H _ I h) fun u s1 ⟨x, H1, I1, rx, a, dx, fs, ex, ea, l, q⟩ => ?_) ht
  subst ex
  obtain rfl : u = Value.ref a := rx
  refine getmeth_ok I1 ea c hm l ?_
  refine PySem.W.callWith_K (first := [.ref a]) (h₀ := X.base) I.ok.mod.kin hm.kp (thn (ha.run pos pins s1 σ H1 _ I1 q) fun us s2 ⟨vs, H2, I2, r, q2⟩ => ⟨I2.kIn, ?_⟩) hst hpl
  exact run_fnS (us := .ref a :: us) (vs := .ref a :: vs) F hr hb (hx σ) I2 (.cons rfl r) q2
end
end L2
namespace TL
open PySem PySem.Spec PyProof.Rows
open L2 hiding putF
section
variable {X : Cx} {e o : Expr} {te to : TTE} {f : Str} {ok : Str → Bool} {p pos pos' apos : Pos} {es : List Expr} {ta : TTA} {j k : Nat} {c m x : Str} {ps : List Str} {sp : SpT} {M : Addr → Prop} {S0 : Sto} {H0 : Hp} {E : T → TEnv → Sto → Prop}
theorem made_le {σ : L2.St} {H : Hp} {Q : VK} (h : LE X M S0 H0 (cMake c sp ta) E σ H Q) : tMakeS (He.ga X.K c) (liftSp X.prog X.K X.w sp) (WE (wOf X M S0 H0 E)) (LA X M S0 H0 ta E) σ H Q := by
  obtain ⟨τ, S, Qt, rel, h, fin⟩ := h
  refine ⟨τ, S, _, rel, h, fun zs S1 vs H1 hq o1 x1 r1 x dx n1 n2 ne => ?_⟩
  have n1' : (upd H1 dx (.own x)) x = none := (upd_ne (Ne.symm ne)).trans n1
  have xa : Ext S1 H1 S1 (upd H1 dx (.own x)) := Ext.new n2
  have xb : Ext S1 (upd H1 dx (.own x)) (ups S1 x (.ins c [] [])) (upd (upd H1 dx (.own x)) x (.ins (He.ga X.K c) dx [])) := Ext.cell (.inl n1')
  have o2 : StoOk (gdOf X M) (upd (upd H1 dx (.own x)) x (.ins (He.ga X.K c) dx [])) (ups S1 x (.ins c [] [])) := (o1.new n2).cell (.inl n1') ⟨dx, [], upd_same, rfl, .nil⟩
  have xc := xa.trans xb
  refine ⟨M, .ref x :: zs, ups S1 x (.ins c [] []), fun z S2 => z = .non ∧ Fin Qt (.ref x) S2, fun x S' => E x τ S', .cons (.ref x) (Reps.ext xc _ _ r1), o2, hq x (o1.free n1), ?_, ?_⟩
  · rintro z S' v H' ⟨rfl, S2, u, k2, fz, q2⟩ o3 x3 r3
    cases r3
    exact ⟨rfl, fin u S2 (.ref x) H' q2 (o3.drop k2) (((x1.trans xc).trans x3).trans k2.ext) (Fz.rep o3 k2 fz (.ref x))⟩
  · intro y S' cls d H' qx o3 x3 hx
    exact ⟨τ, S', y, rel.step o3 ((x1.trans xc).trans x3), hx, qx⟩
theorem te_make (F : Okc X.prog X.w X.K X.mg X.base k c ps sp) (hr : Room j X.A) (hkj : k + 1 ≤ j) (hg : Gl X c) (ha : TA X (e :: es) ta) (hdb : (c == ("__debug__" : Str)) = false := by decide)
    (he : starEach (e :: es) X.env = (false, eval e X.env) :: starEach es X.env := by rfl) (hpl : (backTo pos (starEach es X.env)).any (·.1) = false := by rfl) : TE X (.Call (.Name c p) (e :: es) [] pos) (cMake c sp ta) := fun M S0 H0 E tk => by
  obtain ⟨fd, F1, mk, hm, hb⟩ := F
  exact (pe_makeS (E := WE (wOf X M S0 H0 E)) mk F1 (hr.mono hkj) hg hm hb (fun σ => L2N.passAt tk σ) (ha M S0 H0 E tk) hdb he hpl).weak fun σ H Q h => made_le h
theorem te_meth {pl : Sem Bool} (F : Okm X.prog X.w X.K X.mg X.base k c m ps sp) (hr : Room j X.A) (hkj : k ≤ j) (ho : TE X o to) (ha : TA X (e :: es) ta)
    (hst : starEach (e :: es) X.env = (false, eval e X.env) :: starEach es X.env := by rfl) (hpl : (backTo pos (starEach es X.env)).any (·.1) = false := by rfl)
    (ht : eval (.Call (.Attribute o m apos) (e :: es) [] pos) X.env = (do
      let ov ← eval o X.env
      standAt apos.atName
      let (f, first) ← holding [ov] (getMethod ov m pl)
      callWith pos f first (backTo pos (starEach (e :: es) X.env)) (backToKw pos (keywordEach [] X.env))) := by rfl) :
    TE X (.Call (.Attribute o m apos) (e :: es) [] pos) (cMeth c m sp to ta) := fun M S0 H0 E tk => by
  obtain ⟨fd, F1, hc, hm, hb⟩ := F
  exact (pe_methSS (E := WE (wOf X M S0 H0 E)) (ho M S0 H0 E tk) hc hm F1 (hr.mono hkj) hb (fun σ => L2N.passAt tk σ) (ha M S0 H0 E tk) hst hpl ht).weak fun σ H Q ⟨τ, S, Qt, rel, h, fin⟩ =>
    ⟨τ, S, _, rel, h, fun z S1 v H1 ⟨hi, h1⟩ o1 x1 r1 => by
      obtain ⟨a, d, ns, xs, rfl, g1, g2⟩ := isI_rep o1 r1 hi
      exact ⟨a, d, _, rfl, g1, g2, τ, S1, _, rel.step o1 x1, h1, fun zs S2 vs H2 q o2 x2 r2 =>
        ⟨M, z :: zs, S2, Qt, fun x S' => E x τ S', .cons (Rep.ext x2 _ _ r1) r2, o2, q, fun z S' v H' qz o3 x3 r3 => fin z S' v H' qz o3 ((x1.trans x2).trans x3) r3, fun x S' cls d H' qx o3 x3 hx => ⟨τ, S', x, rel.step o3 ((x1.trans x2).trans x3), hx, qx⟩⟩⟩⟩
end
end TL
namespace TL
open PySem PySem.Spec PyProof.Rows
open L2 hiding putF
/-- a dict's cell, its kind told by its keys -/
abbrev cN (r : List T × List T) : Cell := .dct (dnk r.1) r.1 r.2
theorem unv_fldT {f : Str} {ok : Str → Bool} : UnV (fldT f ok) := fun S z v r h e => by
  rcases h with rfl | ⟨a, xs, rfl, h, rfl⟩ | ⟨a, n, ks, vs, rfl, h, rfl⟩
  · cases z <;> first | exact e | cases e
  · cases e
  · cases e
theorem nView_v {S : Sto} {z v : T} {p : List T × List T} (h : VwS S z v) (e : nView emp v = some p) : nView S z = some p := by
  rcases h with rfl | ⟨a, xs, rfl, h, rfl⟩ | ⟨a, n, ks, vs, rfl, h, rfl⟩
  · cases z with
    | ref a => cases e
    | dct n ks vs =>
      cases n
      · cases ks with
        | nil => cases vs <;> exact e
        | cons _ _ => cases e
      · exact e
    | _ => exact e
  · cases e
  · cases n with
    | true => simp only [nView, h]; exact e
    | false =>
      cases ks with
      | cons _ _ => cases e
      | nil =>
        cases vs with
        | cons _ _ => cases e
        | nil => simp only [nView, h]; exact e
theorem tinQ_v {S : Sto} {x y v : T} {b : Bool} (h : VwS S y v) (e : tinQ emp x v = some b) : tinQ S x y = some b := by
  unfold tinQ at e ⊢
  split at e
  · rename_i p k e1 e2
    rw [nView_v h e1, e2]
    exact e
  · cases e
theorem opv_tninT : ∀ S x y v r, VwS S y v → tninT emp x v = some r → tninT S x y = some r := fun S x y v r h e => by
  unfold tninT at e ⊢
  cases q : tinQ emp x v with
  | none => rw [q] at e; cases e
  | some b => rw [tinQ_v h q]; rw [q] at e; exact e
theorem unv_sktT : UnV sktT := fun S z v r h e => by
  unfold sktT at e ⊢
  obtain ⟨p, hp, e⟩ := Option.bind_eq_some_iff.mp e
  rw [nView_v h hp]
  exact e
theorem nPk_some {ks : List T} {k : NestedKey} {t : T} : dnk (nPk ks k t) = true := by
  unfold nPk
  cases ks with
  | nil => rfl
  | cons a b => split <;> rfl
section
variable {κ : Type} {W : κ → Sto} {p : TEnv} {l : Cs} {β : Type} {u : TTS} {post : β → Dest} {e ei : TTE} {m mi : PM κ T} {i : Nat} {fs : List Str} {c f : Str} {ok : Str → Bool}
theorem xe_fldv {x t : T} (h : p[i]? = some (some x)) (e : ∀ S, fldT f ok S x = some t) : XE W p l (cUn (fldT f ok) (cVar i)) (pu t) := fun Q E k τ S hE j s => ⟨x, hE.get h, t, e S, s S j⟩
theorem fzs_self {S S2 : Sto} : ∀ ts : List T, Fzs S S2 ts ts
  | [] => .nil
  | _ :: ts => .cons (.same _) (fzs_self ts)
/-- C(..) that takes down what it is handed -/
def spMk (c : Str) (fs : List Str) : SpT := fun ts S Q _ => ∃ p vs, ts = .ref p :: vs ∧ vs.length = fs.length ∧ S p = some (.ins c [] []) ∧ Q .non (ups S p (.ins c fs vs))
theorem spMk_len : ∀ ts S Q E, spMk c fs ts S Q E → ts.length = fs.length + 1 := fun ts S Q E ⟨p, vs, e, h, _⟩ => by rw [e, List.length_cons, h]
theorem xe_makeI {n : Nat} {r : TTA} {mr : (List T → PM κ T) → PM κ T} (h : XA W p l n r mr) (hn : n = fs.length := by rfl) : XE W p l (cMake c (spMk c fs) r) (mr fun vs => pu (.obj c fs vs)) := fun Q E k τ S hE i s =>
  h _ _ _ _ E k τ S hE i s (fun zs k' S' e i' s' a na => ⟨a, zs, rfl, e.trans hn, ups_same, rfl, S', .obj c fs zs, fun b d hb => by
    have : b ≠ a := fun z => by rw [z, na] at hb; cases hb
    rw [ups_ne this, ups_ne this]
    exact hb, .insc ups_same na (fzs_self _), s' S' i'⟩) fun x k' S' i' q => q S' i'
structure Lns (W : κ → Sto) (a : Addr) (get : κ → List T × List T) (set : κ → List T × List T → κ) : Prop where
  at_ : ∀ k, W k a = some (cN (get k))
  put : ∀ {l k r S}, SI W l k S → SI W l (set k r) (ups S a (cN r))
variable {a : Addr} {get : κ → List T × List T} {set : κ → List T × List T → κ} {x : T}
def linM (op : Sto → T → T → Option T) (get : κ → List T × List T) (y : T) : PM κ T := fun k => match op emp y (.dct (dnk (get k).1) (get k).1 (get k).2) with
  | some r => .ok r k
  | none => .bad
def lunM (op : Sto → T → Option T) (get : κ → List T × List T) : PM κ T := fun k => match op emp (.dct (dnk (get k).1) (get k).1 (get k).2) with
  | some r => .ok r k
  | none => .bad
def lputM (get : κ → List T × List T) (set : κ → List T × List T → κ) (y z : T) : PM κ Unit := fun k => match tky y with
  | some kk => if (get k).1.length < sizeLine then .ok () (set k (nPk (get k).1 kk y, nPv (get k).1 (get k).2 kk z)) else .bad
  | none => .bad
/-- e in self.f -/
theorem xe_lop {op : Sto → T → T → Option T} (L : Lns W a get set) (hp : p[i]? = some (some x)) (hf : ∀ S, fldT f ok S x = some (.ref a)) (ho : ∀ S x y v r, VwS S y v → op emp x v = some r → op S x y = some r) (he : XE W p l e m) :
    XE W p l (cOp op e (cUn (fldT f ok) (cVar i))) (bd m fun y => linM op get y) := fun Q E k τ S hE j s => by
  refine he _ _ k τ S hE j ((Sat.bd.mp s).mono (fun y k1 s1 S1 i1 => ?_) fun _ _ q => q)
  refine ⟨x, hE.get hp, .ref a, hf S1, ?_⟩
  unfold linM at s1
  cases q : op emp y (.dct (dnk (get k1).1) (get k1).1 (get k1).2) with
  | none => rw [q] at s1; exact s1.elim
  | some r =>
    rw [q] at s1
    exact ⟨r, ho S1 _ _ _ r (.inr (.inr ⟨a, _, _, _, rfl, i1.base a _ (L.at_ k1), rfl⟩)) q, s1 S1 i1⟩
/-- sorted(self.f) and the like -/
theorem xe_lun {op : Sto → T → Option T} {g : Sto → List T → Option T} (L : Lns W a get set) (hp : p[i]? = some (some x)) (hf : ∀ S, fldT f ok S x = some (.ref a)) (ho : UnV op) (hg : ∀ S x, g S [x] = op S x) :
    XE W p l (cFn g (cCons (cUn (fldT f ok) (cVar i)) cNil)) (lunM op get) := fun Q E k τ S hE j s => by
  refine ⟨x, hE.get hp, .ref a, hf S, ?_⟩
  unfold lunM at s
  cases q : op emp (.dct (dnk (get k).1) (get k).1 (get k).2) with
  | none => rw [q] at s; exact s.elim
  | some r =>
    rw [q] at s
    exact ⟨r, (hg S _).trans (ho S _ _ r (.inr (.inr ⟨a, _, _, _, rfl, j.base a _ (L.at_ k), rfl⟩)) q), s S j⟩
/-- self.f[e] = v -/
theorem xs_lput {g : PM κ β} (L : Lns W a get set) (hp : p[i]? = some (some x)) (hf : ∀ S, fldT f ok S x = some (.ref a)) (he : XE W p l e m) (hi : XE W p l ei mi) (h : XS W p l u g post) :
    XS W p l (cSeq (cTput (cUn (fldT f ok) (cVar i)) ei e) u) (bd m fun z => bd mi fun y => bd (lputM get set y z) fun _ => g) post := fun D E k τ S hE j s => by
  refine he _ _ k τ S hE j ((Sat.bd.mp s).mono (fun z k1 s1 S1 i1 => ?_) fun x k1 q S1 i1 => q τ S1 i1)
  refine ⟨x, hE.get hp, .ref a, hf S1, ?_⟩
  refine hi _ _ k1 τ S1 hE i1 ((Sat.bd.mp s1).mono (fun y k2 s2 S2 i2 => ?_) fun x k1 q S1 i1 => q τ S1 i1)
  have s3 := Sat.bd.mp s2
  unfold lputM at s3
  cases q : tky y with
  | none => simp only [q] at s3; exact s3.elim
  | some kk =>
    simp only [q] at s3
    by_cases hl : (get k2).1.length < sizeLine
    · rw [if_pos hl] at s3
      have b := i2.base a _ (L.at_ k2)
      refine ⟨a, _, _, kk, rfl, b, rfl, hl, ?_⟩
      have := h D E _ τ _ hE (L.put i2) s3
      rwa [show cN (nPk (get k2).1 kk y, nPv (get k2).1 (get k2).2 kk z) = .dct true (nPk (get k2).1 kk y) (nPv (get k2).1 (get k2).2 kk z) from by unfold cN; rw [nPk_some]] at this
    · rw [if_neg hl] at s3
      exact s3.elim
end
abbrev DD := List T × List T
def W2 (S : Sto) (m g : Addr) (k : DD × DD) : Sto := ups (ups S m (cN k.1)) g (cN k.2)
section
variable {S S' : Sto} {m g : Addr} {l : Cs} {k : DD × DD} {r : DD}
theorem W2_g : W2 S m g k g = some (cN k.2) := ups_same
theorem W2_m (h : m ≠ g) : W2 S m g k m = some (cN k.1) := (ups_ne h).trans ups_same
theorem W2_o {a : Addr} (h1 : a ≠ m) (h2 : a ≠ g) : W2 S m g k a = S a := (ups_ne h2).trans (ups_ne h1)
theorem W2_no {a : Addr} (h : m ≠ g) (e : W2 S m g k a = none) : a ≠ m ∧ a ≠ g ∧ S a = none := by
  have n2 : a ≠ g := fun z => by rw [z, W2_g] at e; cases e
  have n1 : a ≠ m := fun z => by rw [z, W2_m h] at e; cases e
  exact ⟨n1, n2, (W2_o n1 n2).symm.trans e⟩
theorem lens1 (h : m ≠ g) : Lns (W2 S m g) m Prod.fst (fun k r => (r, k.2)) := ⟨fun k => W2_m h, fun {l k r S'} i => ⟨fun e he => by
  rw [ups_ne (W2_no h (i.own e he)).1]; exact i.at_ e he, fun e he => by
  obtain ⟨n1, n2, n3⟩ := W2_no h (i.own e he)
  exact (W2_o n1 n2).trans n3, i.nd, fun a c e => by
  by_cases z1 : a = m
  · subst z1
    rw [W2_m h] at e
    rw [ups_same]; exact e
  · rw [ups_ne z1]
    by_cases z2 : a = g
    · subst z2
      exact i.base a c (by rw [W2_g] at e ⊢; exact e)
    · exact i.base a c (by rw [W2_o z1 z2] at e ⊢; exact e)⟩⟩
theorem lens2 (h : m ≠ g) : Lns (W2 S m g) g Prod.snd (fun k r => (k.1, r)) := ⟨fun k => W2_g, fun {l k r S'} i => ⟨fun e he => by
  rw [ups_ne (W2_no h (i.own e he)).2.1]; exact i.at_ e he, fun e he => by
  obtain ⟨n1, n2, n3⟩ := W2_no h (i.own e he)
  exact (W2_o n1 n2).trans n3, i.nd, fun a c e => by
  by_cases z2 : a = g
  · subst z2
    rw [W2_g] at e
    rw [ups_same]; exact e
  · rw [ups_ne z2]
    by_cases z1 : a = m
    · subst z1
      exact i.base a c (by rw [W2_m h] at e ⊢; exact e)
    · exact i.base a c (by rw [W2_o z1 z2] at e ⊢; exact e)⟩⟩
end
end TL
namespace TL
open PySem PySem.Spec PyProof.Rows
open L2 hiding putF
def popL {κ : Type} (ys : List T) : PM κ (T × List T) := match ys.getLast? with
  | some y => pu (y, ys.dropLast)
  | none => stuck
section
variable {κ : Type} {W : κ → Sto} {p : TEnv} {l : Cs} {β : Type} {u : TTS} {post : β → Dest}
theorem xs_asgpop {δ : Type} {i : Nat} {b : Addr} {ys : List T} {l1 l2 : Cs} {g : TTG} {un : T → Option δ} {pf : δ → TEnv} {f : T × List T → δ → PM κ β} (hB : p[i]? = some (some (.ref b))) (hg : XGt g p un pf)
    (h : ∀ r d, XS W (pf d) (l1 ++ (b, .lst r.2) :: l2) u (f r d) post) :
    XS W p (l1 ++ (b, .lst ys) :: l2) (cSeq (cAsg (cPop (cVar i)) g) u) (bd (popL ys) fun r => bd (ofO (un r.1)) fun d => f r d) post := fun D E k τ S hE j s => by
  unfold popL at s
  cases q : ys.getLast? with
  | none => rw [q] at s; exact s.elim
  | some y =>
    rw [q] at s
    obtain ⟨d, e1, s2⟩ := sat_ofO (Sat.bd.mp (show Sat (bd (ofO (un y)) (fun d => f (y, ys.dropLast) d) k) _ _ from s))
    refine ⟨.ref b, hE.get hB, b, ys, y, rfl, j.at_ (b, .lst ys) (by simp), q, ?_⟩
    exact hg y d τ _ _ e1 hE fun τ' hE' => h (y, ys.dropLast) d D E k τ' _ hE' j.put s2
end
theorem fld_ok {K : PySem.W.Frag} {f : Str} {cs : List Str} (h : Alls (fun c => Cls K (He.ga K c) ∧ NoAttr K (He.ga K c) f) cs) : ∀ c, okL cs c = true → Cls K (He.ga K c) ∧ NoAttr K (He.ga K c) f := fun c hc => h.mem (List.contains_iff_mem.mp hc)
def nsE : List Str := ["name", "family", "steps"]
def nsW : List Str := ["depth", "families", "met", "found"]
def walkT (D F : T) (m g : Addr) : T := .obj "Walk" nsW [D, F, .ref m, .ref g]
def spW (f : T → T → List T → PM (DD × DD) T) : SpT := fun ts S Q E => ∃ D F m g zs k, ts = walkT D F m g :: zs ∧ m ≠ g ∧ S m = some (cN k.1) ∧ S g = some (cN k.2) ∧
  Sat (f D F zs k) (fun v k' => Q v (W2 S m g k')) (fun x k' => E x (W2 S m g k'))
theorem spW_len {n : Nat} {f : T → T → List T → PM (DD × DD) T} (ha : ∀ D F, Ar n (f D F)) : ∀ ts S Q E, spW f ts S Q E → ts.length = n + 1 := fun ts S Q E ⟨D, F, m, g, zs, k, e, _, _, _, h⟩ => by
  rw [e, List.length_cons, ha D F zs k (sat_nb h)]
theorem W2_self {S : Sto} {m g : Addr} {k : DD × DD} (h1 : S m = some (cN k.1)) (h2 : S g = some (cN k.2)) : W2 S m g k = S := by
  unfold W2
  rw [ups_self h1, ups_self h2]
theorem vc_w {N : List Str} {f : T → T → List T → PM (DD × DD) T} {c : TTS} (h : ∀ S m g D F ts, m ≠ g → XS (W2 S m g) (startT N (walkT D F m g :: ts)) [] c (f D F ts) .rt) : VC N (spW f) c := fun ts S Q E ⟨D, F, m, g, zs, k, e, ne, h1, h2, q⟩ => by
  subst e
  have i0 : SI (W2 S m g) [] k S := by
    have := si_start (W := W2 S m g) (k := k)
    rwa [W2_self h1 h2] at this
  exact h S m g D F zs ne _ _ k _ S (En.refl _) i0 (q.mono (fun v k' q l z S' i w => fin_of i w q) fun x k' q τ' S' i => ⟨_, i.base, q⟩)
theorem vc_wn {N : List Str} {f : T → T → List T → PM (DD × DD) Unit} {c : TTS} (h : ∀ S m g D F ts, m ≠ g → XS (W2 S m g) (startT N (walkT D F m g :: ts)) [] c (f D F ts) fun _ => .fin) : VC N (spW fun D F ts => bd (f D F ts) fun _ => pu .non) c := fun ts S Q E ⟨D, F, m, g, zs, k, e, ne, h1, h2, q⟩ => by
  subst e
  have i0 : SI (W2 S m g) [] k S := by
    have := si_start (W := W2 S m g) (k := k)
    rwa [W2_self h1 h2] at this
  exact h S m g D F zs ne _ _ k _ S (En.refl _) i0 ((Sat.bd.mp q).mono (fun v k' q τ l S' i => fin_of i (.inl rfl) q) fun x k' q τ' S' i => ⟨_, i.base, q⟩)
theorem W2_W2 {S S' : Sto} {m g : Addr} {l : Cs} {k k' : DD × DD} (h : m ≠ g) (i : SI (W2 S m g) l k S') : SI (W2 S m g) l k' (W2 S' m g k') := by
  have i1 := (lens2 h).put (r := k'.2) ((lens1 h).put (r := k'.1) i)
  exact i1
section
variable {S0 : Sto} {m g : Addr} {p : TEnv} {l : Cs} {D F : T}
/-- self.nm(..) -/
theorem xe_wself {nm : Str} {n i : Nat} {f : T → T → List T → PM (DD × DD) T} {r : TTA} {mr : (List T → PM (DD × DD) T) → PM (DD × DD) T} (ne : m ≠ g) (hp : p[i]? = some (some (walkT D F m g))) (hn : nm ∉ nsW) (h : XA (W2 S0 m g) p l n r mr) :
    XE (W2 S0 m g) p l (cMeth "Walk" nm (spW f) (cVar i) r) (mr (f D F)) := fun Q E k τ S hE j s => by
  refine ⟨walkT D F m g, hE.get hp, ⟨rfl, hn⟩, ?_⟩
  refine h _ _ _ _ E k τ S hE j s (fun zs k' S' e i' s' => ?_) fun x k' S' i' q => q S' i'
  exact ⟨D, F, m, g, zs, k', rfl, ne, i'.base m _ (W2_m ne), i'.base g _ W2_g, s'.mono (fun v c' q => q _ (W2_W2 ne i')) fun x c' q => q _ (W2_W2 ne i').nil⟩
end
def spWI (g : T → PM Unit (T × T)) : SpT := fun ts S Q _ => ∃ p b, ts = [.ref p, b] ∧ S p = some (.ins "Walk" [] []) ∧ Sat (g b ()) (fun r _ => ∀ m f S', m ≠ f → m ≠ p → f ≠ p → S m = none → S f = none → S' p = some (.ins "Walk" nsW [r.1, r.2, .ref m, .ref f]) →
  S' m = some (cN ([], [])) → S' f = some (cN ([], [])) → (∀ a c, a ≠ p → S a = some c → S' a = some c) → Q .non S') (fun _ _ => False)
theorem spWI_len {g : T → PM Unit (T × T)} : ∀ ts S Q E, spWI g ts S Q E → ts.length = 2 := fun ts S Q E ⟨p, b, e, _⟩ => by rw [e]; rfl
theorem putN_1 {f : Str} {y : T} : putN [] [] f y = ([f], [y]) := rfl
theorem putN_no {n f : Str} {ns : List Str} {t y : T} {ts : List T} (h : n ≠ f) : putN (n :: ns) (t :: ts) f y = (n :: (putN ns ts f y).1, t :: (putN ns ts f y).2) := if_neg h
section
variable {κ : Type} {W : κ → Sto} {p : TEnv} {l : Cs} {u : TTS}
theorem vc_WI {N : List Str} {ok1 ok2 ok3 ok4 : Str → Bool} {e1 e2 : TTE} {m1 : T → PM Unit T} {m2 : T → PM Unit T} (o1 : ok1 "Walk" = true) (o2 : ok2 "Walk" = true) (o3 : ok3 "Walk" = true) (o4 : ok4 "Walk" = true)
    (h1 : ∀ (W : Unit → Sto) l a b, XE W (startT N [.ref a, b]) l e1 (m1 b)) (h2 : ∀ (W : Unit → Sto) l a b, XE W (startT N [.ref a, b]) l e2 (m2 b)) :
    VC N (spWI fun b => bd (m1 b) fun D => bd (m2 b) fun F => pu (D, F)) (cSeq (cFput "depth" ok1 (cVar 0) e1) (cSeq (cFput "families" ok2 (cVar 0) e2) (cSeq (cFput "met" ok3 (cVar 0) cDnewM) (cSeq (cFput "found" ok4 (cVar 0) cDnewM) cSkip)))) := fun ts S Q E ⟨a, b, e, hp, q⟩ => by
  subst e
  have i0 : SI (fun _ : Unit => offs S a) [(a, .ins "Walk" [] [])] () S := ⟨fun x hx => by rw [List.mem_singleton.mp hx]; exact hp, fun x hx => by rw [List.mem_singleton.mp hx]; exact offs_same, by simp, fun b c hb => by
    by_cases z : b = a
    · subst z; rw [offs_same] at hb; cases hb
    · rwa [offs_ne z] at hb⟩
  have a1 : ∀ D F, putN ["depth"] [D] "families" F = ((["depth", "families"] : List Str), [D, F]) := fun D F => by rw [putN_no (by decide), putN_1]
  have a2 : ∀ D F m, putN ["depth", "families"] [D, F] "met" m = ((["depth", "families", "met"] : List Str), [D, F, m]) := fun D F m => by rw [putN_no (by decide), putN_no (by decide), putN_1]
  have a3 : ∀ D F m f, putN ["depth", "families", "met"] [D, F, m] "found" f = (nsW, [D, F, m, f]) := fun D F m f => by rw [putN_no (by decide), putN_no (by decide), putN_no (by decide), putN_1]; rfl
  have v0 : ∀ {Q : T → Sto → Prop} {E : T → Sto → Prop} {S : Sto}, Q (.ref a) S → cVar 0 (startT N [.ref a, b]) S Q E := fun h => ⟨.ref a, rfl, h⟩
  refine h1 _ _ a b _ _ () _ S (En.refl _) i0 ((Sat.bd.mp q).mono (fun D k1 s1 S1 i1 => v0 ?_) fun x k1 z S1 i1 => z.elim)
  refine ⟨a, "Walk", [], [], rfl, i1.at_ (a, _) (.head _), o1, Nat.zero_lt_succ _, ?_⟩
  have i1' := i1.put (l1 := []) (l2 := []) (d := .ins "Walk" ["depth"] [D])
  refine h2 _ _ a b _ _ k1 _ _ (En.refl _) i1' ((Sat.bd.mp s1).mono (fun F k2 s2 S2 i2 => v0 ?_) fun x k1 z S1 i1 => z.elim)
  refine ⟨a, "Walk", ["depth"], [D], rfl, i2.at_ (a, _) (.head _), o2, by decide, ?_⟩
  rw [a1]
  have i2' := i2.put (l1 := []) (l2 := []) (d := .ins "Walk" ["depth", "families"] [D, F])
  refine fun m nm => v0 ?_
  have i3 := i2'.new (c := cN ([], [])) nm
  refine ⟨a, "Walk", ["depth", "families"], [D, F], rfl, i3.at_ (a, _) (.tail _ (.head _)), o3, by decide, ?_⟩
  rw [a2]
  have i3' := i3.put (l1 := [(m, cN ([], []))]) (l2 := []) (d := .ins "Walk" ["depth", "families", "met"] [D, F, .ref m])
  refine fun f nf => v0 ?_
  have i4 := i3'.new (c := cN ([], [])) nf
  refine ⟨a, "Walk", ["depth", "families", "met"], [D, F, .ref m], rfl, i4.at_ (a, _) (.tail _ (.tail _ (.head _))), o4, by decide, ?_⟩
  rw [a3]
  have i5 := i4.put (l1 := [(f, cN ([], [])), (m, cN ([], []))]) (l2 := []) (d := .ins "Walk" nsW [D, F, .ref m, .ref f])
  refine Fin.of (s2 m f _ ?_ ?_ ?_ ?_ ?_ (i5.at_ (a, _) (by simp)) (i5.at_ (m, _) (by simp)) (i5.at_ (f, _) (by simp)) fun c d hc hs => i5.base c d (by rw [offs_ne hc]; exact hs))
  all_goals have nd := i5.nd
  all_goals simp only [List.map_cons, List.map_append, List.map_nil, List.cons_append, List.nil_append, List.nodup_cons, List.mem_cons, List.not_mem_nil, or_false, not_or] at nd
  · exact fun z => nd.1.1 z.symm
  · exact nd.2.1
  · exact nd.1.2
  · have := i5.own (m, cN ([], [])) (by simp)
    have z : offs S a m = none := this
    rwa [offs_ne nd.2.1] at z
  · have := i5.own (f, cN ([], [])) (by simp)
    have z : offs S a f = none := this
    rwa [offs_ne nd.1.2] at z
def runW {κ : Type} (m : PM (DD × DD) T) : PM κ T := fun k => match m (([], []), ([], [])) with
  | .ok v _ => .ok v k
  | .exc x _ => .exc x k
  | .bad => .bad
theorem SI.more {S S2 : Sto} {k : κ} (i : SI W l k S) (h : ∀ a c, S a = some c → S2 a = some c) : SI W l k S2 := ⟨fun e he => h _ _ (i.at_ e he), i.own, i.nd, fun a c e => h _ _ (i.base a c e)⟩
/-- Walk(e).nm(..) -/
theorem xe_walk {nm : Str} {n : Nat} {g : T → PM Unit (T × T)} {f : T → T → List T → PM (DD × DD) T} {eb : TTE} {mb : PM κ T} {r : TTA} {mr : (List T → PM κ T) → PM κ T} (hn : nm ∉ nsW) (he : XE W p l eb mb) (h : ∀ l', XA W p l' n r mr) :
    XE W p l (cMeth "Walk" nm (spW f) (cMake "Walk" (spWI g) (cCons eb cNil)) r) (bd mb fun b => bd (lft (nox (g b))) fun q => mr fun zs => runW (f q.1 q.2 zs)) := fun Q E k τ S hE j s => by
  refine he _ _ k τ S hE j ((Sat.bd.mp s).mono (fun b k1 s1 S1 i1 => ?_) fun _ _ q => q)
  intro p0 n0
  have s2 := Sat.lft.mp (Sat.bd.mp s1)
  unfold nox at s2
  refine ⟨p0, b, rfl, ups_same, ?_⟩
  cases q : g b () with
  | exc x k' => rw [q] at s2; exact s2.elim
  | bad => rw [q] at s2; exact s2.elim
  | ok DF k' =>
    rw [q] at s2
    have s3 : Sat (mr (fun zs => runW (f DF.1 DF.2 zs)) k1) _ _ := s2
    refine fun m f' S' ne n1 n2 m0 f0 hp hm hf hb => ⟨rfl, offs S' p0, walkT DF.1 DF.2 m f', fun a c e => ?_, .insc hp offs_same (fzs_self _), ⟨rfl, hn⟩, ?_⟩
    · by_cases z : a = p0
      · subst z; rw [offs_same] at e; cases e
      · rwa [offs_ne z] at e
    have m1 : S1 m = none := by rwa [ups_ne n1] at m0
    have f1 : S1 f' = none := by rwa [ups_ne n2] at f0
    have i2 : SI W ((m, cN ([], [])) :: (f', cN ([], [])) :: l) k1 (offs S' p0) := by
      have ia := (i1.new (c := cN ([], [])) f1).new (a := m) (c := cN ([], [])) (by rw [ups_ne ne]; exact m1)
      refine ia.more fun a c e => ?_
      by_cases z1 : a = m
      · subst z1
        rw [ups_same] at e
        rw [offs_ne n1, hm]; exact e
      · rw [ups_ne z1] at e
        by_cases z2 : a = f'
        · subst z2
          rw [ups_same] at e
          rw [offs_ne n2, hf]; exact e
        · rw [ups_ne z2] at e
          have z3 : a ≠ p0 := fun z => by rw [z, n0] at e; cases e
          rw [offs_ne z3]
          exact hb a c z3 (by rw [ups_ne z3]; exact e)
    refine h _ _ _ _ _ E k1 τ _ hE i2 s3 (fun zs k3 S3 el i3 s4 => ?_) fun x k' S' i' q => q S' i'
    have fin : ∀ k4, SI W l k3 (W2 S3 m f' k4) := fun k4 => by
      have ia := i3.put (l1 := []) (d := cN k4.1)
      have ib := ia.put (l1 := [(m, cN k4.1)]) (d := cN k4.2)
      exact ib.tail.tail
    refine ⟨DF.1, DF.2, m, f', zs, (([], []), ([], [])), rfl, ne, i3.at_ (m, _) (.head _), i3.at_ (f', _) (.tail _ (.head _)), ?_⟩
    unfold runW at s4
    cases w : f DF.1 DF.2 zs (([], []), ([], [])) with
    | ok v k4 => rw [w] at s4; exact s4 _ (fin k4)
    | exc x k4 => rw [w] at s4; exact s4 _ (fin k4).nil
    | bad => rw [w] at s4; exact s4.elim
end
/-- End(..): its __init__ -/
theorem vc_end {N : List Str} {ok1 ok2 ok3 : Str → Bool} (o1 : ok1 "End" = true) (o2 : ok2 "End" = true) (o3 : ok3 "End" = true) : VC N (spMk "End" nsE) (cSeq (cFput "name" ok1 (cVar 0) (cVar 1)) (cSeq (cFput "family" ok2 (cVar 0) (cVar 2)) (cSeq (cFput "steps" ok3 (cVar 0) (cVar 3)) cSkip))) := fun ts S Q E ⟨p, vs, e, hl, hp, q⟩ => by
  subst e
  match vs, hl with
  | [a, b, c], _ =>
    refine ⟨a, rfl, .ref p, rfl, p, "End", [], [], rfl, hp, o1, by decide, ?_⟩
    refine ⟨b, rfl, .ref p, rfl, p, "End", ["name"], [a], rfl, ups_same, o2, by decide, ?_⟩
    rw [putN_no (by decide), putN_1]
    refine ⟨c, rfl, .ref p, rfl, p, "End", ["name", "family"], [a, b], rfl, ups_same, o3, by decide, ?_⟩
    rw [putN_no (by decide), putN_no (by decide), putN_1]
    refine Fin.of ?_
    have : ups (ups (ups S p (.ins "End" ["name"] [a])) p (.ins "End" ["name", "family"] [a, b])) p (.ins "End" nsE [a, b, c]) = ups S p (.ins "End" nsE [a, b, c]) := by
      funext z
      unfold ups
      by_cases y : z = p <;> simp [y]
    show Q .non (ups (ups (ups S p _) p _) p (.ins "End" nsE [a, b, c]))
    rw [← this] at q
    exact q
section
variable {D F : T} {m g : Addr}
theorem wf_depth (S : Sto) : fldT "depth" (okL ["Walk"]) S (walkT D F m g) = some D := rfl
theorem wf_families (S : Sto) : fldT "families" (okL ["Walk"]) S (walkT D F m g) = some F := rfl
theorem wf_met (S : Sto) : fldT "met" (okL ["Walk"]) S (walkT D F m g) = some (.ref m) := rfl
theorem wf_found (S : Sto) : fldT "found" (okL ["Walk"]) S (walkT D F m g) = some (.ref g) := rfl
end
end TL
namespace TL
open PySem PySem.Spec PyProof.Rows L2
end TL
namespace TL
open PySem PySem.Spec PyProof.Rows L2
section
variable {κ : Type} {W : κ → Sto} {p : TEnv} {l : Cs}
end
end TL
namespace TL
open PySem PySem.Spec PyProof.Rows L2
/-- keys and values of a display -/
inductive TPs (X : Cx) : List (Option Expr) → List Expr → List (List Sg × TTE) → Prop
  | nil : TPs X [] [] []
  | cons {k v : Expr} {ks : List (Option Expr)} {vs : List Expr} {a : List Sg} {t : TTE} {prs : List (List Sg × TTE)} : TE X k (cC (.str a)) → TE X v t → TPs X ks vs prs → TPs X (some k :: ks) (v :: vs) ((a, t) :: prs)
section
variable {κ : Type} {W : κ → Sto} {p : TEnv} {l : Cs}
end
end TL
namespace TL
open PySem PySem.Spec PyProof.Rows L2
section
variable {X : Cx} {o e : Expr} {to : TTE} {apos cpos : Pos} {b : Bool}
end
section
variable {X : Cx} {tg a b d : Expr} {ta tb td : TTE} {p pos : Pos}
end
section
variable {κ : Type} {W : κ → Sto} {p : TEnv} {l : Cs} {a b d : TTE} {ma mb md : PM κ T}
end
end TL
namespace TL
open PySem PySem.Spec PyProof.Rows
open L2 hiding putF
def TET (X : Cx) (e : Expr) (t : TTE) : Prop := ∀ M S0 H0 E, Takes X (wOf X M S0 H0 E) → PET X e (LE X M S0 H0 t E)
def TST (X : Cx) (s : Stmt) (t : TTS) : Prop := ∀ M S0 H0 E, Takes X (wOf X M S0 H0 E) → PST X s (LS X M S0 H0 t E)
def TSsT (X : Cx) (s : List Stmt) (t : TTS) : Prop := ∀ M S0 H0 E, Takes X (wOf X M S0 H0 E) → PSsT X s (LS X M S0 H0 t E)
section
variable {X : Cx} {e a b o : Expr} {es : List Expr} {ta tb te to : TTE} {tA tB : TTB} {tr : TTA} {st : Stmt} {rest body : List Stmt} {t u : TTS} {pos apos c0 c1 p : Pos} {j k : Nat}
theorem TET.of (h : TE X e te) : TET X e te := fun M S0 H0 E tk => CwR.PET.of (h M S0 H0 E tk)
theorem TSsT.of (h : TSs X rest t) : TSsT X rest t := fun M S0 H0 E tk => PSsT.of (h M S0 H0 E tk)
theorem TST.of (h : TS X st t) : TST X st t := fun M S0 H0 E tk => PST.of (h M S0 H0 E tk)
end
structure FnT (P : Program) (w : World) (K : PySem.W.Frag) (mg : Str → Option Value) (base : Heap) (CX : CXT) (k : Nat) (f : Addr) (fd : FuncData) (ps : List Str) (sp : Sp) : Prop where
  len : ∀ vs H Q E, sp vs H Q E → vs.length = ps.length
  run : ∀ (A : Around) (outer : List Env) (s : Shared) (H : Hp) (args : Args) (us : List Value) (vs : List V) (Q : VK) (E : XK), 1 ≤ s.toks → Room k A → Env0 P w K mg base A outer s H → BindsTo s fd args (ps.zip us) → Vals vs us → sp vs H Q E →
    codeAny (model P w) A (.call (.ref f) args) (CR CX outer P w H s Q E) s
section
variable {P : Program} {w : World} {K : PySem.W.Frag} {mg : Str → Option Value} {base : Heap} {x qual : Str} {params : Arguments} {body : List Stmt} {scope : Scope} {f : Addr} {fd : FuncData} {N ps : List Str} {k : Nat} {sp : SpT} {c : TTS}
end
section
variable {X : Cx} {k j : Nat} {f : Addr} {fd : FuncData} {ps : List Str} {sp : SpT} {x : Str} {p pos : Pos} {e : Expr} {es : List Expr} {ta : TTA}
end
end TL
namespace TL
open PySem PySem.Spec PyProof.Rows
open L2 hiding putF
abbrev Dsk := T × List T
def nsD : List Str := ["kept", "elder"]
def dIns (e : Addr) (k : Dsk) : Cell := .ins "Desk" nsD [k.1, .ref e]
def WD (d e : Addr) (S : Sto) (k : Dsk) : Sto := ups (ups S d (dIns e k)) e (.lst k.2)
structure DAt (d e : Addr) (S : Sto) (k : Dsk) : Prop where
  ne : d ≠ e
  d : S d = some (dIns e k)
  e : S e = some (.lst k.2)
section
variable {S S' : Sto} {d e a : Addr} {k k' : Dsk} {l : Cs} {c : Cell}
theorem WD_e : WD d e S k e = some (.lst k.2) := ups_same
theorem WD_d (h : d ≠ e) : WD d e S k d = some (dIns e k) := (ups_ne h).trans ups_same
theorem WD_o (h1 : a ≠ d) (h2 : a ≠ e) : WD d e S k a = S a := (ups_ne h2).trans (ups_ne h1)
theorem DAt.self (h : DAt d e S k) : WD d e S k = S := by
  unfold WD
  rw [ups_self h.d, ups_self h.e]
theorem WD_no (h : d ≠ e) (n : WD d e S k a = none) : a ≠ d ∧ a ≠ e ∧ S a = none := by
  have n2 : a ≠ e := fun z => by rw [z, WD_e] at n; cases n
  have n1 : a ≠ d := fun z => by rw [z, WD_d h] at n; cases n
  exact ⟨n1, n2, (WD_o n1 n2).symm.trans n⟩
theorem WD_put (h : d ≠ e) (i : SI (WD d e S) l k S') : SI (WD d e S) l k' (WD d e S' k') := ⟨fun x hx => by
    obtain ⟨n1, n2, _⟩ := WD_no h (i.own x hx)
    rw [WD_o n1 n2]
    exact i.at_ x hx, fun x hx => by
    obtain ⟨n1, n2, n3⟩ := WD_no h (i.own x hx)
    exact (WD_o n1 n2).trans n3, i.nd, fun x c hx => by
    by_cases z1 : x = e
    · subst z1; rw [WD_e] at hx ⊢; exact hx
    by_cases z2 : x = d
    · subst z2; rw [WD_d h] at hx ⊢; exact hx
    rw [WD_o z2 z1] at hx ⊢
    exact i.base x c (by rw [WD_o z2 z1]; exact hx)⟩
theorem WD_dat (h : d ≠ e) (i : SI (WD d e S) l k S') : DAt d e S' k := ⟨h, i.base d _ (WD_d h), i.base e _ WD_e⟩
end
section
variable {κ α β ι : Type}
/-- by the state without the last desk; by the last desk -/
def up (m : PM κ α) : PM (κ × Dsk) α := fun k => match m k.1 with
  | .ok v k' => .ok v (k', k.2)
  | .exc x k' => .exc x (k', k.2)
  | .bad => .bad
def dk (m : PM Dsk α) : PM (κ × Dsk) α := fun k => match m k.2 with
  | .ok v k' => .ok v (k.1, k')
  | .exc x k' => .exc x (k.1, k')
  | .bad => .bad
def WX (W : κ → Sto) (d e : Addr) (k : κ × Dsk) : Sto := WD d e (W k.1) k.2
/-- one place alone comes and goes never -/
def DomC (W : κ → Sto) : Prop := ∀ k k' a, W k a = none → W k' a = none
theorem DomC.up {W : κ → Sto} {d e : Addr} (h : DomC W) (ne : d ≠ e) : DomC (WX W d e) := fun k k' a n => by
  obtain ⟨n1, n2, n3⟩ := WD_no ne n
  exact (WD_o n1 n2).trans (h _ _ _ n3)
/-- the desk at (d, e), by lift -/
structure LD (W : κ → Sto) (d e : Addr) (lift : PM Dsk T → PM κ T) : Prop where
  ne : d ≠ e
  dom : ∀ k, W k d ≠ none ∧ W k e ≠ none
  at_ : ∀ (k : κ) (S : Sto) (l : Cs), SI W l k S → ∃ st, DAt d e S st
  run : ∀ (m : PM Dsk T) (P : T → κ → Prop) (X : T → κ → Prop) (k : κ) (S : Sto) (l : Cs), SI W l k S → Sat (lift m k) P X →
    ∃ st, DAt d e S st ∧ Sat (m st) (fun v st' => ∃ k', P v k' ∧ SI W l k' (WD d e S st')) (fun x st' => ∃ k', X x k' ∧ SI W l k' (WD d e S st'))
/-- the pen's cell, by lift -/
def LP (W : κ → Sto) (pa : Addr) (lift : PM Cell T → PM κ T) : Prop := (∀ k, W k pa ≠ none) ∧ ∀ (m : PM Cell T) (P : T → κ → Prop) (X : T → κ → Prop) (k : κ) (S : Sto) (l : Cs), SI W l k S → Sat (lift m k) P X →
  ∃ c, S pa = some c ∧ Sat (m c) (fun v c' => ∃ k', P v k' ∧ SI W l k' (ups S pa c')) (fun x c' => ∃ k', X x k' ∧ SI W l k' (ups S pa c'))
theorem sat_up {m : PM κ α} {k : κ × Dsk} {P : α → κ × Dsk → Prop} {X : T → κ × Dsk → Prop} (h : Sat (up m k) P X) : Sat (m k.1) (fun v k' => P v (k', k.2)) fun x k' => X x (k', k.2) := by
  unfold TL.up at h
  cases q : m k.1 <;> rw [q] at h <;> exact h
theorem sat_dk {m : PM Dsk α} {k : κ × Dsk} {P : α → κ × Dsk → Prop} {X : T → κ × Dsk → Prop} (h : Sat (dk m k) P X) : Sat (m k.2) (fun v k' => P v (k.1, k')) fun x k' => X x (k.1, k') := by
  unfold TL.dk at h
  cases q : m k.2 <;> rw [q] at h <;> exact h
theorem LD.one {S0 : Sto} {d e : Addr} (ne : d ≠ e) : LD (WD d e S0) d e id := ⟨ne, fun k => ⟨by rw [WD_d ne]; exact Option.some_ne_none _, by rw [WD_e]; exact Option.some_ne_none _⟩, fun k S l i => ⟨k, WD_dat ne i⟩, fun m P X k S l i h =>
  ⟨k, WD_dat ne i, Sat.mono h (fun v k' q => ⟨k', q, WD_put ne i⟩) fun x k' q => ⟨k', q, WD_put ne i⟩⟩⟩
section
variable {W : κ → Sto} {d e d' e' pa : Addr} {l : Cs} {k : κ × Dsk} {S : Sto}
/-- the state without the last desk -/
theorem SI.low (ne : d ≠ e) (n : ∀ k, W k d = none ∧ W k e = none) (i : SI (WX W d e) l k S) : SI W l k.1 S := ⟨i.at_, fun x hx => (WD_no ne (i.own x hx)).2.2, i.nd, fun a c h => by
  have n1 : a ≠ d := fun z => by rw [z, (n k.1).1] at h; cases h
  have n2 : a ≠ e := fun z => by rw [z, (n k.1).2] at h; cases h
  exact i.base a c ((WD_o n1 n2).trans h)⟩
/-- back again, the last desk as it was -/
theorem SI.high {k' : κ} {S' : Sto} (ne : d ≠ e) (i : SI (WX W d e) l k S) (j : SI W l k' S') (h1 : S' d = S d) (h2 : S' e = S e) : SI (WX W d e) l (k', k.2) S' := ⟨j.at_, fun x hx => by
  obtain ⟨n1, n2, _⟩ := WD_no ne (i.own x hx)
  exact (WD_o n1 n2).trans (j.own x hx), j.nd, fun a c h => by
  by_cases z1 : a = e
  · subst z1
    have h : WD d a (W k') k.2 a = some c := h
    rw [WD_e] at h
    rw [h2]
    exact i.base a c (show WD d a (W k.1) k.2 a = some c by rw [WD_e]; exact h)
  by_cases z2 : a = d
  · subst z2
    have h : WD a e (W k') k.2 a = some c := h
    rw [WD_d ne] at h
    rw [h1]
    exact i.base a c (show WD a e (W k.1) k.2 a = some c by rw [WD_d ne]; exact h)
  have h : WD d e (W k') k.2 a = some c := h
  rw [WD_o z2 z1] at h
  exact j.base a c h⟩
theorem LD.up {lift : PM Dsk T → PM κ T} (L : LD W d' e' lift) (ne : d ≠ e) (n : ∀ k, W k d = none ∧ W k e = none) : LD (WX W d e) d' e' fun m => TL.up (lift m) := by
  have hne : ∀ k : κ, (d ≠ d' ∧ d ≠ e') ∧ (e ≠ d' ∧ e ≠ e') := fun k => ⟨⟨fun z => (L.dom k).1 (z ▸ (n k).1), fun z => (L.dom k).2 (z ▸ (n k).1)⟩, fun z => (L.dom k).1 (z ▸ (n k).2), fun z => (L.dom k).2 (z ▸ (n k).2)⟩
  refine ⟨L.ne, fun k => ?_, fun k S l i => L.at_ k.1 S l (i.low ne n), fun m P X k S l i h => ?_⟩
  · obtain ⟨⟨a1, a2⟩, a3, a4⟩ := hne k.1
    exact ⟨by rw [show WX W d e k d' = W k.1 d' from WD_o a1.symm a3.symm]; exact (L.dom k.1).1, by rw [show WX W d e k e' = W k.1 e' from WD_o a2.symm a4.symm]; exact (L.dom k.1).2⟩
  · obtain ⟨⟨a1, a2⟩, a3, a4⟩ := hne k.1
    obtain ⟨st, h1, h2⟩ := L.run m _ _ k.1 S l (i.low ne n) (sat_up h)
    exact ⟨st, h1, h2.mono (fun v st' ⟨k', q, j⟩ => ⟨(k', k.2), q, i.high ne j (WD_o a1 a2) (WD_o a3 a4)⟩) fun v st' ⟨k', q, j⟩ => ⟨(k', k.2), q, i.high ne j (WD_o a1 a2) (WD_o a3 a4)⟩⟩
theorem LD.last (ne : d ≠ e) : LD (WX W d e) d e dk := ⟨ne, fun k => ⟨by rw [show WX W d e k d = _ from WD_d ne]; exact Option.some_ne_none _, by rw [show WX W d e k e = _ from WD_e]; exact Option.some_ne_none _⟩, fun k S l i => ⟨k.2, ne, i.base d _ (show WX W d e k d = _ from WD_d ne), i.base e _ (show WX W d e k e = _ from WD_e)⟩, fun m P X k S l i h => by
  refine ⟨k.2, ⟨ne, i.base d _ (show WX W d e k d = _ from WD_d ne), i.base e _ (show WX W d e k e = _ from WD_e)⟩, ?_⟩
  have j : ∀ st', SI (WX W d e) l (k.1, st') (WD d e S st') := fun st' => by
    have : SI (WD d e (W k.1)) l k.2 S := ⟨i.at_, i.own, i.nd, i.base⟩
    have := WD_put (k' := st') ne this
    exact ⟨this.at_, this.own, this.nd, this.base⟩
  exact (sat_dk h).mono (fun v st' q => ⟨_, q, j st'⟩) fun v st' q => ⟨_, q, j st'⟩⟩
theorem LP.one {S0 : Sto} : LP (penW S0 pa) pa id := ⟨fun k => by rw [show penW S0 pa k pa = some k from ups_same]; exact Option.some_ne_none _, fun m P X k S l i h => ⟨k, i.base pa k ups_same, Sat.mono h (fun v k' q => ⟨k', q, i.pen⟩) fun v k' q => ⟨k', q, i.pen⟩⟩⟩
theorem LP.up {lift : PM Cell T → PM κ T} (L : LP W pa lift) (ne : d ≠ e) (n : ∀ k, W k d = none ∧ W k e = none) : LP (WX W d e) pa fun m => TL.up (lift m) := by
  have hne : ∀ k : κ, d ≠ pa ∧ e ≠ pa := fun k => ⟨fun z => L.1 k (z ▸ (n k).1), fun z => L.1 k (z ▸ (n k).2)⟩
  refine ⟨fun k => ?_, fun m P X k S l i h => ?_⟩
  · obtain ⟨a1, a2⟩ := hne k.1
    rw [show WX W d e k pa = W k.1 pa from WD_o a1.symm a2.symm]
    exact L.1 k.1
  · obtain ⟨a1, a2⟩ := hne k.1
    obtain ⟨c, h1, h2⟩ := L.2 m _ _ k.1 S l (i.low ne n) (sat_up h)
    exact ⟨c, h1, h2.mono (fun v st' ⟨k', q, j⟩ => ⟨(k', k.2), q, i.high ne j (ups_ne a1) (ups_ne a2)⟩) fun v st' ⟨k', q, j⟩ => ⟨(k', k.2), q, i.high ne j (ups_ne a1) (ups_ne a2)⟩⟩
end
variable {W : κ → Sto} {p : TEnv} {l : Cs} {i : Nat}
/-- desks by which -/
def LF (W : κ → Sto) (ad el : ι → Addr) (lift : ι → PM Dsk T → PM κ T) : Prop := ∀ i, LD W (ad i) (el i) (lift i)
theorem LF.one {d e : Addr} {lift : PM Dsk T → PM κ T} (L : LD W d e lift) : LF (ι := Unit) W (fun _ => d) (fun _ => e) fun _ => lift := fun _ => L
theorem LF.two {d0 e0 d1 e1 : Addr} {l0 l1 : PM Dsk T → PM κ T} (L0 : LD W d0 e0 l0) (L1 : LD W d1 e1 l1) : LF (ι := Bool) W (fun b => if b = true then d1 else d0) (fun b => if b = true then e1 else e0) fun b => if b = true then l1 else l0 := fun b => by
  cases b with
  | true => exact L1
  | false => exact L0
variable {ad el : ι → Addr} {lift : ι → PM Dsk T → PM κ T} {eo : TTE} {mo : PM κ ι} {r : TTA} {n : Nat}
end
section
variable {κ α β ι : Type} {W : κ → Sto} {p : TEnv} {l : Cs} {i : Nat} {u : TTS} {post : β → Dest} {k0 : T}
end
section
variable {β : Type} {S0 : Sto} {d e : Addr} {p : TEnv} {l : Cs} {i : Nat} {u : TTS} {post : β → Dest} {ok : Str → Bool} {ee : TTE} {m : PM Dsk T} {g : PM Dsk β}
end
end TL
namespace TL
open PySem PySem.Spec PyProof.Rows
open L2 hiding putF
section
variable {P : Program} {w : World} {K : PySem.W.Frag} {tg : Expr} {d : Addr} {o : Obj} {en : Array DictEntry} {ep : Nat} {es : Es}
end
/-- e is read as it stands: p tells its tree -/
structure Rpth (X : Cx) (e : Expr) (p : TEnv → Sto → T → Prop) (rd : L2.St → Hp → V → Prop) : Prop where
  pe : PE X e (fun σ H Q => ∃ v, rd σ H v ∧ Q v H)
  rep : ∀ {M S0 H0 σ H τ S t}, Rel (gdOf X M) S0 H0 σ H τ S → p τ S t → ∃ v, rd σ H v ∧ Rep (gdOf X M) H S t v
  lock : ∀ {σ H v d o u}, H d = some u → isD u = true → rd σ H v → rd σ (upd H d (.frz o u)) v
section
variable {X : Cx} {e : Expr} {p : TEnv → Sto → T → Prop} {rd : L2.St → Hp → V → Prop} {i : Nat} {x f : Str} {q p' : Pos} {ok : Str → Bool}
end
section
variable {X : Cx} {e tg : Expr} {p : TEnv → Sto → T → Prop} {rd : L2.St → Hp → V → Prop} {apos cpos : Pos}
end
section
variable {X : Cx} {e tg : Expr} {body : List Stmt} {g : TTG} {t : TTS} {vs : List Nat} {pos : Pos} {q : Bool} {p : TEnv → Sto → T → Prop} {rd : L2.St → Hp → V → Prop}
end
section
variable {X : Cx} {e elt tg : Expr} {ifs : List Expr} {scope : Scope} {g : TTG} {tc : TTB} {te : TTE} {pos : Pos} {ow : List (Str × Nat)} {q : Bool} {p : TEnv → Sto → T → Prop} {rd : L2.St → Hp → V → Prop}
end
end TL
namespace TL
open PySem PySem.Spec PyProof.Rows
open L2 hiding putF
section
variable {κ : Type} {W : κ → Sto} {p : TEnv} {l : Cs} {β : Type} {pp : TEnv → Sto → T → Prop} {mo : Option T} {i : Nat} {x : T} {f c m : Str} {ok : Str → Bool} {q : Bool}
variable {o : TTE} {mx : PM κ T}
end
end TL
namespace TL
open PySem PySem.Spec PyProof.Rows
open L2 hiding putF
def hlt (p q : Int × Int) : Bool := decide (p.1 < q.1) || (decide (p.1 = q.1) && decide (p.2 < q.2))
section
variable {X : Cx} {pins : List (Addr × Obj)} {s : Shared} {σ : L2.St} {H : Hp} {S : Sto} {M : Addr → Prop}
end
section
variable {X : Cx}
end
end TL
namespace TL
open PySem PySem.Spec PyProof.Rows
open L2 hiding putF
inductive Tg where
  | self | folk | cd | pd
  | fam (f : List Nm)
  | ch (n : Nm)
  | pa (n : Nm)
  deriving DecidableEq
structure KS (S0 S : Sto) (D : Tg → Prop) (A : Tg → Addr) (C : Tg → Cell) : Prop where
  at_ : ∀ t, D t → S (A t) = some (C t)
  own : ∀ t, D t → S0 (A t) = none
  inj : ∀ t u, D t → D u → A t = A u → t = u
  base : ∀ b c, S0 b = some c → S b = some c
def updT {α : Type} (f : Tg → α) (t : Tg) (x : α) : Tg → α := fun u => if u = t then x else f u
theorem updT_same {α : Type} {f : Tg → α} {t : Tg} {x : α} : updT f t x t = x := if_pos rfl
theorem updT_ne {α : Type} {f : Tg → α} {t u : Tg} {x : α} (h : u ≠ t) : updT f t x u = f u := if_neg h
section
variable {S0 S : Sto} {D D' : Tg → Prop} {A A' : Tg → Addr} {C C' : Tg → Cell}
theorem KS.congr (k : KS S0 S D A C) (hD : ∀ t, D' t → D t) (hA : ∀ t, D' t → A' t = A t) (hC : ∀ t, D' t → C' t = C t) : KS S0 S D' A' C' :=
  ⟨fun t h => by rw [hA t h, hC t h]; exact k.at_ t (hD t h), fun t h => by rw [hA t h]; exact k.own t (hD t h), fun t u h1 h2 e => k.inj t u (hD t h1) (hD u h2) (by rw [← hA t h1, ← hA u h2]; exact e), k.base⟩
theorem KS.put {t : Tg} {c : Cell} (k : KS S0 S D A C) (h : D t) : KS S0 (ups S (A t) c) D A (updT C t c) := ⟨fun u hu => by
  by_cases e : u = t
  · rw [e, ups_same, updT_same]
  · rw [updT_ne e, ups_ne fun z => e (k.inj u t hu h z)]
    exact k.at_ u hu, k.own, k.inj, fun b d hb => by
  have : b ≠ A t := fun z => by rw [z, k.own t h] at hb; cases hb
  rw [ups_ne this]
  exact k.base b d hb⟩
theorem KS.new {t : Tg} {c : Cell} {p : Addr} (k : KS S0 S D A C) (n : S p = none) (h : ¬ D t) : KS S0 (ups S p c) (fun u => D u ∨ u = t) (updT A t p) (updT C t c) := by
  have ne : ∀ u, D u → A u ≠ p := fun u hu z => by
    have := k.at_ u hu
    rw [z, n] at this
    cases this
  have nt : ∀ u, D u → u ≠ t := fun u hu z => h (z ▸ hu)
  refine ⟨fun u hu => ?_, fun u hu => ?_, fun u v hu hv e => ?_, fun b d hb => ?_⟩
  · rcases hu with hu | rfl
    · rw [updT_ne (nt u hu), updT_ne (nt u hu), ups_ne (ne u hu)]
      exact k.at_ u hu
    · rw [updT_same, updT_same, ups_same]
  · rcases hu with hu | rfl
    · rw [updT_ne (nt u hu)]
      exact k.own u hu
    · rw [updT_same]
      cases q : S0 p with
      | none => rfl
      | some d =>
        have := k.base p d q
        rw [n] at this
        cases this
  · rcases hu with hu | rfl
    · rcases hv with hv | rfl
      · rw [updT_ne (nt u hu), updT_ne (nt v hv)] at e
        exact k.inj u v hu hv e
      · rw [updT_ne (nt u hu), updT_same] at e
        exact absurd e (ne u hu)
    · rcases hv with hv | rfl
      · rw [updT_ne (nt v hv), updT_same] at e
        exact absurd e.symm (ne v hv)
      · rfl
  · have : b ≠ p := fun z => by
      have := k.base b d hb
      rw [z, n] at this
      cases this
    rw [ups_ne this]
    exact k.base b d hb
theorem KS.sub (k : KS S0 S D A C) : Sub S0 S := k.base
end
/-- how far it came -/
structure Kst where
  ns : List Str
  vs : List T
  fo : Bool
  us : List (List Nm)
  cn : List Nm
  cd : Bool
  pn : List Nm
  pd : Bool
  LF : List Nm → List T
  LC : Nm → List T
  LP : Nm → List T
def Kst.D (k : Kst) : Tg → Prop
  | .self => True
  | .folk => k.fo = true
  | .cd => k.cd = true
  | .pd => k.pd = true
  | .fam f => f ∈ k.us
  | .ch n => n ∈ k.cn
  | .pa n => n ∈ k.pn
def Kst.C (nm : List Nm) (A : Tg → Addr) (k : Kst) : Tg → Cell
  | .self => .ins "Kin" k.ns k.vs
  | .folk => .dct (dnk (k.us.map famT)) (k.us.map famT) (k.us.map fun f => .ref (A (.fam f)))
  | .cd => .dct false (nm.map T.str) (nm.map fun n => .ref (A (.ch n)))
  | .pd => .dct false (nm.map T.str) (nm.map fun n => .ref (A (.pa n)))
  | .fam f => .lst (k.LF f)
  | .ch n => .lst (k.LC n)
  | .pa n => .lst (k.LP n)
abbrev KJ (S0 : Sto) (nm : List Nm) (A : Tg → Addr) (k : Kst) (S : Sto) : Prop := KS S0 S k.D A (k.C nm A)
section
variable {S0 S : Sto} {nm : List Nm} {A : Tg → Addr} {k : Kst}
theorem KJ.self (h : KJ S0 nm A k S) (ns : List Str) (vs : List T) : KJ S0 nm A { k with ns := ns, vs := vs } (ups S (A .self) (.ins "Kin" ns vs)) :=
  (KS.put (t := .self) h trivial).congr (fun t h => by cases t <;> exact h) (fun _ _ => rfl) fun t _ => by
    cases t <;> first | exact updT_same.symm | exact (updT_ne (by simp)).symm
theorem KJ.fam (h : KJ S0 nm A k S) {f : List Nm} (hf : f ∈ k.us) (x : List T) : KJ S0 nm A { k with LF := fun g => if g = f then x else k.LF g } (ups S (A (.fam f)) (.lst x)) :=
  (KS.put (t := .fam f) h hf).congr (fun t h => by cases t <;> exact h) (fun _ _ => rfl) fun t _ => by
    cases t with
    | fam g =>
      by_cases e : g = f
      · subst e
        rw [updT_same]
        show Cell.lst (if g = g then x else _) = _
        rw [if_pos rfl]
      · rw [updT_ne (fun z => e (by injection z))]
        show Cell.lst (if g = f then x else _) = _
        rw [if_neg e]
        rfl
    | _ => exact (updT_ne (by simp)).symm
theorem KJ.ch (h : KJ S0 nm A k S) {n : Nm} (hn : n ∈ k.cn) (x : List T) : KJ S0 nm A { k with LC := fun m => if m = n then x else k.LC m } (ups S (A (.ch n)) (.lst x)) :=
  (KS.put (t := .ch n) h hn).congr (fun t h => by cases t <;> exact h) (fun _ _ => rfl) fun t _ => by
    cases t with
    | ch m =>
      by_cases e : m = n
      · subst e
        rw [updT_same]
        show Cell.lst (if m = m then x else _) = _
        rw [if_pos rfl]
      · rw [updT_ne (fun z => e (by injection z))]
        show Cell.lst (if m = n then x else _) = _
        rw [if_neg e]
        rfl
    | _ => exact (updT_ne (by simp)).symm
theorem KJ.pa (h : KJ S0 nm A k S) {n : Nm} (hn : n ∈ k.pn) (x : List T) : KJ S0 nm A { k with LP := fun m => if m = n then x else k.LP m } (ups S (A (.pa n)) (.lst x)) :=
  (KS.put (t := .pa n) h hn).congr (fun t h => by cases t <;> exact h) (fun _ _ => rfl) fun t _ => by
    cases t with
    | pa m =>
      by_cases e : m = n
      · subst e
        rw [updT_same]
        show Cell.lst (if m = m then x else _) = _
        rw [if_pos rfl]
      · rw [updT_ne (fun z => e (by injection z))]
        show Cell.lst (if m = n then x else _) = _
        rw [if_neg e]
        rfl
    | _ => exact (updT_ne (by simp)).symm
end
end TL
namespace TL
open PySem PySem.Spec PyProof.Rows
open L2 hiding putF
def fkey (f : List Nm) : NestedKey := .tup (f.map fun n => .text (txt n))
theorem keysOf_strs : ∀ f : List Nm, keysOf (f.map T.str) = some (f.map fun n => .text (txt n))
  | [] => rfl
  | n :: f => by
    rw [List.map_cons, List.map_cons]
    unfold keysOf
    rw [keysOf_strs f]
    rfl
theorem keyOf_fam (f : List Nm) : keyOf (famT f) = some (fkey f) := by
  show (keysOf (f.map T.str)).map NestedKey.tup = _
  rw [keysOf_strs]
  rfl
def nsK : List Str := ["book", "rows", "folk", "child_in", "parent_in"]
open Classical in
def TV (p : Addr) (b : T) (τ : TEnv) : Prop := τ.length = 5 ∧ τ[0]? = some (some (.ref p)) ∧ τ[1]? = some (some b)
theorem TV.set {p : Addr} {b : T} {τ : TEnv} {i : Nat} {x : Option T} (h : TV p b τ) (hi : 2 ≤ i) : TV p b (τ.set i x) :=
  ⟨by rw [List.length_set]; exact h.1, by rw [List.getElem?_set_ne (by omega)]; exact h.2.1, by rw [List.getElem?_set_ne (by omega)]; exact h.2.2⟩
theorem TV.at_ {p : Addr} {b : T} {τ : TEnv} {i : Nat} {x : Option T} (h : TV p b τ) (hi : i < 5) : (τ.set i x)[i]? = some x := List.getElem?_set_self (by rw [h.1]; exact hi)
section
variable {S0 : Sto} {p : Addr} {B : Bk} {ok : Str → Bool} {D : TD} {E : T → TEnv → Sto → Prop} {A : Tg → Addr} {k : Kst} {S : Sto} {τ : TEnv} {nm : List Nm}
end
def k0 : Kst := ⟨[], [], false, [], [], false, [], false, fun f => f.map T.str, fun _ => [], fun _ => []⟩
end TL
namespace L2
open PySem PySem.Spec PyProof.Rows
section
variable {X : Cx} {o e : Expr} {es : List Expr} {to : TE} {t : TA} {name : Str} {apos cpos : Pos} {id : String} {r : V → List V → Hp → VK → Prop}
end
end L2
namespace TL
open PySem PySem.Spec PyProof.Rows
open L2 hiding putF
section
variable {X : Cx} {o e : Expr} {to te : TTE} {apos cpos : Pos}
end
section
variable {X : Cx} {e elt tg : Expr} {ifs : List Expr} {scope : Scope} {g : TTG} {tc : TTB} {te : TTE} {pos apos cpos : Pos} {ow : List (Str × Nat)} {p : TEnv → Sto → T → Prop} {rd : L2.St → Hp → V → Prop} {body : List Stmt} {t : TTS} {vs : List Nat}
end
section
variable {X : Cx}
end
end TL
namespace TL
open PySem PySem.Spec PyProof.Rows L2
section
variable {X : Cx} {e ls ks : Expr} {te tl tk : L2.TE} {p3 pos : Pos}
end
section
variable {κ : Type} {W : κ → Sto} {p : TEnv} {l : Cs} {a b c : TTE} {ma mb mc : PM κ T}
end
end TL
namespace TL
open PySem PySem.Spec PyProof.Rows L2
section
variable {X : Cx} {c : Str} {C : Addr} {fs : List Str} {e : Expr} {es : List Expr} {p pos : Pos} {j : Nat}
variable {ta : TTA}
end
section
variable {κ : Type} {W : κ → Sto} {p : TEnv} {l : Cs}
end
end TL
namespace TL
open PySem PySem.Spec PyProof.Rows L2
variable {X : Cx}
end TL
namespace TL
open PySem PySem.Spec PyProof.Rows L2
end TL
namespace TL
open PySem PySem.Spec PyProof.Rows L2
variable {X : Cx} {e : Expr} {te : TTE} {p p2 pos pos2 : Pos}
end TL
namespace TL
open PySem PySem.Spec PyProof.Rows L2
section
variable {κ : Type} {W : κ → Sto} {p : TEnv} {l : Cs} {β : Type} {u : TTS} {post : β → Dest}
end
end TL
namespace TL
open PySem PySem.Spec PyProof.Rows L2
theorem te_v {X : Cx} {i : Nat} {x : Str} {p : Pos} (h : X.N[i]? = some x := by rfl) (hv : Vis X.env.scope x := by exact .inl rfl) (hd : (x == ("__debug__" : Str)) = false := by decide) (hc : (x == ("__classdict__" : Str)) = false := by decide) : TE X (.Name x p) (cVar i) := te_var h hv hd hc
/-- what a def's body reads as, at all calls -/
abbrev HB (P : Program) (w : World) (K : PySem.W.Frag) (mg : Str → Option Value) (base : Heap) (n : Nat) (N : List Str) (nm : Str) (d : Stmt) (c : TTS) : Prop := ∀ (cdv : Value) (A : Around) (outer : List Env) (s : Shared) (H : Hp) (E : XK), Room n (A.deeper (envOfC nm (defScope d) s.heap.objs.size (He.ga K nm) cdv)) → TSs (cxOf (L2N.CX P w) P w K mg base N nm (defScope d) (He.ga K nm) cdv A outer s H E) (defBody d) c
end TL
namespace TL
open PySem PySem.Spec PyProof.Rows
open L2 hiding putF
section
variable {κ : Type} {W : κ → Sto → Prop} {p : TEnv} {l : List (Addr × Cell)} {a b : TTE} {ma mb : PM κ T}
end
end TL
namespace TL
open PySem PySem.Spec PyProof.Rows
open L2 hiding putF
section
variable {X : Cx} {a b o : Expr} {ta tb to : TTE} {j k : Nat} {p c0 c1 apos pos : Pos}
end
section
variable {κ : Type} {W : κ → Sto} {p : TEnv} {l : Cs} {a b : TTE} {ma mb : PM κ T}
end
end TL
namespace TL
open PySem PySem.Spec PyProof.Rows L2
/-- a zip from which i pairs are gone, the last one out -/
def ZpAt (b1 b2 : Bool) (z TI TO i1 i2 l1 l2 d : Addr) (xs ys : Array Value) (i : Nat) (h : Heap) : Prop :=
  IsTupOf2 h TI (.ref i1) (.ref i2) ∧ (ItB b1 h i1 l1 i ∧ SeB b1 h l1 xs) ∧ (ItB b2 h i2 l2 i ∧ SeB b2 h l2 ys) ∧
    ((IsZip h z TI TO .none ∧ ∃ a b, IsTupOf2 h TO a b) ∨ ∃ T f oT, IsZipHeld h z TI TO T f ∧ h.get? T = some oT ∧ T ≠ z ∧ T ≠ i1 ∧ T ≠ i2 ∧ T ≠ d)
/-- the pairs that were collected -/
structure Prs (h : Heap) (N0 : Nat) (acc : Array Value) (n : Nat) (xs ys : Array Value) (as : List Addr) : Prop where
  len : as.length = n
  ref : acc.toList = as.map Value.ref
  at_ : ∀ (j : Nat) a, as[j]? = some a → N0 ≤ a ∧ a < h.objs.size ∧ ∃ x y, xs[j]? = some x ∧ ys[j]? = some y ∧ IsTupOf2 h a x y
  nd : as.Pairwise (· < ·)
section
variable {prog : Program} {w : World} {A : Around} {R : Result → Shared → Prop} {b1 b2 : Bool} {z TI TO i1 i2 l1 l2 d : Addr} {xs ys : Array Value} {res : Value} {N0 : Nat}
theorem ZpAt.keep {h h' : Heap} {i : Nat} (st : ZpAt b1 b2 z TI TO i1 i2 l1 l2 d xs ys i h) (hd : ∀ b ∈ [z, TI, TO, i1, i2, l1, l2], b ≠ d) (k : ∀ b o, b ≠ d → h.get? b = some o → h'.get? b = some o) : ZpAt b1 b2 z TI TO i1 i2 l1 l2 d xs ys i h' := by
  obtain ⟨hTI, ⟨h1, p1⟩, ⟨h2, p2⟩, hz⟩ := st
  have q : ∀ b ∈ [z, TI, TO, i1, i2, l1, l2], ∀ o, h.get? b = some o → h'.get? b = some o := fun b hb o e => k b o (hd b hb) e
  refine ⟨q TI (by simp) _ hTI, ⟨h1.at fun o e => q i1 (by simp) o e, p1.at fun o e => q l1 (by simp) o e⟩, ⟨h2.at fun o e => q i2 (by simp) o e, p2.at fun o e => q l2 (by simp) o e⟩, ?_⟩
  rcases hz with ⟨hz, a, b, hTO⟩ | ⟨T, f, oT, hz, hT, r1, r2, r3, r4⟩
  · exact .inl ⟨q z (by simp) _ hz, a, b, q TO (by simp) _ hTO⟩
  · exact .inr ⟨T, f, oT, q z (by simp) _ hz, k T _ r4 hT, r1, r2, r3, r4⟩
theorem Prs.keep {h h' : Heap} {acc : Array Value} {n : Nat} {as : List Addr} (p : Prs h N0 acc n xs ys as) (k : ∀ b o, N0 ≤ b → h.get? b = some o → h'.get? b = some o) : Prs h' N0 acc n xs ys as :=
  ⟨p.len, p.ref, fun j a e => let ⟨q1, q2, x, y, q3, q4, q5⟩ := p.at_ j a e; ⟨q1, Heap.lt_size (k a _ q1 q5), x, y, q3, q4, k a _ q1 q5⟩, p.nd⟩
theorem Prs.more {h h' : Heap} {acc : Array Value} {n : Nat} {as : List Addr} {T : Addr} {x y : Value} (p : Prs h N0 acc n xs ys as) (hT : T = h.objs.size) (h0 : N0 ≤ T) (k : ∀ b o, N0 ≤ b → h.get? b = some o → h'.get? b = some o) (ex : xs[n]? = some x) (ey : ys[n]? = some y) (t : IsTupOf2 h' T x y) : Prs h' N0 (acc.push (.ref T)) (n + 1) xs ys (as ++ [T]) := by
  have q := p.keep k
  have ll := p.len
  refine ⟨by rw [List.length_append, ll]; rfl, by rw [Array.toList_push, p.ref, List.map_append]; rfl, fun j a e => ?_, ?_⟩
  · by_cases hj : j < as.length
    · rw [List.getElem?_append_left hj] at e
      exact q.at_ j a e
    · rw [List.getElem?_append_right (by omega)] at e
      have e0 : j - as.length = 0 := by
        have := (List.getElem?_eq_some_iff.mp e).1
        rw [List.length_singleton] at this
        omega
      rw [e0] at e
      obtain rfl : T = a := by simpa using e
      have ej : j = n := by omega
      subst ej
      exact ⟨h0, Heap.lt_size t, x, y, ex, ey, t⟩
  · refine List.pairwise_append.mpr ⟨p.nd, List.pairwise_singleton _ _, fun a ha b hb => ?_⟩
    rw [List.mem_singleton.mp hb, hT]
    obtain ⟨j, hj⟩ := List.mem_iff_getElem?.mp ha
    exact (p.at_ j a hj).2.1
end
section
variable {X : Cx} {pins : List (Addr × Obj)} {s : Shared} {σ : L2.St} {H : Hp} {N0 : Nat}
end
section
variable {X : Cx} {e e2 : Expr} {p p2 pos pos2 : Pos}
end
end TL
namespace TL
open PySem PySem.Spec PyProof.Rows L2
section
variable {X : Cx} {o e : Expr} {to te : TTE} {apos cpos : Pos}
end
end TL
namespace TL
open PySem PySem.Spec PyProof.Rows L2
section
variable {X : Cx} {pins : List (Addr × Obj)} {σ : L2.St} {H : Hp} {s : Shared} {d : ND} {cl : List (Str × Addr)} {ok : Addr → Prop}
/-- a function just made is known from now on -/
theorem inv_fnc {c : Addr} {doc pm ctv : Value} {t' : Nat} (I : Inv X pins σ H s) : Inv X pins σ (upd H s.heap.objs.size (FnC s.heap.objs.size d cl c)) { s with heap := s.heap.push { cls := .type "function", data := .func (d.fd cl c doc pm ctv) }, toks := t' } := by
  have z : (s.heap.push ({ cls := .type "function", data := .func (d.fd cl c doc pm ctv) } : Obj)).get? s.heap.objs.size = some ({ cls := .type "function", data := .func (d.fd cl c doc pm ctv) } : Obj) := Heap.get?_push_size _ rfl
  exact I.laid (fun b u e => Heap.get?_push_of_some _ e) (Nat.le_refl _) ⟨⟨none, #[], doc, pm, ctv, z⟩, ⟨_, z⟩, fun h1 h2 ⟨od, sl, x, y, v, w⟩ st => ⟨od, sl, x, y, v, st _ w⟩⟩
/-- a table of code objects of the name q, as it lies -/
def TabC (H : Hp) (P : Addr) (q : Str) (ps : Array Value) (ok : Addr → Prop) : Prop := H P = some (.tbl ps) ∧ TriplesOk ps.toList ∧ ∀ (pos : Pos) (cv : Value), codeAmong pos ps.toList = some cv → ∃ c, cv = .ref c ∧ Rd H c (LamX.CodeO c q) ∧ ok c
theorem Rd.put {H : Hp} {a b : Addr} {u o : HO} (n : a ≠ b) (h : Rd H a u) : Rd (L2.upd H b o) a u := h.imp (fun z => (upd_ne n).trans z) fun ⟨w, z⟩ => ⟨w, (upd_ne n).trans z⟩
/-- what stands where the function was made -/
structure Made (H : Hp) (P : Addr) (d : ND) (cl : List (Str × Addr)) (ok : Addr → Prop) (f c : Addr) (H1 : Hp) : Prop where
  tab : ∃ ps, TabC H1 P d.qual ps fun c => H c = none ∨ ok c
  keep : ∀ b, b ≠ P → ∀ u, H b = some u → H1 b = some u
  new : H f = none
  fn : H1 f = some (FnC f d cl c)
  code : Rd H1 c (LamX.CodeO c d.qual)
  cold : H c = none ∨ ok c
  fp : f ≠ P
  cp : c ≠ P
theorem clo_hit {P : Addr} {ps : Array Value} {c : Addr} {doc ctv pm : Value} {h' : Heap} {tk : Nat} {Q : Value → Shared → Prop} (I : Inv X pins σ H s) (tb : TabC H P d.qual ps ok) (hc : Rd H c (LamX.CodeO c d.qual)) (hk : ok c) (hx : ∀ b o, s.heap.get? b = some o → h'.get? b = some o)
    (h : ∀ (f c : Addr) (H1 : Hp) (s' : Shared), Inv X pins σ H1 s' → Made H P d cl ok f c H1 → Q (.ref f) s') : Q (.ref h'.objs.size) { s with heap := h'.push { cls := .type "function", data := .func (d.fd cl c doc pm ctv) }, toks := tk } := by
  have J : Inv X pins σ H { s with heap := h', toks := tk } := I.kept hx
  have nf : H h'.objs.size = none := J.hok.fresh (Nat.le_refl _)
  have up : ∀ {b u}, H b = some u → L2.upd H h'.objs.size (FnC h'.objs.size d cl c) b = some u := fun {b u} z => (upd_ne (ne_of_none z nf)).trans z
  have upR : ∀ {b u}, Rd H b u → Rd (L2.upd H h'.objs.size (FnC h'.objs.size d cl c)) b u := fun {b u} z => z.imp up fun ⟨o, z⟩ => ⟨o, up z⟩
  refine h _ c _ _ (inv_fnc (t' := tk) (doc := doc) (pm := pm) (ctv := ctv) J) ⟨⟨ps, up tb.1, tb.2.1, fun pos cv z => let ⟨c2, e, r, y⟩ := tb.2.2 pos cv z; ⟨c2, e, upR r, .inr y⟩⟩, fun b _ u z => up z, nf, upd_same, upR hc, .inr hk, fun z => ?_, fun z => ?_⟩
  · rw [z, tb.1] at nf
    cases nf
  · rw [z] at hc
    rcases hc with q | ⟨_, q⟩ <;> rw [tb.1] at q <;> cases q
theorem clo_new {P : Addr} {ps : Array Value} {c : Addr} {doc ctv pm : Value} {h' : Heap} {tk : Nat} {pos : Pos} {Q : Value → Shared → Prop} (I : Inv X pins σ H s) (tb : TabC H P d.qual ps ok) (hx : Heap.ExtBut P s.heap h') (hge : s.heap.objs.size ≤ c) (hlt : c < h'.objs.size)
    (hr : h'.CodeRec (.ref c) d.qual) (hP : h'.get? P = some { cls := .none, data := .fields (ps ++ #[rawInt pos.line, rawInt pos.col, .ref c]) })
    (h : ∀ (f c : Addr) (H1 : Hp) (s' : Shared), Inv X pins σ H1 s' → Made H P d cl ok f c H1 → Q (.ref f) s') : Q (.ref h'.objs.size) { s with heap := h'.push { cls := .type "function", data := .func (d.fd cl c doc pm ctv) }, toks := tk } := by
  obtain ⟨c2, oc, vs, t, e2, r1, r2, r3⟩ := hr
  cases e2
  have nc : H c = none := I.hok.fresh hge
  have pc : P ≠ c := ne_of_none tb.1 nc
  have J := LamX.inv_table (t' := tk) (q := d.qual) I tb.1 (fun b o n e => hx b o n e) hP hge ⟨oc, vs, t, r1, r2, r3⟩
  generalize hH : L2.upd (L2.upd H P (.tbl (ps ++ #[rawInt pos.line, rawInt pos.col, .ref c]))) c (LamX.CodeO c d.qual) = H1 at J
  have atP : H1 P = some (.tbl (ps ++ #[rawInt pos.line, rawInt pos.col, .ref c])) := by rw [← hH, upd_ne pc, upd_same]
  have atc : H1 c = some (LamX.CodeO c d.qual) := by rw [← hH, upd_same]
  have k1 : ∀ {b u}, b ≠ P → H b = some u → H1 b = some u := fun {b u} n z => by rw [← hH, upd_ne (ne_of_none z nc), upd_ne n]; exact z
  have kR : ∀ {b u}, (∀ x, u ≠ .tbl x) → Rd H b u → Rd H1 b u := fun {b u} n z => by
    have np : b ≠ P := fun e => by
      rw [e] at z
      rcases z with z | ⟨o, z⟩
      · exact n _ (Option.some.inj (z.symm.trans tb.1))
      · rw [tb.1] at z
        cases z
    exact z.imp (k1 np) fun ⟨o, z⟩ => ⟨o, k1 np z⟩
  have nf : H1 h'.objs.size = none := J.hok.fresh (Nat.le_refl _)
  have up : ∀ {b u}, H1 b = some u → L2.upd H1 h'.objs.size (FnC h'.objs.size d cl c) b = some u := fun {b u} z => (upd_ne (ne_of_none z nf)).trans z
  have upR : ∀ {b u}, Rd H1 b u → Rd (L2.upd H1 h'.objs.size (FnC h'.objs.size d cl c)) b u := fun {b u} z => z.imp up fun ⟨o, z⟩ => ⟨o, up z⟩
  refine h _ c _ _ (inv_fnc (t' := tk) (doc := doc) (pm := pm) (ctv := ctv) J) ⟨⟨_, up atP, ?_, fun p2 cv z => ?_⟩, fun b n u z => up (k1 n z), I.hok.fresh (Nat.le_trans hge (Nat.le_of_lt hlt)), upd_same, upR (.inl atc), .inl nc, fun z => ?_, fun z => pc z.symm⟩
  · rw [Array.toList_append]
    exact PySem.TriplesOk_snoc _ _ _ _ tb.2.1
  · rw [Array.toList_append] at z
    rcases LamX.among_app _ tb.2.1 z with y | y
    · obtain ⟨c2, e, r, y2⟩ := tb.2.2 p2 cv y
      exact ⟨c2, e, upR (kR (fun x => LamX.codeO_ne x) r), .inr y2⟩
    · exact ⟨c, y, upR (.inl atc), .inl nc⟩
  · rw [z, atP] at nf
    cases nf
/-- THE RULE: the object of a def or a lambda within X is made -/
theorem clo_make {pos : Pos} {c0 P : Addr} {ps : Array Value} {Q E : Value → Shared → Prop} (I : Inv X pins σ H s) (TB : LamX.TabB X.base X.mg c0 P) (hcode : X.env.code = .ref c0) (hfree : ∀ y ∈ d.scope.names, y.2 = .free → ∃ c, X.env.cells.lookup y.1 = some c) (tb : TabC H P d.qual ps ok)
    (h : ∀ (f c : Addr) (H1 : Hp) (s' : Shared), Inv X pins σ H1 s' → Made H P d (cloFrom X.env.cells d.scope.names []) ok f c H1 → Q (.ref f) s') :
    wpAny (model X.prog X.w) X.A (makeFunction d.name d.qual d.params d.code d.scope X.env [] [] [] pos pos.line) Q E s := by
  have bP : s.heap.BuiltinsAt X.mg P := TB.bm.keeps I.bk
  have tP : s.heap.get? P = some { cls := .none, data := .fields ps } := I.hok P _ tb.1
  have cl0 := closure_ok hfree
  have gl := I.mod.glob.keeps I.bk
  have co := TB.code.keeps I.bk
  obtain ⟨nm, ql, pa, bo, ex, sc⟩ := d
  cases hc : codeAmong pos ps.toList with
  | none =>
    cases ex with
    | none => exact PySem.W.makeFunction_K (mg := X.mg) (c := c0) cl0 I.ok.glob gl hcode co tP tb.2.1 hc TB.gP bP fun c ctv doc h' tk hx hge hlt hr ht => clo_new (d := ⟨nm, ql, pa, bo, none, sc⟩) I tb hx hge hlt hr ht h
    | some e => exact PySem.W.kla_makeFunction (mg := X.mg) (c := c0) cl0 I.ok.glob gl hcode co tP tb.2.1 hc TB.gP bP fun c ctv h' tk hx hge hlt hr ht => clo_new (d := ⟨nm, ql, pa, bo, some e, sc⟩) I tb hx hge hlt hr ht h
  | some cv =>
    obtain ⟨c, rfl, hr, hk⟩ := tb.2.2 pos cv hc
    cases ex with
    | none => exact PySem.W.makeFunction_hit (mg := X.mg) (c := c0) cl0 I.ok.glob gl hcode co tP tb.2.1 hc bP fun ctv doc h' tk hx _ => clo_hit (d := ⟨nm, ql, pa, bo, none, sc⟩) I tb hr hk hx h
    | some e => exact PySem.W.kla_makeFunctionHit (mg := X.mg) (c := c0) cl0 I.ok.glob gl hcode co tP tb.2.1 hc bP fun ctv h' tk hx _ => clo_hit (d := ⟨nm, ql, pa, bo, some e, sc⟩) I tb hr hk hx h
end
end TL
namespace TL
open PySem PySem.Spec PyProof.Rows L2
abbrev CellsOf (cl : List (Str × Addr)) (fr : List Str) (ws : List V) (h : Heap) (H : Hp) : Prop := NdefX.CellsAt cl fr (ws.map some) h H
/-- known in the frame X from its beginning on: the captured cells hold ws -/
structure Cap (X : Cx) (cl : List (Str × Addr)) (fr : List Str) (ws : List V) : Prop where
  at_ : CellsOf cl fr ws X.s_0.heap X.H_0
  nf : ∀ y c, cl.lookup y = some c → c ∉ X.fs
  nx : ∀ y c, cl.lookup y = some c → c ∉ X.ex
section
variable {X : Cx} {pins : List (Addr × Obj)} {σ : L2.St} {H : Hp} {s : Shared} {d : ND} {cl : List (Str × Addr)} {fr : List Str} {ws : List V}
theorem Cap.now (C : Cap X cl fr ws) (I : Inv X pins σ H s) : CellsOf cl fr ws s.heap H := NdefX.CellsAt.later C.at_ C.nf C.nx I
/-- the function's object -/
theorem fnc_at {P : Program} {w : World} {h : Heap} {f c : Addr} (hok : HOk P w H h) (e : Rd H f (FnC f d cl c)) : ∃ (od : Option Addr) (sl : Array (Option Value)) (doc pm ctv : Value), h.get? f = some (⟨.type "function", od, .func (d.fd cl c doc pm ctv), sl⟩ : Obj) := by
  rcases e with z | ⟨o, z⟩
  · exact (hok f _ z).1
  · exact (hok f _ z).2.1
theorem fnc_rec {P : Program} {w : World} {h : Heap} {c : Addr} {q : Str} (hok : HOk P w H h) (e : Rd H c (LamX.CodeO c q)) : h.CodeRec (.ref c) q := by
  have go : ObjOk P w H h c (LamX.CodeO c q) := by
    rcases e with z | ⟨o, z⟩
    · exact hok c _ z
    · exact (hok c _ z).2
  obtain ⟨⟨oc, vs, t, e1, e2, e3⟩, _⟩ := go
  exact ⟨c, oc, vs, t, rfl, e1, e2, e3⟩
theorem fnc_fn {f c : Addr} (I : Inv X pins σ H s) (e : Rd H f (FnC f d cl c)) : PySem.W.FnAt f s.heap := by
  obtain ⟨od, sl, doc, pm, ctv, ho⟩ := fnc_at I.hok e
  exact ⟨_, od, _, sl, ho⟩
abbrev ND.nf (d : ND) (cl : List (Str × Addr)) (c : Addr) : NdefX.NF := ⟨d.name, d.qual, d.params, d.body, d.scope, cl, c⟩
structure FnN (P : Program) (w : World) (K : PySem.W.Frag) (mg : Str → Option Value) (base : Heap) (k : Nat) (d : ND) (ps fr : List Str) (sp : List T → SpT) : Prop where
  len : ∀ wts ts S Q E, sp wts ts S Q E → ts.length = ps.length
  run : ∀ (A : Around) (outer : List Env) (s : Shared) (H : Hp) (f c : Addr) (cl : List (Str × Addr)) (us : List Value) (vs ws : List V) (M : Addr → Prop) (wts ts : List T) (S : Sto) (Qt Et : T → Sto → Prop) (Q : VK) (E : XK), Room k A → Env0 P w K mg base A outer s H →
    Rd H f (FnC f d cl c) → Rd H c (LamX.CodeO c d.qual) → CellsOf cl fr ws s.heap H → Vals vs us → Reps ⟨P, K, w, M⟩ H S wts ws → Reps ⟨P, K, w, M⟩ H S ts vs → StoOk ⟨P, K, w, M⟩ H S → sp wts ts S Qt Et →
    (∀ z S' v H', Qt z S' → StoOk ⟨P, K, w, M⟩ H' S' → Ext S H S' H' → Rep ⟨P, K, w, M⟩ H' S' z v → Q v H') → (∀ x S' cls d H', Et x S' → StoOk ⟨P, K, w, M⟩ H' S' → Ext S H S' H' → ExcIs ⟨P, K, w, M⟩ H' S' x cls d → E cls d H') →
    codeAny (model P w) A (.call (.ref f) ⟨us, []⟩) (CR (L2N.CX P w) outer P w H s Q E) s
/-- the slots at its entry: the parameters, what it captured -/
def startN (N : List Str) (wts ts : List T) : TEnv := ts.map some ++ (wts.map some ++ List.replicate (N.length - ts.length - wts.length) none)
theorem startN_env {G : Gd} {S : Sto} {N : List Str} {wts ts : List T} {vs : List V} (rw_ : Reps G H S wts ws) (rt : Reps G H S ts vs) : EnvR G H S (NdefX.startF N vs (ws.map some)) (startN N wts ts) := by
  have l1 := rw_.length
  have l2 := rt.length
  have app : ∀ {xs : List (Option V)} {ts2 : List T} {v2 : List V} {rest : List (Option T)}, Reps G H S ts2 v2 → EnvR G H S xs rest → EnvR G H S (v2.map some ++ xs) (ts2.map some ++ rest) := fun {xs ts2 v2 rest} r h => by
    have l := r.length
    refine ⟨by simp [l, h.1], fun i t e => ?_⟩
    by_cases hi : i < ts2.length
    · rw [List.getElem?_append_left (by simpa using hi), List.getElem?_map] at e
      cases q : ts2[i]? with
      | none => rw [q] at e; cases e
      | some z =>
        rw [q] at e
        cases e
        obtain ⟨v, h1, h2⟩ := r.get q
        exact ⟨v, by rw [List.getElem?_append_left (by simp; omega), List.getElem?_map, h1]; rfl, h2⟩
    · rw [List.getElem?_append_right (by simpa using hi), List.length_map] at e
      obtain ⟨v, h1, h2⟩ := h.2 _ t e
      exact ⟨v, by rw [List.getElem?_append_right (by simp; omega), List.length_map, ← l]; exact h1, h2⟩
  refine app rt (app rw_ ⟨by simp [l1, l2], fun i t e => ?_⟩)
  rw [List.getElem?_replicate] at e
  split at e <;> cases e
section
variable {P : Program} {w : World} {K : PySem.W.Frag} {mg : Str → Option Value} {base : Heap} {N ps : List Str} {k : Nat} {sp : List T → SpT} {cc : TTS} {ce : TTE}
abbrev cxN (P : Program) (w : World) (K : PySem.W.Frag) (mg : Str → Option Value) (base : Heap) (N : List Str) (d : ND) (cl : List (Str × Addr)) (c f : Addr) (A : Around) (outer : List Env) (s : Shared) (H : Hp) (E : XK) : Cx := NdefX.ncx (L2N.CX P w) P w K mg base N (d.nf cl c) f A outer s H E
/-- THE RULE for such a def: its body -/
theorem fnN_def (hx : d.ex = none) (Sc : NdefX.NScope N ps fr d.scope) (hb : ∀ (cl : List (Str × Addr)) (c : Addr) (doc pm ctv : Value) (us : List Value), us.length = ps.length → bindArgs (d.fd cl c doc pm ctv) ⟨us, []⟩ = pure (ps.zip us)) (len : ∀ wts ts S Q E, sp wts ts S Q E → ts.length = ps.length)
    (hbody : ∀ (cl : List (Str × Addr)) (c f : Addr) (A : Around) (outer : List Env) (s : Shared) (H : Hp) (E : XK), Room k (A.deeper (NdefX.envF (d.nf cl c) f s.heap.objs.size)) → TSs (cxN P w K mg base N d cl c f A outer s H E) d.body cc)
    (vc : ∀ wts ts S Q E, sp wts ts S Q E → cc { nx := fun _ S' => Fin Q .non S', rt := Fin Q } (startN N wts ts) S (fun x _ S' => FinX E x S')) : FnN P w K mg base (k + 1) d ps fr sp := by
  refine ⟨len, fun A outer s H f c cl us vs ws M wts ts S Qt Et Q E hr e0 hf hc C rv rw_ rt o q hQ hE => ?_⟩
  have hl : vs.length = ps.length := rt.length.symm.trans (len _ _ _ _ _ q)
  obtain ⟨od, sl, doc, pm, ctv, ho⟩ := fnc_at e0.hok hf
  have kept : ∀ {h1 : Heap} {w1 : Obj} {b : Addr} {u : Obj}, Heap.SameBut s.heap.objs.size (s.heap.push w1) h1 → s.heap.get? b = some u → h1.get? b = some u := fun {h1 w1 b u} sb e => sb.extBut b u (Nat.ne_of_lt (Heap.lt_size e)) (Heap.get?_push_of_some _ e)
  refine codeAny_call_function hr.depth ho rfl Sc.co Sc.gen (by show d.code = _; unfold ND.code; rw [hx]) (fnc_rec e0.hok hc) ?_
  rw [hb cl c doc pm ctv us (by rw [← rv.length]; exact hl)]
  refine wpAny_pure (wpAny_newFunctionEnv Sc.nocell (fun y hy => Sc.par y.1 (List.of_mem_zip (a := y.1) (b := y.2) hy).1) (fun h1 hns hsb => ⟨(e0.mod.nolimit.keeps fun b u e => (e0.bs b u e).1).fresh _ hsb, codeAny_func ?_⟩) Sc.kind)
  have tk : Takes (cxN P w K mg base N d cl c f A outer s H E) (wOf (cxN P w K mg base N d cl c f A outer s H E) M S H fun x _ S' => FinX Et x S') :=
    Takes.imp (L2N.takes_of rfl rfl rfl rfl) fun cls d2 σ H' ⟨τ, S', x, rel, hx, S2, k2, h2⟩ => hE x S2 cls d2 H' h2 (rel.sto.drop k2) (rel.ext.trans k2.ext) (hx.ext k2.ext)
  have J := NdefX.inv_startN (CX := L2N.CX P w) (F := d.nf cl c) (f := f) (E := E) (tk := s.toks + (ps.zip us).length) Sc hr.hd e0 hl rv C hns fun b u e => kept hsb e
  have done := (hbody cl c f A outer s H E (hr.deeper _) M S H _ tk).run [] _ _ H { nx := fun _ H' => Q .non H', rt := Q } J ⟨startN N wts ts, S, _, ⟨startN_env rw_ rt, o, Ext.refl⟩, vc _ _ _ _ _ q,
    fun σ' H' τ' S' rel x' ⟨S2, u, k2, fz, q2⟩ => hQ u S2 .non H' q2 (rel.sto.drop k2) (x'.trans k2.ext) (Fz.rep rel.sto k2 fz .non), fun z S' v H' o2 x' r2 ⟨S2, u, k2, fz, q2⟩ => hQ u S2 v H' q2 (o2.drop k2) (x'.trans k2.ext) (Fz.rep o2 k2 fz r2), fun _ _ _ _ _ _ z => z.elim, fun _ _ _ _ _ _ z => z.elim⟩
  refine wpAny_mono done (fun fl s' hs => ?_) fun _ _ hs => hs
  cases fl with
  | ret u => exact let ⟨v, _, H', J', r', q'⟩ := hs; ⟨v, H', J'.os, J'.bare, J'.base, J'.hok, r', q'⟩
  | next => exact let ⟨_, H', J', q'⟩ := hs; ⟨.non, H', J'.os, J'.bare, J'.base, J'.hok, rfl, q'⟩
  | brk => exact let ⟨_, _, _, q'⟩ := hs; q'.elim
  | cont => exact let ⟨_, _, _, q'⟩ := hs; q'.elim
end
/-- x(..), the slot i holds such a function, what it captured is known from the frame's beginning -/
def cClo (i : Nat) (d : ND) (cl : List (Str × Addr)) (c : Addr) (ws : List V) (sp : List T → SpT) (a : TTA) : TTE := fun τ S Q E => ∃ wts, τ[i]? = some (some (.clo d cl c ws wts)) ∧ a τ S (fun ts S1 => sp wts ts S1 Q E) E
section
variable {i j k : Nat} {c : Addr} {ps : List Str} {sp : List T → SpT} {x : Str} {p pos : Pos} {e : Expr} {es : List Expr} {ta : TTA}
theorem clo_run {M : Addr → Prop} {S0 S : Sto} {H0 : Hp} {E : T → TEnv → Sto → Prop} {τ : TEnv} {f : Addr} {us : List Value} {vs : List V} {wts ts : List T} {Qt : T → Sto → Prop} {Q : VK} (F : FnN X.prog X.w X.K X.mg X.base k d ps fr sp) (hr : Room k X.A) (C : CellsOf cl fr ws s.heap H) (tk : Takes X (wOf X M S0 H0 E)) (I : Inv X pins σ H s)
    (rel : Rel (gdOf X M) S0 H0 σ H τ S) (rf : Rep (gdOf X M) H S (.clo d cl c ws wts) (.ref f)) (rv : Vals vs us) (rt : Reps (gdOf X M) H S ts vs) (q : sp wts ts S Qt fun x S' => E x τ S') (fin : ∀ z S' v H', Qt z S' → StoOk (gdOf X M) H' S' → Ext S H S' H' → Rep (gdOf X M) H' S' z v → Q v H') :
    wpAny (model X.prog X.w) X.A (call (.ref f) us) (EP X pins σ Q) X.xe s := by
  cases rf with
  | clo h1 h2 h3 =>
    refine wpAny_call (codeAny_mono (F.run X.A X.stack s H f c cl us vs ws M wts ts S Qt _ Q (WE (wOf X M S0 H0 E) σ) hr I.env0 h1.1 h2.1 C rv h3 rt rel.sto q fin fun x S' cls d2 H' qx o x' hx => ⟨τ, S', x, rel.step o x', hx, qx⟩) fun r s' hq => ?_)
    cases r with
    | error e => exact L2N.passAt tk σ pins H s e s' I hq
    | ok fl =>
      cases fl with
      | ret u => exact I.after hq
      | next => exact False.elim hq
      | brk => exact False.elim hq
      | cont => exact False.elim hq
theorem te_clo (F : FnN X.prog X.w X.K X.mg X.base k d ps fr sp) (hr : Room j X.A) (hk : k ≤ j) (C : Cap X cl fr ws) (hN : X.N[i]? = some x) (hv : Vis X.env.scope x) (ha : TA X (e :: es) ta) (hd : (x == ("__debug__" : Str)) = false := by decide) (hcd : (x == ("__classdict__" : Str)) = false := by decide)
    (he : starEach (e :: es) X.env = (false, eval e X.env) :: starEach es X.env := by rfl) (hpl : (backTo pos (starEach es X.env)).any (·.1) = false := by rfl) : TE X (.Call (.Name x p) (e :: es) [] pos) (cClo i d cl c ws sp ta) := fun M S0 H0 E tk => by
  refine ⟨fun pins s σ H Q I ⟨τ, S, Qt, rel, ⟨wts, hi, h⟩, fin⟩ => ?_⟩
  obtain ⟨v, hs, rf⟩ := rel.env.2 i _ hi
  obtain ⟨f, rfl⟩ : ∃ f, v = .ref f := by cases rf; exact ⟨_, rfl⟩
  have rd : Rd H f (FnC f d cl c) := by
    cases rf with
    | clo h1 _ _ => exact h1.1
  refine wpAny_Call_Name_kw (thn ((pe_var (pos := p) hN hv hd hcd).run pins s σ H (fun v H1 => v = .ref f ∧ H1 = H) I ⟨.ref f, hs, rfl, rfl⟩) fun u s1 ⟨v, H1, I1, r1, ev, eH⟩ => ?_)
  subst ev
  rw [eH] at I1
  obtain rfl : u = Value.ref f := r1
  refine PySem.W.callWith_F (first := []) (fnc_fn I1 rd) (thn ((ha M S0 H0 E tk).run pos pins s1 σ H (fun vs H2 => ∃ zs S2, Reps (gdOf X M) H2 S2 zs vs ∧ StoOk (gdOf X M) H2 S2 ∧ Ext S H S2 H2 ∧ sp wts zs S2 Qt fun x S' => E x τ S') I1
    ⟨τ, S, _, rel, h, fun zs S2 vs H2 q o2 x2 r2 => ⟨zs, S2, r2, o2, x2, q⟩⟩) fun us s2 ⟨vs, H2, I2, rv, zs, S2, r2, o2, x2, q⟩ => ?_) he hpl
  have rf2 := Rep.ext x2 _ _ rf
  refine ⟨?_, ?_⟩
  · cases rf2 with
    | clo h1 _ _ => exact fnc_fn I2 h1.1
  · show wpAny _ _ (call (.ref f) us) _ _ _
    exact clo_run F (hr.mono hk) (C.now I2) tk I2 (rel.step o2 x2) rf2 rv r2 q fun z S' v H' qz o' x' r' => fin z S' v H' qz o' (x2.trans x') r'
end
end
end TL
namespace TL
open PySem PySem.Spec PyProof.Rows L2
/-- P: the table of the code object that runs in X -/
def HasTab (X : Cx) (P : Addr) : Prop := ∃ c0, LamX.TabB X.base X.mg c0 P ∧ X.env.code = .ref c0
/-- what d captures stands among the running def's own names -/
def Frees (X : Cx) (d : ND) : Prop := ∀ y ∈ d.scope.names, y.2 = .free → X.env.scope.names.lookup y.1 = some .cell ∨ X.env.scope.names.lookup y.1 = some .free
abbrev clOf (X : Cx) (d : ND) : List (Str × Addr) := cloFrom X.env.cells d.scope.names []
section
variable {X : Cx} {pins : List (Addr × Obj)} {σ : L2.St} {H H1 : Hp} {s : Shared} {d : ND} {cl : List (Str × Addr)} {fr : List Str} {ws : List V} {G : Gd} {S : Sto} {P f c : Addr}
theorem Frees.cells (h : Frees X d) (ok : X.Ok) : ∀ y ∈ d.scope.names, y.2 = .free → ∃ c, X.env.cells.lookup y.1 = some c := fun y hy e => (h y hy e).elim (fun z => ok.has _ (.inl z)) fun z => ok.has _ (.inr z)
theorem tab_cell (o : StoOk G H S) (h : S P = some (.tab d.qual)) : ∃ ps, TabC H P d.qual ps fun c => S c = none ∧ ¬ G.M c := by
  obtain ⟨ps, h1, h2, h3⟩ := o.at_ P _ h
  exact ⟨ps, h1, h2, fun pos cv z => let ⟨c, e, r, n, m⟩ := h3 pos cv z; ⟨c, e, r, n, m⟩⟩
theorem Made.ok (m : Made H P d cl (fun c => S c = none ∧ ¬ G.M c) f c H1) (o : StoOk G H S) (h : S P = some (.tab d.qual)) : StoOk G H1 S ∧ Ext S H S H1 ∧ Rep G H1 S (.clo d cl c [] []) (.ref f) := by
  have np : ∀ {b}, S b = none → b ≠ P := fun n e => by rw [e, h] at n; cases n
  have x : Ext S H S H1 := fun b u n => ⟨fun z _ => ⟨m.keep b (np n) u z, n⟩, fun z _ => ⟨z.imp (m.keep b (np n) u) fun ⟨w, z⟩ => ⟨w, m.keep b (np n) _ z⟩, n⟩⟩
  have cold : ∀ c, (H c = none ∨ (S c = none ∧ ¬ G.M c)) → S c = none ∧ ¬ G.M c := fun c z => z.elim (fun z => ⟨o.free z, o.nom z⟩) id
  refine ⟨⟨fun a e q => ?_, fun a q z => ?_, o.sep⟩, x, .clo ⟨.inl m.fn, o.free m.new, o.nom m.new⟩ ⟨m.code, cold c m.cold⟩ .nil⟩
  · by_cases ha : a = P
    · rw [ha, h] at q
      cases q
      obtain ⟨ps, h1, h2, h3⟩ := m.tab
      rw [ha]
      exact ⟨ps, h1, h2, fun pos cv z => let ⟨c, e, r, y⟩ := h3 pos cv z; ⟨c, e, r, cold c y⟩⟩
    · obtain ⟨u, hu⟩ := (o.at_ a e q).there
      exact (o.at_ a e q).ext x ((m.keep a ha u hu).trans hu.symm)
  · by_cases ha : a = P
    · obtain ⟨ps, h1, _⟩ := m.tab
      rw [ha, h1] at z
      cases z
    · obtain ⟨u, hu⟩ := Option.ne_none_iff_exists'.mp (o.msk a q)
      rw [m.keep a ha u hu] at z
      cases z
/-- def name(..): .. in a def's body -/
def sNdef (i : Nat) (P : Addr) (d : ND) (cl : List (Str × Addr)) : TTS := fun D τ S _ => S P = some (.tab d.qual) ∧ ∀ c, D.nx (τ.set i (some (.clo d cl c [] []))) S
theorem ts_ndef {i : Nat} {pos : Pos} (hT : HasTab X P) (hf : Frees X d) (hq : d.qual = X.env.qual ++ d.name) (hx : d.ex = none) (hd0 : d.params.defaults = []) (hk0 : d.params.kw_defaults = []) (ha : annTrees d.params none X.env = [])
    (hN : X.N.Nodup) (hi : X.N[i]? = some d.name) (hl : Loc X.env.scope d.name) (hfn : X.fn d.name = true ∨ X.env.scope.names.lookup d.name = some .local) : TS X (.FunctionDef d.name d.params d.body [] none [] d.scope none d.name pos) (sNdef i P d (clOf X d)) := fun M S0 H0 E tk => by
  refine ⟨fun pins s σ H D I ⟨τ, S, B, rel, ⟨hS, h⟩, k1, k2⟩ => ?_⟩
  obtain ⟨c0, TB, hc⟩ := hT
  obtain ⟨ps, tb⟩ := tab_cell rel.sto hS
  have hql : qualnameIn X.env d.name d.name = d.qual := by
    have k : X.env.kindOf d.name = some .local ∨ X.env.kindOf d.name = some .cell := hl
    rw [hq]
    unfold qualnameIn
    rcases k with k | k <;> rw [k] <;> first | rfl | exact if_neg (by decide)
  refine PySem.W.nestDef_K hd0 hk0 ha ?_
  rw [hql]
  have mk := clo_make (d := d) (pos := pos) (Q := fun v s' => wpAny (model X.prog X.w) X.A (storeName X.env d.name v) (fun _ s'' => SP X pins D .next s'') X.xe s') (E := X.xe) I TB hc (hf.cells I.ok) tb fun f c H1 s' I1 m => by
    obtain ⟨o, x, r⟩ := m.ok rel.sto hS
    exact store_ok I1 hN hi hl (v := .ref f) rfl (fun s'' J => ⟨_, H1, J, k1 _ _ _ _ ((rel.step o x).set r) x (h c)⟩) hfn
  unfold ND.code at mk
  rw [hx] at mk
  exact mk
abbrev atS (τ : TEnv) (js : List Nat) (wts : List T) : Prop := (js.map fun j => τ[j]?) = wts.map fun t => some (some t)
theorem atS_vals {τ : TEnv} : ∀ {js : List Nat} {wts : List T}, EnvR G H S σ τ → atS τ js wts → ∃ ws, js.map (NdefX.slotAt σ) = ws.map some ∧ Reps G H S wts ws
  | [], [], _, _ => ⟨[], rfl, .nil⟩
  | [], _ :: _, _, h => by cases h
  | _ :: _, [], _, h => by cases h
  | j :: js, t :: wts, r, h => by
    have h : τ[j]? :: (js.map fun j => τ[j]?) = some (some t) :: wts.map fun t => some (some t) := h
    injection h with h1 h2
    obtain ⟨v, e, q⟩ := r.2 j t h1
    obtain ⟨ws, e2, q2⟩ := atS_vals r h2
    exact ⟨v :: ws, by rw [List.map_cons, List.map_cons, e2, NdefX.slotAt_of e], .cons q q2⟩
/-- how the captured names stand in the def that made the function -/
structure CapIn (X : Cx) (d : ND) (fr : List Str) (js : List Nat) : Prop where
  free : Frees X d
  has : ∀ y ∈ fr, (y, NameKind.free) ∈ d.scope.names
  at_ : js.map (fun j => X.N[j]?) = fr.map some
  own : ∀ y, X.fn y = true
theorem CapIn.cells {js : List Nat} (K : CapIn X d fr js) (I : Inv X pins σ H s) (e : js.map (NdefX.slotAt σ) = ws.map some) : CellsOf (clOf X d) fr ws s.heap H := by
  have z := NdefX.cells_of I (NdefX.Caps.made I.ok K.free K.has K.at_)
  rw [e] at z
  exact z
theorem CapIn.above {js : List Nat} (K : CapIn X d fr js) (I : Inv X pins σ H s) {y : Str} {c : Addr} (e : (clOf X d).lookup y = some c) : X.env.cells.lookup y = some c ∧ c ∉ X.fs ∧ c ∉ frs X.stack := by
  have z : X.env.cells.lookup y = some c := NdefX.clo_cm (K.free.cells I.ok) e
  have g := I.ok.cab y c (K.own y) z
  have nf : c ∉ X.fs := fun hb => by
    obtain ⟨_, o, ho, _⟩ := I.ok.funs.mem hb
    exact Nat.lt_irrefl _ (Nat.lt_of_lt_of_le (Heap.lt_size ho) g)
  refine ⟨z, nf, fun hb => ?_⟩
  rcases List.mem_cons.mp (I.stkSub c hb) with q | q
  · exact I.cne y c z q
  · exact nf q
end
structure FnCl (P : Program) (w : World) (K : PySem.W.Frag) (mg : Str → Option Value) (base : Heap) (k : Nat) (f : Addr) (fd : FuncData) (ps fr : List Str) (sp : List (Str × Addr) → Addr → List V → SpT) : Prop where
  len : ∀ cl c ws ts S Q E, sp cl c ws ts S Q E → ts.length = ps.length
  run : ∀ (A : Around) (outer : List Env) (s : Shared) (H : Hp) (args : Args) (us : List Value) (vs ws : List V) (cl : List (Str × Addr)) (c : Addr) (Q : VK) (E : XK), Room k A → Env0 P w K mg base A outer s H → BindsTo s fd args (ps.zip us) → Vals vs us → CellsOf cl fr ws s.heap H → (∀ y c, cl.lookup y = some c → c ∉ frs outer) →
    liftSp P K w (sp cl c ws) vs H Q E → codeAny (model P w) A (.call (.ref f) args) (CR (L2N.CX P w) outer P w H s Q E) s
section
variable {P : Program} {w : World} {K : PySem.W.Frag} {mg : Str → Option Value} {base : Heap} {x qual : Str} {params : Arguments} {body : List Stmt} {scope : Scope} {f : Addr} {fd : FuncData} {N ps fr : List Str} {k : Nat} {cc : List (Str × Addr) → Addr → List V → TTS} {sp : List (Str × Addr) → Addr → List V → SpT}
end
section
variable {X : Cx} {d : ND} {fr : List Str} {js : List Nat} {i j k : Nat} {ps : List Str} {sp : List (Str × Addr) → Addr → List V → SpT} {x : Str} {p pos : Pos} {e : Expr} {es : List Expr} {ta : TTA}
theorem set_same {α : Type} : ∀ {xs : List α} {i : Nat} {a : α}, xs[i]? = some a → xs.set i a = xs
  | [], _, _, h => by simp at h
  | x :: xs, 0, a, h => by
    simp at h
    rw [h]
    rfl
  | x :: xs, i + 1, a, h => by
    rw [List.set_cons_succ, set_same (by simpa using h)]
end
end TL
namespace TL
open PySem PySem.Spec PyProof.Rows L2
section
variable {X : Cx} {pins : List (Addr × Obj)} {σ : L2.St} {H : Hp} {s : Shared}
/-- the kit's rule for one clause without tests; the item may know that the block begins in a state of X -/
theorem lc_from {Q : VK} {elt tg iter : Expr} {scope : Scope} {own : List (Str × Nat)} {pos : Pos} {wi : L2.TI} {g : L2.TG} {te : L2.TE} (calm : X.calm = true) (nd : X.N.Nodup) (I : Inv X pins σ H s) (pi : PI X tg iter wi) (blk : BlkOk X.N X.env.scope scope own)
    (pg : Blk X scope fun Y => PG Y tg g) (pe : ∀ (s1 : Shared) (H1 : Hp) (C : Addr) (cl : List (Str × Addr)) (fp : List Addr), Inv X pins σ H1 s1 → (∀ b ∈ fp, FpOk X pins H1 b) → PE (X.blk s1 H1 scope (compEnvC scope cl C X.env) fp) elt te)
    (hs : ∀ x, foldedSetIterable iter X.env x = pure x) (h : tLc wi g tYes te (own.map (·.2)) σ H Q) : wpAny (model X.prog X.w) X.A (eval (.ListComp elt [⟨tg, iter, [], 0⟩] scope pos) X.env) (EP X pins σ Q) X.xe s := by
  have cells : ∀ y ∈ scope.names, y.2 = .free → ∃ c, X.env.cells.lookup y.1 = some c := fun y hy e => I.ok.has _ ((blk.free y hy e).elim .inl .inr)
  rw [eval_ListComp]
  refine wpAny_comprehension_free (use := none) rfl hs (closure_ok cells) blk.kind (fun y hy e => (blk.uniq y hy).trans (by rw [e])) (thn (pi.run pins s σ H _ I h) fun xv s1 hx => thn hx fun itv s2 ⟨it, fp, tn, J, H2, ei, I2, T, t2, f2, turns⟩ => ?_)
  subst ei
  refine wpAny_newObj_type (newEnv_comp ?_) (by show 0 ≤ sizeLine; decide)
  obtain ⟨W, ⟨m0, w0⟩, turn⟩ := turns s2.heap.objs.size (I2.hok.fresh (Nat.le_refl _))
  -- D: the new list; s3: with it
  have dNew : (s2.heap.push { cls := .type "list", data := .seq ([] : List Value).toArray }).get? s2.heap.objs.size = some { cls := .type "list", data := .seq ([] : List Value).toArray } := Heap.get?_push_size _ rfl
  have I3 : Inv X pins σ (L2.upd H2 s2.heap.objs.size (.lst [])) { s2 with heap := s2.heap.push { cls := .type "list", data := .seq ([] : List Value).toArray } } := I2.laid (t' := s2.toks) (fun b o e => Heap.get?_push_of_some _ e) (Nat.le_refl _) ⟨Nat.zero_le _, [], 0, .nil, dNew⟩
  have old : ∀ b ∈ fp, b < s2.heap.objs.size := fun b hb => let ⟨o, e, _⟩ := T.obj _ _ t2 b hb; Heap.lt_size e
  have f3 : ∀ b ∈ fp, FpOk X pins (L2.upd H2 s2.heap.objs.size (.lst [])) b ∧ b < (s2.heap.push { cls := .type "list", data := .seq ([] : List Value).toArray }).objs.size := fun b hb =>
    ⟨⟨(upd_ne (Nat.ne_of_lt (old b hb))).trans (f2 b hb).1, (f2 b hb).2⟩, by rw [Heap.size_push]; exact Nat.lt_succ_of_lt (old b hb)⟩
  have t3 : tn 0 (s2.heap.push { cls := .type "list", data := .seq ([] : List Value).toArray }) := T.keep _ _ _ t2 fun b _ o e => Heap.get?_push_of_some _ e
  generalize hD : s2.heap.objs.size = D at I3 f3 w0 turn dNew
  generalize hH3 : L2.upd H2 D (.lst []) = H3 at I3 f3 w0
  generalize hS3 : ({ s2 with heap := s2.heap.push { cls := .type "list", data := .seq ([] : List Value).toArray } } : Shared) = s3 at I3
  have e3 : s3.heap = s2.heap.push { cls := .type "list", data := .seq ([] : List Value).toArray } := by rw [← hS3]
  rw [← e3] at f3 t3
  have I4 := block_start I3 blk nd f3
  have item := pe s3 H3 s3.heap.objs.size (cellsFrom (s3.heap.objs.size + 1) scope.names (cloFrom X.env.cells scope.names [])) fp I3 fun b hb => (f3 b hb).1
  have target := pg s3 H3 s3.heap.objs.size (cellsFrom (s3.heap.objs.size + 1) scope.names (cloFrom X.env.cells scope.names [])) fp
  have hidden : ∀ b ∈ fp, H3 b = none := fun b hb => (f3 b hb).1.1
  show codeAny (model X.prog X.w) X.A (.compStart (.ListComp elt [⟨tg, iter, [], 0⟩] scope pos) 0 (.ref it) (.ref D) (compEnvC scope (cellsFrom (s3.heap.objs.size + 1) scope.names (cloFrom X.env.cells scope.names [])) s3.heap.objs.size X.env)) (compPost (model X.prog X.w) X.A X.xe none (EP X pins σ Q) (.ref D) s3.heap.objs.size) { s3 with heap := pushCells (s3.heap.push { cls := .type "dict", data := .dict #[] }) scope.names }
  have t4 : tn 0 ({ s3 with heap := pushCells (s3.heap.push { cls := .type "dict", data := .dict #[] }) scope.names } : Shared).heap := T.keep _ _ _ t3 fun b _ o e => pushCells_keeps _ _ _ _ (Heap.get?_push_of_some _ e)
  have locC : (compEnvC scope (cellsFrom (s3.heap.objs.size + 1) scope.names (cloFrom X.env.cells scope.names [])) s3.heap.objs.size X.env).locals = s3.heap.objs.size := rfl
  generalize compEnvC scope (cellsFrom (s3.heap.objs.size + 1) scope.names (cloFrom X.env.cells scope.names [])) s3.heap.objs.size X.env = ce at I4 item target locC ⊢
  generalize ({ s3 with heap := pushCells (s3.heap.push { cls := .type "dict", data := .dict #[] }) scope.names } : Shared) = s4 at I4 t4 ⊢
  -- in the block
  have stat : ∀ {τ : L2.St} {H' : Hp} {s' : Shared}, Inv (X.blk s3 H3 scope ce fp) [] τ H' s' → (∀ b ∈ fp, H' b = none) → ∀ b ∈ fp, FpOk (X.blk s3 H3 scope ce fp) [] H' b := fun {τ H' s'} J n b hb =>
    ⟨n b hb, (J.ok.exf b hb).1, J.ok.exfs b hb, .inl hb, fun x c e => (J.ok.exf b hb).2 x c e, fun p hp => nomatch (show p ∈ ([] : List (Addr × Obj)) from hp)⟩
  let G : Nat → Shared → Prop := fun n s' => ∃ i H', Inv (X.blk s3 H3 scope ce fp) [] (wipe σ (own.map (·.2))) H' s' ∧ tn i s'.heap ∧ (∀ b ∈ fp, H' b = none) ∧ W i n H'
  have loop : codeAny (model X.prog X.w) X.A (.compLoop (.ListComp elt [⟨tg, iter, [], 0⟩] scope pos) 0 (.ref it) (.ref D) ce) (compPost (model X.prog X.w) X.A X.xe none (EP X pins σ Q) (.ref D) s3.heap.objs.size) s4 := by
    refine compLoop_any G (fun n s5 ⟨i, H5, I5, t5, n5, w5⟩ => ?_) m0 ⟨0, H3, I4, t4, hidden, w0⟩
    rcases turn i n H5 w5 with ⟨stop, q⟩ | ⟨go, Nx, less, step⟩
    · refine thnF (T.done (X.blk s3 H3 scope ce fp) rfl rfl rfl calm i [] s5 _ H5 (fun _ _ => False) I5 (stat I5 n5) t5 stop) fun r s6 ⟨er, I6⟩ => ?_
      subst er
      have I7 : Inv X pins σ H5 s6 := I3.call' (ch := fp) I6.os I6.base I6.hok I6.bare fun b hb => let z := (f3 b hb).1; ⟨z.2.2.2.1, z.2.1, z.2.2.2.2.1, z.2.2.2.2.2⟩
      have nC : H5 s3.heap.objs.size = none := by
        have z : H5 ce.locals = none := I6.free
        rwa [locC] at z
      obtain ⟨m, hn, _⟩ := I6.loc
      have hn : s6.heap.Ns ce.locals m := hn
      rw [locC] at hn
      obtain ⟨a0, a1, a2, a3, a4, a5⟩ := I3.fpOk (Nat.le_refl _) nC
      exact ⟨m, hn, fun h' sb => ⟨.ref D, H5, I7.turned (t' := s6.toks) (fun b o hb e => (sb.2 b hb).trans e) a0 a1 a3 a4 a5, rfl, q⟩⟩
    · refine thnF (T.item (X.blk s3 H3 scope ce fp) rfl rfl rfl calm i [] s5 _ H5 (fun _ _ => False) I5 (stat I5 n5) t5 go) fun r s6 ⟨u, er, h6⟩ => ?_
      subst er
      refine thnF h6 fun _ s7 ⟨x, H7, I7, r7, y7, t7, n7⟩ => ?_
      refine thnF (target.run _ s7 _ H7 x u _ (I7.pinned (stat I7 n7) (T.obj _ _ t7)) r7 (step x H7 y7)) fun _ s8 ⟨σ8, H8, I8, same, q8⟩ => ?_
      refine wpAny_tests_nil ?_
      rw [if_pos rfl]
      have q8 : (if true = true then te σ8 H8 fun y H4 => ∃ acc, H4 D = some (.lst acc) ∧ acc.length < sizeLine ∧ Nx (L2.upd H4 D (.lst (acc ++ [y]))) else Nx H8) := q8
      rw [if_pos rfl] at q8
      refine thnF (item.run _ s8 σ8 H8 _ I8 q8) fun z s9 ⟨yv, H9, I9, r9, acc, atD, room, nx⟩ => ?_
      refine app_ok (X := X.blk s3 H3 scope ce fp) I9 atD room r9 fun s10 I10 => ?_
      obtain ⟨m', lt, w'⟩ := less _ nx
      have pinned : ∀ b ∈ fp, ∀ o, s7.heap.get? b = some o → s10.heap.get? b = some o ∧ L2.upd H9 D (.lst (acc ++ [yv])) b = none := fun b hb o e =>
        let y := I10.pin (b, o) (List.mem_append_right _ (List.mem_append_right _ (mem_pinsAt hb e)))
        ⟨y.1, y.2.1⟩
      have lens : (wipe σ (own.map (·.2))).length = σ8.length := by rw [← same, wipe_length]
      exact ⟨m', lt, i + 1, _, (I10.unpinned (pins := [])).weak lens (fun j v e => (wipe_some (same ▸ e)).1), T.keep _ _ _ t7 fun b hb o e => (pinned b hb o e).1, fun b hb => let ⟨o, e, _⟩ := T.obj _ _ t7 b hb; (pinned b hb o e).2, w'⟩
  exact codeAny_compStart_list loop (T.self X.A 0 _ _ _ t4 loop)
end
end TL
namespace TL
open PySem PySem.Spec PyProof.Rows L2
section
variable {X : Cx} {elt tg iter : Expr} {scope : Scope} {own : List Nat} {ti : TTI} {g : TTG} {te : TTE} {pos : Pos}
/-- the comprehension's reading, the block's slots told otherwise than those that the iterable sees -/
theorem comp_readB {M : Addr → Prop} {S0 : Sto} {H0 : Hp} {E : T → TEnv → Sto → Prop} {σ : L2.St} {H : Hp} {Q : VK} {τ τb : TEnv} {S : Sto} (Kt : List T → Sto → Prop) (rel : Rel (gdOf X M) S0 H0 σ H τ S) (envb : EnvR (gdOf X M) H S σ τb)
    (h : ti τ S (fun xs gd S1 => compT g bYes te own gd τb Kt xs [] S1) (fun x S' => E x τ S'))
    (fin : ∀ zs S2 D H2 vs, Kt zs S2 → StoOk (gdOf X (also M D)) H2 S2 → Ext S H S2 H2 → H2 D = some (.lst vs) → S2 D = none → ¬ M D → Reps (gdOf X (also M D)) H2 S2 zs vs → Q (.ref D) H2) :
    tLc (LI X M S0 H0 ti E) (XG X own S0 H0 g) tYes (XE' X S0 H0 te) own σ H Q := by
  refine ⟨τ, S, _, rel, h, fun xs gd S1 J H1 hq o1 x1 wk D hD => ?_⟩
  have xD : Ext S1 H1 S1 (upd H1 D (.lst [])) := Ext.new hD
  let W : Nat → Nat → Hp → Prop := fun i m H' => m = xs.length - i ∧ i ≤ xs.length ∧ ∃ S' acc vs, StoOk (gdOf X (also M D)) H' S' ∧ Ext S1 H1 S' H' ∧ H' D = some (.lst vs) ∧ S' D = none ∧ Reps (gdOf X (also M D)) H' S' acc vs ∧ compT g bYes te own gd τb Kt (xs.drop i) acc S'
  have oD : StoOk (gdOf X (also M D)) (upd H1 D (.lst [])) S1 := o1.putOn hD
  refine ⟨W, ⟨xs.length, by simp, Nat.zero_le _, S1, [], [], oD, xD, upd_same, o1.free hD, .nil, hq⟩, ?_⟩
  rintro i m H2 ⟨rfl, hi, S2, acc, vs, o2, x2, hD2, nD2, ra, q2⟩
  by_cases hlt : i < xs.length
  · rw [List.drop_eq_getElem_cons hlt] at q2
    obtain ⟨hgd, q2⟩ := q2
    obtain ⟨hgo, hy⟩ := wk.go (also M D) S2 H2 i xs[i] (fun a h n => h.elim (fun h => absurd h n) fun e => e ▸ hD) o2 x2 hgd (List.getElem?_eq_getElem hlt)
    refine .inr ⟨hgo, W (i + 1) (xs.length - (i + 1)), fun H' w => ⟨_, by omega, w⟩, fun x H' y => ?_⟩
    obtain ⟨o3, x3, r3⟩ := hy x H' y
    have d3 := x3.exact hD2 nD2
    have a3 := Reps.ext x3 _ _ ra
    have x13 := x2.trans x3
    have envD : EnvR (gdOf X (also M D)) H1 S1 σ τb := ⟨envb.1, fun j t e => by
      obtain ⟨v, h1, h2⟩ := (envb.ext x1).2 j t e
      exact ⟨v, h1, Rep.mask (M := also M D) (fun a u r m z => z.elim m fun e => Rd.ne hD r e) _ _ h2⟩⟩
    have relW : Rel (gdOf X (also M D)) S0 H0 (wipe σ own) H' (wipeT τb own) S2 := ⟨(envD.ext x13).wipe _, o3, rel.ext.trans (x1.trans x13)⟩
    refine ⟨also M D, _, S2, xs[i], _, relW, r3, q2, fun σ4 H4 τ4 S4 rel4 x4 w4 q4 => ⟨?_, ?_⟩⟩
    · rw [w4]
      apply List.ext_getElem?
      intro j
      rw [wipe_at, wipe_at]
      by_cases hj : j ∈ own
      · rw [if_pos hj, if_pos hj]
        cases σ[j]? <;> rfl
      · rw [if_neg hj, if_neg hj]
    · have d4 := x4.exact d3.1 d3.2
      have a4 := Reps.ext x4 _ _ a3
      have q4 : te τ4 S4 (fun y S3 => acc.length < sizeLine ∧ compT g bYes te own gd τb Kt (xs.drop (i + 1)) (acc ++ [y]) S3) (fun _ _ => False) := by
        have z : (if true = true then te τ4 S4 (fun y S3 => acc.length < sizeLine ∧ compT g bYes te own gd τb Kt (xs.drop (i + 1)) (acc ++ [y]) S3) (fun _ _ => False) else compT g bYes te own gd τb Kt (xs.drop (i + 1)) acc S4) := q4
        rwa [if_pos rfl] at z
      show if true = true then XE' X S0 H0 te σ4 H4 (fun y H5 => ∃ acc, H5 D = some (.lst acc) ∧ acc.length < sizeLine ∧ W (i + 1) (xs.length - (i + 1)) (upd H5 D (.lst (acc ++ [y])))) else W (i + 1) (xs.length - (i + 1)) H4
      rw [if_pos rfl]
      refine ⟨also M D, τ4, S4, _, rel4, q4, fun z S6 v H6 q6 o6 x6 r6 => ?_⟩
      obtain ⟨hz, q6⟩ := q6
      have d6 := x6.exact d4.1 d4.2
      have a6 := Reps.ext x6 _ _ a4
      have mD : (gdOf X (also M D)).M D := .inr rfl
      refine ⟨vs, d6.1, by rw [← a6.length]; exact hz, rfl, hlt, S6, acc ++ [z], vs ++ [v], o6.at mD d6.2, ?_, upd_same, d6.2, (Reps.extM (ExtM.at mD) _ _ a6).append (.cons (Rep.extM (ExtM.at mD) _ _ r6) .nil), q6⟩
      have x16 := (x13.trans x4).trans x6
      exact fun b u n => ⟨fun h f => let w := (x16 b u n).1 h f; ⟨(upd_ne fun e => ne_of_none h hD e).trans w.1, w.2⟩, fun h f => let w := (x16 b u n).2 h f; ⟨Rd.upd (Rd.ne hD h) w.1, w.2⟩⟩
  · have e : i = xs.length := by omega
    subst e
    rw [List.drop_length] at q2
    exact .inl ⟨wk.stop (also M D) S2 H2 o2 x2 q2.1, fin _ _ _ _ _ q2.2 o2 (x1.trans x2) hD2 nD2 (o1.nom hD) ra⟩
/-- [e for .. in it], e calls the function in the slot i; te: what it is, by the code object and what the cells hold -/
def cCompC (i : Nat) (js : List Nat) (d : ND) (cl : List (Str × Addr)) (it : TTI) (g : TTG) (te : Addr → List V → TTE) (own : List Nat) : TTE := fun τ S Q E => ∃ c wts, τ[i]? = some (some (.clo d cl c [] [])) ∧ atS τ js wts ∧
  ∀ ws, it τ S (fun xs gd S1 => compT g bYes (te c ws) own gd (τ.set i (some (.clo d cl c ws wts))) (fun zs S2 => Q (.lst zs) S2) xs [] S1) E
theorem te_compC {d : ND} {fr : List Str} {js : List Nat} {i : Nat} {ow : List (Str × Nat)} {te : Addr → List V → TTE} (hc : X.calm = true) (hN : X.N.Nodup) (hi : TI X tg iter ti) (ok : BlkOk X.N X.env.scope scope ow) (hg : Blk X scope fun Y => TGt Y (ow.map (·.2)) tg g) (C : CapIn X d fr js)
    (he : ∀ (c : Addr) (ws : List V), Blk X scope fun Y => Cap Y (clOf X d) fr ws → TE Y elt (te c ws)) (hs : ∀ x, foldedSetIterable iter X.env x = pure x := by intro _; rfl) : TE X (.ListComp elt [⟨tg, iter, [], 0⟩] scope pos) (cCompC i js d (clOf X d) ti g te (ow.map (·.2))) := fun M S0 H0 E tk => by
  refine ⟨fun pins s σ H Q I ⟨τ, S, Qt, rel, ⟨c, wts, hi', hj, h⟩, k⟩ => ?_⟩
  obtain ⟨ws, ew, rw_⟩ := atS_vals rel.env hj
  obtain ⟨v, hv, rv⟩ := rel.env.2 i _ hi'
  have rv' : Rep (gdOf X M) H S (.clo d (clOf X d) c ws wts) v := by
    cases rv with
    | clo a1 a2 a3 => exact .clo a1 a2 rw_
  have envb : EnvR (gdOf X M) H S σ (τ.set i (some (.clo d (clOf X d) c ws wts))) := by
    have z := (rel.set (i := i) rv').env
    rwa [set_same hv] at z
  exact lc_from hc hN I (hi M S0 H0 E tk) ok (fun s1 H1 C1 cl1 fp1 => blk_g (hg s1 H1 C1 cl1 fp1) fun _ => takes_blk)
    (fun s1 H1 C1 cl1 fp1 I1 hfp => blk_e (he c ws s1 H1 C1 cl1 fp1 ⟨C.cells I1 ew, fun y c' e => (C.above I1 e).2.2, fun y c' e hb => (hfp c' hb).2.2.2.2.1 y c' (C.above I1 e).1 rfl⟩) fun _ => takes_blk) hs
    (comp_readB _ rel envb (h ws) fun zs S2 D H2 vs q o2 x2 hD nD nM r => k (.lst zs) S2 (.ref D) H2 q (o2.takeOff fun _ m => .inl m) x2 (.lst ⟨hD, nD, nM⟩ (r.takeOff fun _ m => .inl m)))
end
theorem code_of_tab {K : PySem.W.Frag} {x : Str} {c0 P : Addr} {oc : Value} {od : Option Addr} {fd : FuncData} {sl : Array (Option Value)} (ht : PySem.W.tabIn K x = some (c0, P)) (lk : K.lookup (He.ga K x) = some ⟨oc, od, .func fd, sl⟩) : fd.code = .ref c0 := by
  unfold PySem.W.tabIn at ht
  unfold He.ga at lk
  split at ht
  · rename_i f e
    rw [e] at lk
    have lk : K.lookup f = some ⟨oc, od, .func fd, sl⟩ := lk
    rw [lk] at ht
    simp only at ht
    split at ht
    · rename_i c ec
      split at ht
      · split at ht
        · cases ht
          exact ec
        · cases ht
      · cases ht
    · cases ht
  · cases ht
section
variable {P : Program} {w : World} {K : PySem.W.Frag} {mg : Str → Option Value} {base : Heap} {x qual : Str} {params : Arguments} {body : List Stmt} {scope : Scope} {fd : FuncData} {N ps : List Str} {k : Nat} {c0 Pt : Addr} {sp : SpT} {cc : List (Str × Addr) → TTS}
/-- the same, whatever guards -/
theorem fn_tM (F : FunD K x qual params body scope [] [] (He.ga K x) fd) (Sc : FnScope N ps scope) (ht : PySem.W.tabIn K x = some (c0, Pt)) (TB : LamX.TabB base mg c0 Pt) (len : ∀ ts S Q E, sp ts S Q E → ts.length = ps.length)
    (hb : ∀ (cdv : Value) (A : Around) (outer : List Env) (s : Shared) (H : Hp) (E : XK), Room k (A.deeper (envOfC qual scope s.heap.objs.size (He.ga K x) cdv)) → HasTab (cxG P w K mg base N qual scope (He.ga K x) cdv A outer s H E) Pt → TSs (cxG P w K mg base N qual scope (He.ga K x) cdv A outer s H E) body (cc (cxG P w K mg base N qual scope (He.ga K x) cdv A outer s H E).env.cells))
    (vc : ∀ cells, VC N sp (cc cells)) : FnOk P w K mg base (L2N.CX P w) (k + 1) (He.ga K x) fd ps (liftSp P K w sp) := by
  obtain ⟨oc, od, dV, kV, doc, pm, an, cdv0, ct, osl, efd, lk, hcd, _, _⟩ := F.ex
  have ec0 : cdv0 = .ref c0 := by
    have z := code_of_tab ht lk
    rw [efd] at z
    exact z
  rw [efd] at lk ⊢
  refine fn_of lk hcd Sc (fun vs H Q E h => ?_) (fun A outer s H vs Q E hr h => ?_)
  · obtain ⟨M, ts, S, Qt, Et, r, _, q, _⟩ := h
    rw [← r.length]
    exact len _ _ _ _ q
  · obtain ⟨M, ts, S, Qt, Et, r, o, q, hQ, hE⟩ := h
    have tk : Takes (cxG P w K mg base N qual scope (He.ga K x) cdv0 A outer s H E) (wOf (cxG P w K mg base N qual scope (He.ga K x) cdv0 A outer s H E) M S H fun x _ S' => FinX Et x S') := by
      refine Takes.imp (L2N.takes_of rfl rfl rfl rfl) fun cls d σ H' ⟨τ, S', x, rel, hx, S2, k2, h2⟩ => ?_
      exact hE x S2 cls d H' h2 (rel.sto.drop k2) (rel.ext.trans k2.ext) (hx.ext k2.ext)
    exact ⟨_, hb cdv0 A outer s H E hr ⟨c0, TB, ec0⟩ M S H _ tk, startT N ts, S, _, ⟨start_env r, o, Ext.refl⟩, vc _ ts S Qt Et q,
      fun σ' H' τ' S' rel x' ⟨S2, u, k2, fz, q2⟩ => hQ u S2 .non H' q2 (rel.sto.drop k2) (x'.trans k2.ext) (Fz.rep rel.sto k2 fz .non), fun z S' v H' o2 x' r2 ⟨S2, u, k2, fz, q2⟩ => hQ u S2 v H' q2 (o2.drop k2) (x'.trans k2.ext) (Fz.rep o2 k2 fz r2), fun _ _ _ _ _ _ z => z.elim, fun _ _ _ _ _ _ z => z.elim⟩
end
end TL
namespace TL
open PySem PySem.Spec PyProof.Rows L2
section
variable {κ α β : Type}
def nf1 (f : T → List T → PM κ T) : List T → List T → PM κ T
  | [a] => f a
  | _ => fun _ => stuck
variable {W : κ → Sto} {p : TEnv} {l : Cs} {d : ND} {cl : List (Str × Addr)} {c : Addr} {ws : List V} {wts : List T} {i n : Nat} {js : List Nat} {Pt : Addr} {q : Str} {f : List T → List T → PM Unit T}
theorem xe_clo {a : TTA} {ma : (List T → PM κ T) → PM κ T} (hp : p[i]? = some (some (.clo d cl c ws wts))) (ha : XA W p l n a ma) : XE W p l (cClo i d cl c ws (fun wts => spU (f wts)) a) (ma fun xs => lft (f wts xs)) := fun Q E k τ S hE i s =>
  ⟨wts, hE.get hp, ha _ _ _ _ E k τ S hE i s (fun zs k' S' e i' s' => (Sat.lft.mp s').mono (fun v _ q => q S' i') fun x _ q => q S' i'.nil) fun x k' S' i' q => q S' i'⟩
theorem atS_en : ∀ {p τ : TEnv} {js : List Nat} {wts : List T}, En p τ → atS p js wts → atS τ js wts
  | _, _, [], [], _, _ => rfl
  | _, _, [], _ :: _, _, h => by cases h
  | _, _, _ :: _, [], _, h => by cases h
  | p, τ, j :: js, t :: wts, e, h => by
    have h : p[j]? :: (js.map fun j => p[j]?) = some (some t) :: wts.map fun t => some (some t) := h
    injection h with h1 h2
    have z : atS τ js wts := atS_en e h2
    show τ[j]? :: (js.map fun j => τ[j]?) = some (some t) :: wts.map fun t => some (some t)
    rw [e.get h1, show (js.map fun j => τ[j]?) = _ from z]
/-- a def within a def -/
theorem xs_ndef {u : TTS} {m : PM κ β} {post : β → Dest} (hW : ∀ k, W k Pt = some (.tab d.qual)) (h : ∀ c, XS W (p.set i (some (.clo d cl c [] []))) l u m post) : XS W p l (cSeq (sNdef i Pt d cl) u) m post := fun D E k τ S hE j s =>
  ⟨j.base _ _ (hW k), fun c => h c D E k _ S hE.set j s⟩
theorem xe_compC {g : TTG} {own : List Nat} {it : TTI} {mi : PM κ (List T)} {te : Addr → List V → TTE} {f : T → PM κ (Option T)} (hp : p[i]? = some (some (.clo d cl c [] []))) (hj : atS p js wts) (hi : XI W p l it mi) (hf : ∀ ws x, XCi W (wipeT (p.set i (some (.clo d cl c ws wts))) own) l g bYes (te c ws) (f x) x) :
    XE W p l (cCompC i js d cl it g te own) (bd mi fun xs => bd (compG f xs) fun ys => pu (.lst ys)) := fun Q E k τ S hE i s => by
  refine ⟨c, wts, hE.get hp, atS_en hE hj, fun ws => hi _ _ k τ S hE i ((Sat.bd.mp s).mono (fun xs k1 s1 S1 gd i1 hgd => ?_) fun _ _ q => q)⟩
  have s2 := Sat.bd.mp s1
  obtain ⟨hl, s3⟩ := sat_gd (Sat.bd.mp s2)
  exact comp_run hgd (hf ws) hE.set xs [] k1 S1 i1 (by simpa using hl) s3
/-- a promise that asks for the table -/
def spT (Pt : Addr) (q : Str) (sp : SpT) : SpT := fun ts S Q E => S Pt = some (.tab q) ∧ sp ts S Q E
theorem spT_len {sp : SpT} {n : Nat} (h : ∀ ts S Q E, sp ts S Q E → ts.length = n) : ∀ ts S Q E, spT Pt q sp ts S Q E → ts.length = n := fun ts S Q E z => h ts S Q E z.2
theorem xe_callT {f : List T → PM Unit T} {r : TTA} {mr : (List T → PM κ T) → PM κ T} (hW : ∀ k, W k Pt = some (.tab q)) (h : XA W p l n r mr) : XE W p l (cCall (spT Pt q (spU f)) r) (mr fun xs => lft (f xs)) := fun Q E k τ S hE i s =>
  h _ _ _ _ E k τ S hE i s (fun zs k' S' e i' s' => ⟨i'.base _ _ (hW k'), (Sat.lft.mp s').mono (fun v _ q => q S' i') fun x _ q => q S' i'.nil⟩) fun x k' S' i' q => q S' i'
end
section
variable {S0 : Sto} {pa Pt : Addr} {p : TEnv} {l : Cs} {q : Str}
theorem penW_tab (hP : S0 Pt = some (.tab q)) (hn : pa ≠ Pt) : ∀ k, penW S0 pa k Pt = some (.tab q) := fun k => (ups_ne hn.symm).trans hP
end
section
variable {N : List Str} {cc : TTS} {Pt : Addr} {q : Str}
theorem vc_uT {f : List T → PM Unit T} (h : ∀ S ts, S Pt = some (.tab q) → XS (fun _ : Unit => S) (startT N ts) [] cc (f ts) .rt) : VC N (spT Pt q (spU f)) cc := fun ts S Q E ⟨hP, s⟩ =>
  h S ts hP _ _ () _ S (En.refl _) si_start (Sat.mono s (fun v k' q l z S' i w => fin_of i w q) fun x k' q τ' S' i => ⟨S, i.base, q⟩)
theorem vc_lawT {m : PM Cell T} {u : TTS} (h : ∀ S0 pa a, S0 Pt = some (.tab q) → pa ≠ Pt → XS (penW S0 pa) ((startT N [a]).set 1 (some (.ref pa))) [] u m .rt) (hm : ∀ c, PenC 0 c → ∃ k, m c = .ok (.bl true) k) (h0 : (startT N [T.non])[0]? = some (some T.non) := by rfl) :
    VC N (spT Pt q sp_law1) (cSeq (cSet 1 (cCall sp_pen_of (cCons (cVar 0) cNil))) u) := by
  rintro ts S Q E ⟨hP, a, rfl, ns, rfl, hq⟩
  refine ⟨.scr ns, rfl, _, rfl, ns, rfl, fun p c hp hc => ?_⟩
  obtain ⟨k, hk⟩ := hm c hc
  have hn : p ≠ Pt := fun e => by rw [e, hP] at hp; cases hp
  refine h S p (.scr ns) hP hn _ _ c _ _ (En.refl _) (si_start (W := penW S p)) ?_
  rw [hk]
  exact fun l z S' i w => fin_of i w (hq _)
/-- a def within a def -/
theorem vcN_def {f : List T → List T → PM Unit T} (h : ∀ S wts ts, XS (fun _ : Unit => S) (startN N wts ts) [] cc (f wts ts) .rt) : ∀ wts ts S Q E, spU (f wts) ts S Q E → cc { nx := fun _ S' => Fin Q .non S', rt := Fin Q } (startN N wts ts) S (fun x _ S' => FinX E x S') := fun wts ts S Q E s =>
  h S wts ts _ _ () _ S (En.refl _) si_start (Sat.mono s (fun v k' q l z S' i w => fin_of i w q) fun x k' q τ' S' i => ⟨S, i.base, q⟩)
end
end TL
namespace TL
open PySem PySem.Spec PyProof.Rows L2
/-- what is tracked where the law begins: the table, the script -/
def hpT (K : PySem.W.Frag) (Pt a : Addr) (o : Obj) (u : HO) : Hp := fun b => if b = Pt then some (.tbl #[]) else if b = a then (if (K.lookup a).isSome = true then none else some (.frz o u)) else none
theorem law_startT {P : Program} {K : PySem.W.Frag} {w : World} {sp : SpT} {H : Hp} {a Pt : Addr} {q : Str} {ns : List Int} (h : sp [.scr ns] (ups emp Pt (.tab q)) (fun z _ => z = .bl true) fun _ _ => False) (hP : H Pt = some (.tbl #[])) (hS : (∃ o, H a = some (.frz o (.lst (ns.map V.int)))) ∨ StL K a (ns.map V.int)) (ne : a ≠ Pt) :
    liftSp P K w sp [.ref a] H (fun v _ => v = .bl true) fun _ _ _ => False := by
  refine ⟨fun _ => False, [T.scr ns], ups emp Pt (.tab q), fun z _ => z = T.bl true, fun _ _ => False, .cons (.scr ?_) .nil, ⟨fun b c e => ?_, fun _ m => False.elim m, fun _ m => False.elim m⟩, h, fun z S' v H' e _ _ r => ?_, fun x S' cls d H' q => False.elim q⟩
  · exact hS.imp (fun ⟨o, e⟩ => ⟨o, e, ups_ne ne, fun z => z⟩) id
  · by_cases hb : b = Pt
    · rw [hb, ups_same] at e
      cases e
      rw [hb]
      exact ⟨#[], hP, trivial, fun pos cv z => by
        have z : codeAmong pos [] = some cv := z
        simp [codeAmong] at z⟩
    · rw [ups_ne hb] at e
      cases e
  · subst e
    cases r
    rfl
theorem law_callT {P : Program} {w : World} {K : PySem.W.Frag} {mg mb : Str → Option Value} {k : Nat} {fa a c0 Pt : Addr} {q x : Str} {fd : FuncData} {sp : SpT} {s₁ : Shared} {vs : List Value} {ns : List Int}
    (KX : K.In s₁.heap) (hns : s₁.heap.Ns mainGlobals mg) (hbn : s₁.heap.Ns builtinsNs mb) (hbb : ∀ x : Str, x ≠ "__name__" → mb x = bootBuiltins x) (hlim : s₁.heap.NoLimit) (hg : s₁.gens = #[])
    (tP : s₁.heap.get? Pt = some { cls := .none, data := .fields #[] }) (nP : K.lookup Pt = none) (cP : PySem.W.CodeHd s₁.heap c0 Pt) (hbm : ∃ (bm : Addr) (ob : Obj), mg "__builtins__" = some (.ref bm) ∧ bm ≠ builtinsNs ∧ s₁.heap.get? bm = some ob ∧ ob.cls = .type "module" ∧ ob.dict = some builtinsNs ∧ ob.data = .plain)
    (ha : s₁.heap.get? a = some { cls := .type "list", data := .seq vs.toArray }) (hi : IntsAre vs ns) (hl : ns.length ≤ sizeLine) (hr : Room k callerA)
    (F : ∀ base : Heap, K.In base → base.Ns mainGlobals mg → LamX.TabB base mg c0 Pt → FnG P w K mg base k fa fd [x] (liftSp P K w sp)) (hbind : ∀ (s : Shared) (u : Value), BindsTo s fd ⟨[u], []⟩ [(x, u)])
    (hsp : sp [.scr ns] (ups emp Pt (.tab q)) (fun z _ => z = .bl true) fun _ _ => False) :
    codeAny (model P w) callerA (.call (.ref fa) ⟨[.ref a], []⟩) (fun r s' => r = .ok (.ret (.bool true)) ∧ OldK s₁.heap s'.heap ∧ s'.os = s₁.os ∧ AllBare s'.gens) s₁ := by
  have rv := vals_ints hi
  have ne : a ≠ Pt := fun z => by
    rw [z, tP] at ha
    cases ha
  generalize hH : hpT K Pt a { cls := .type "list", data := .seq vs.toArray } (.lst (ns.map V.int)) = H
  have atP : H Pt = some (.tbl #[]) := by rw [← hH]; exact if_pos rfl
  have atA : H a = if (K.lookup a).isSome = true then none else some (.frz { cls := .type "list", data := .seq vs.toArray } (.lst (ns.map V.int))) := by
    rw [← hH]
    exact (if_neg ne).trans (if_pos rfl)
  have off : ∀ b, b ≠ Pt → b ≠ a → H b = none := fun b n1 n2 => by
    rw [← hH]
    exact (if_neg n1).trans (if_neg n2)
  have hok : HOk P w H s₁.heap := fun b u e => by
    by_cases h1 : b = Pt
    · rw [h1, atP] at e
      cases e
      rw [h1]
      exact tP
    · by_cases h2 : b = a
      · rw [h2, atA] at e
        split at e
        · cases e
        · cases e
          rw [h2]
          exact ⟨ha, by rw [List.length_map]; exact hl, vs, _, rv, ha⟩
      · rw [off b h1 h2] at e
        cases e
  have hS : (∃ o, H a = some (.frz o (.lst (ns.map V.int)))) ∨ StL K a (ns.map V.int) := by
    cases hk : K.lookup a with
    | none => exact .inl ⟨_, by rw [atA, hk]; rfl⟩
    | some o =>
      have e := KX a o hk
      rw [ha] at e
      cases e
      exact .inr ⟨_, vs.toArray, _, hk, rfl, rfl, rfl, by rw [List.size_toArray, hi.length]; exact hl, by simpa using rv⟩
  have noD : ∀ {b : Addr} {o : Obj}, s₁.heap.get? b = some o → (∀ vs n, o.data ≠ .seq vs n) → o.data ≠ .fields #[] → H b = none := fun {b o} e h1 h2 => off b (fun z => by
    rw [z, tP] at e
    cases e
    exact h2 rfl) fun z => by
    rw [z, ha] at e
    cases e
    exact h1 _ _ rfl
  have dic : ∀ {b : Addr} {o : Obj} {es : Array DictEntry} {ep : Nat}, s₁.heap.get? b = some o → o.data = .dict es ep → H b = none := fun {b o es ep} e d => noD e (fun vs n z => by rw [d] at z; cases z) fun z => by rw [d] at z; cases z
  have nsK : ∀ {b : Addr} {m : Str → Option Value}, s₁.heap.Ns b m → (hidT s₁.heap H).Ns b m := fun {b m} ⟨o, es, ep, e, d, r⟩ => ⟨o, es, ep, hidT_get e (dic e d), d, r⟩
  have hKb : K.In (hidT s₁.heap H) := fun b o e => hidT_get (KX b o e) (by
    by_cases h1 : b = Pt
    · rw [h1, nP] at e
      cases e
    · by_cases h2 : b = a
      · rw [h2] at e ⊢
        rw [atA, e]
        rfl
      · exact off b h1 h2)
  have hM : Mod K mg (hidT s₁.heap H) := ⟨hKb, nsK hns, ⟨mb, nsK hbn, hbb⟩, let ⟨mc, h1, h2⟩ := hlim; ⟨mc, nsK h1, h2⟩⟩
  have TB : LamX.TabB (hidT s₁.heap H) mg c0 Pt := by
    refine ⟨?_, ?_, fun z => ?_⟩
    · obtain ⟨o, us, file, tf, flags, tg, inF, text, tt, e1, r1, r2, r3, r⟩ := cP
      exact ⟨o, us, file, tf, flags, tg, inF, text, tt, hidT_get e1 (noD e1 (fun vs n z => by rw [r2] at z; cases z) fun z => by rw [r2] at z; cases z; simp at r3), r1, r2, r3, r⟩
    · obtain ⟨bm, ob, b1, b2, b3, b4, b5, b6⟩ := hbm
      refine ⟨bm, ob, b1, b2, fun q => ?_, fun q => ?_, hidT_get b3 (noD b3 (fun vs n z => by rw [b6] at z; cases z) fun z => by rw [b6] at z; cases z), b4, b5, b6⟩
      · obtain ⟨o, es, ep, e, hd, _⟩ := hns
        rw [q, e] at b3
        cases b3
        rw [hd] at b6
        cases b6
      · rw [q, tP] at b3
        cases b3
        cases b6
    · obtain ⟨o, es, ep, e, hd, _⟩ := hns
      rw [z, tP] at e
      cases e
      cases hd
  have e0 : Env0 P w K mg (hidT s₁.heap H) callerA [] s₁ H := ⟨rfl, hM, fun b o e => of_hidT e, Nat.le_of_eq (hidT_size _ _), trivial, fun b hb => (nomatch (show b ∈ ([] : List Addr) from hb)), hok, .of_eq hg⟩
  refine codeAny_mono ((F _ hKb (nsK hns) TB).run callerA [] s₁ H ⟨[.ref a], []⟩ [.ref a] [.ref a] _ _ rfl hr e0 (hbind s₁ (.ref a)) (.cons rfl .nil) (law_startT hsp atP hS ne)) fun r s' h => ?_
  cases r with
  | error e => exact (cx_none h).elim
  | ok fl =>
    cases fl with
    | ret u =>
      obtain ⟨v, H', os, bare, un, hok', r', q'⟩ := h
      obtain rfl : v = .bl true := q'
      obtain rfl : u = Value.bool true := r'
      have key : ∀ b o, b ≠ Pt → s₁.heap.get? b = some o → s'.heap.get? b = some o := fun b o nb e => by
        by_cases h2 : b = a
        · cases hk : K.lookup a with
          | some ok => exact un.keep b o e (by rw [h2, atA, hk]; rfl) (fun z => (nomatch (show b ∈ ([] : List Addr) from z))) (by simp)
          | none =>
            have z : H b = some (.frz { cls := .type "list", data := .seq vs.toArray } (.lst (ns.map V.int))) := by rw [h2, atA, hk]; rfl
            obtain ⟨e1, _⟩ := hok b _ z
            rw [e] at e1
            cases e1
            exact (hok' b _ (un.frzs b _ _ z)).1
        · exact un.keep b o e (off b nb h2) (fun z => (nomatch (show b ∈ ([] : List Addr) from z))) (by simp)
      obtain ⟨more, hm⟩ := un.tbls Pt #[] atP
      have gP := hok' Pt _ hm
      refine ⟨rfl, ⟨fun b o e => ?_, fun b o e => ?_⟩, os, bare⟩
      · by_cases hb : b = Pt
        · rw [hb, tP] at e
          cases e
          rw [hb]
          exact .inr (.inl ⟨(cP.tab tP).isCodeTable, rfl, #[], more, rfl, gP⟩)
        · exact .inl (key b o hb e)
      · by_cases hb : b = Pt
        · rw [hb]
          exact ⟨_, gP⟩
        · exact ⟨o, key b o hb e⟩
    | next => exact False.elim h
    | brk => exact False.elim h
    | cont => exact False.elim h
/-- a promise that does not ask what guards -/
theorem FnG.of {P : Program} {w : World} {K : PySem.W.Frag} {mg : Str → Option Value} {base : Heap} {k : Nat} {f : Addr} {fd : FuncData} {ps : List Str} {sp : Sp} (h : FnOk P w K mg base (L2N.CX P w) k f fd ps sp) : FnG P w K mg base k f fd ps sp :=
  ⟨fun A outer s H args us vs Q E _ hr e0 bd rv q => h.run A outer s H args us vs Q E hr e0 bd rv q⟩
/-- the table of a def's code object, told by the head's part of the heap -/
def tblB (K : PySem.W.Frag) (x : Str) : Bool := (PySem.W.tabIn K x).any fun z => (K.lookup z.2).isNone
def tbP (K : PySem.W.Frag) (x : Str) : Addr := match PySem.W.tabIn K x with
  | some (_, Pt) => Pt
  | none => 0
def tbC (K : PySem.W.Frag) (x : Str) : Addr := match PySem.W.tabIn K x with
  | some (c0, _) => c0
  | none => 0
theorem tblB_ok {K : PySem.W.Frag} {x : Str} (h : tblB K x = true) : PySem.W.tabIn K x = some (tbC K x, tbP K x) ∧ K.lookup (tbP K x) = none := by
  unfold tblB at h
  unfold tbC tbP
  cases e : PySem.W.tabIn K x with
  | none =>
    rw [e] at h
    cases h
  | some z =>
    rw [e] at h
    exact ⟨rfl, Option.isNone_iff_eq_none.mp h⟩
/-- the law's def keeps its promise: the law holds -/
theorem walk_tlT {l : PySem.W.OpenLaw} {k : Nat} {q : Program} {loose : List Str} {XP : (Str → Option Value) → Heap → Prop} {YP : World → Heap → Prop} {d dm : DefRec} {x y xm qm : Str} {sp : Addr → SpT}
    (hn : l.most = some 63) (hdf : d.params.defaults = []) (hr : Room k callerA) (hd : d.name = y) (hm : (recsOf q).find? (fun e => e.name == xm) = some dm) (hs : ∀ (Pt : Addr) (ns : List Int), ns.length ≤ 63 → sp Pt [.scr ns] (ups emp Pt (.tab qm)) (fun z _ => z = .bl true) fun _ _ => False)
    (F : ∀ (w : World) (mg : Str → Option Value) (h : Heap), YP w h → h.Ns mainGlobals mg → ∃ K : PySem.W.Frag, K.In h ∧ mg y = some (.ref (He.ga K y)) ∧ tblB K xm = true ∧
      ∃ fd : FuncData, (∀ (s : Shared) (u : Value), BindsTo s fd ⟨[u], []⟩ [(x, u)]) ∧ ∀ base : Heap, K.In base → base.Ns mainGlobals mg → LamX.TabB base mg (tbC K xm) (tbP K xm) → FnG l.prog w K mg base k (He.ga K y) fd [x] (liftSp l.prog K w (sp (tbP K xm)))) :
    PySem.W.WalkO q loose XP YP l.row.toRowW d [] (fun f vs => PySem.call f vs) := by
  subst hd
  refine Att.attach_call hn hdf fun w s₀ s₁ mg mb fa o pm cd doc a vs ns G Y ho hd hcd hmg hobj hints hlen hg => ?_
  obtain ⟨K, KX, hm', tb, fd, hb, hF⟩ := F w mg _ Y G.T.g
  cases hmg.symm.trans hm'
  obtain ⟨t1, t2⟩ := tblB_ok tb
  obtain ⟨cP, tP⟩ := PySem.W.tab_of G.T KX hm t1
  exact law_callT KX G.T.g G.T.b G.T.builtins G.T.nolimit hg tP t2 cP G.T.bmain hobj hints (Nat.le_trans hlen (by decide)) hr hF hb (hs (tbP K xm) ns hlen)
theorem law1_spT (q : Str) (Pt : Addr) (ns : List Int) (_ : ns.length ≤ 63) : spT Pt q sp_law1 [.scr ns] (ups emp Pt (.tab q)) (fun z _ => z = .bl true) fun _ _ => False := ⟨ups_same, _, rfl, ns, rfl, fun _ => rfl⟩
end TL
namespace TL
open PySem PySem.Spec PyProof.Rows L2
def stAt (ss : List Stmt) (j : Nat) : Stmt := ss.getD j (.Pass ⟨0, 0, 0, 0⟩)
theorem cap_in {X : Cx} {d : ND} {fr : List Str} {js : List Nat} (h : NdefX.ndefB X.env.scope d.scope fr = true) (h2 : js.map (fun j => X.N[j]?) = fr.map some) (h3 : ∀ y, X.fn y = true) : CapIn X d fr js := ⟨NdefX.ndef_free h, NdefX.ndef_fr h, h2, h3⟩
theorem Cap.tr {X Y : Cx} {cl : List (Str × Addr)} {fr : List Str} {ws : List V} (C : Cap X cl fr ws) (h1 : Y.s_0 = X.s_0) (h2 : Y.H_0 = X.H_0) (h3 : Y.fs = X.fs) (h4 : Y.ex = X.ex) : Cap Y cl fr ws := ⟨by rw [h1, h2]; exact C.at_, by rw [h3]; exact C.nf, by rw [h4]; exact C.nx⟩
end TL
namespace K31
open PySem PySem.Spec PyProof.Rows TL
open L2 hiding putF
abbrev fc_depth : List Str := ["Walk"]
abbrev fc_families : List Str := ["Walk"]
abbrev fc_family : List Str := ["End"]
abbrev fc_found : List Str := ["Walk"]
abbrev fc_met : List Str := ["Walk"]
abbrev fc_name : List Str := ["End"]
abbrev fc_steps : List Str := ["End"]
def N_families_of : List Str := ["book", "name", "found", "child", "family"]
def c_families_of : TTS :=
  (cSeq (cSet 2 (cComp (iSeq (cOp ixT (cVar 0) (cC (.int 2)))) (gT (gC (gN 3) (gC (gN 4) gZ))) (bVal (cOp eqT (cVar 3) (cVar 1))) (cTup (cCons (cVar 4) (cCons (cC (.bl true)) cNil))) [3, 4]))
    (cSeq (cRet (cOp addT (cVar 2) (cComp (iSeq (cOp ixT (cVar 0) (cC (.int 3)))) (gT (gC (gN 3) (gC (gN 4) gZ))) (bVal (cOp eqT (cVar 3) (cVar 1))) (cTup (cCons (cVar 4) (cCons (cC (.bl false)) cNil))) [3, 4])))
    cSkip))
def m_families_of (p_book p_name : T) : PM Unit T :=
  bd (bd (bd (bd (pu p_book) fun v1 => bd (pu (.int 2)) fun v2 => ofO (ixT emp v1 v2)) itemsM) fun xs11 => bd (compG (fun x3 => bd (ofO (un2 x3)) fun b4 => bd (bd (bd (pu b4.1) fun v8 => bd (pu p_name) fun v9 => ofO (eqT emp v8 v9)) tb) fun v10 => if v10 = true then bd (bd (pu b4.2) fun v5 => bd (pu (.bl true)) fun v6 => pu (.tup [v5, v6])) fun v7 => pu (some v7) else pu none) xs11) fun ys12 => pu (.lst ys12)) fun v13 => bd (bd (pu v13) fun v27 => bd (bd (bd (bd (pu p_book) fun v15 => bd (pu (.int 3)) fun v16 => ofO (ixT emp v15 v16)) itemsM) fun xs25 => bd (compG (fun x17 => bd (ofO (un2 x17)) fun b18 => bd (bd (bd (pu b18.1) fun v22 => bd (pu p_name) fun v23 => ofO (eqT emp v22 v23)) tb) fun v24 => if v24 = true then bd (bd (pu b18.2) fun v19 => bd (pu (.bl false)) fun v20 => pu (.tup [v19, v20])) fun v21 => pu (some v21) else pu none) xs25) fun ys26 => pu (.lst ys26)) fun v28 => ofO (addT emp v27 v28)) fun v29 => pu v29
theorem x_families_of (S : Sto) (p_book p_name : T) : XS (fun _ : Unit => S) [some p_book, some p_name, none, none, none] [] c_families_of (m_families_of p_book p_name) .rt :=
  (xs_set (xe_comp (XIy.i (xiy_seq (xe_op opv_ixT (XE.v (xe_var rfl)) (XE.v xe_c)))) (fun x3 => xc_un xg_2 (fun b4 => (xb_val (xe_op opv_eqT (XE.v (xe_var rfl)) (XE.v (xe_var rfl))))) fun b4 => (xe_tup (xa_cons (xe_var rfl) (xa_cons xe_c xa_nil))))) fun v13 => (xs_ret (g := fun v => v) (fun _ => rfl) (XE.v (xe_op opv_addT (XE.v (xe_var rfl)) (XE.v (xe_comp (XIy.i (xiy_seq (xe_op opv_ixT (XE.v (xe_var rfl)) (XE.v xe_c)))) (fun x17 => xc_un xg_2 (fun b18 => (xb_val (xe_op opv_eqT (XE.v (xe_var rfl)) (XE.v (xe_var rfl))))) fun b18 => (xe_tup (xa_cons (xe_var rfl) (xa_cons xe_c xa_nil))))))))))
def sp_families_of : SpT := spU (u2 m_families_of)
theorem len_families_of : ∀ ts S Q E, sp_families_of ts S Q E → ts.length = 2 := spU_len ar2
theorem vc_families_of : VC N_families_of sp_families_of c_families_of := vc_u2 x_families_of
def N_depths : List Str := ["book", "found", "changed", "child", "family", "deepest", "name", "mark", "parent"]
def c_depths : TTS :=
  (cSeq (cSet 1 (cDictM (cComp (iSeq (cOp ixT (cVar 0) (cC (.int 0)))) (gT (gC (gN 6) (gC (gN 7) gZ))) bYes (cTup (cCons (cVar 6) (cCons (cC (.int 0)) cNil))) [6, 7])))
    (cSeq (cSet 2 (cC (.bl true)))
    (cSeq (cWhile (bVal (cVar 2)) ((cSeq (cSet 2 (cC (.bl false)))
    (cSeq (cFor (iSeq (cOp addT (cOp ixT (cVar 0) (cC (.int 2))) (cOp ixT (cVar 0) (cC (.int 3))))) (gT (gC (gN 3) (gC (gN 4) gZ))) ((cSeq (cSet 5 (cFn max1F (cCons (cComp (iSeq (cVar 4)) (gN 8) bYes (cOp dgT (cVar 1) (cVar 8)) [8]) cNil)))
    (cSeq (cIfS (bVal (cOp leT (cOp dgT (cVar 1) (cVar 3)) (cVar 5))) (cSeq (cDput (cVar 1) (cVar 3) (cOp addT (cVar 5) (cC (.int 1))))
    (cSeq (cSet 2 (cC (.bl true)))
    cSkip)) cSkip)
    cSkip))))
    cSkip))))
    (cSeq (cRet (cVar 1))
    cSkip))))
def m_depths (p_book : T) : PM Unit T :=
  bd (bd (bd (bd (bd (pu p_book) fun v1 => bd (pu (.int 0)) fun v2 => ofO (ixT emp v1 v2)) itemsM) fun xs8 => bd (compG (fun x3 => bd (ofO (un2 x3)) fun b4 => bd (bd (pu b4.1) fun v5 => bd (pu (.int 0)) fun v6 => pu (.tup [v5, v6])) fun v7 => pu (some v7)) xs8) fun ys9 => pu (.lst ys9)) mrgM) fun ys10 => bd (pu (.bl true)) fun (v12 : T) => bd (whM (fun (s14 : T × (List T × List T)) => (bd (pu s14.1) tb)) (fun s14 => bd (pu (.bl false)) fun (v15 : T) => bd (bd (bd (bd (bd (pu p_book) fun v18 => bd (pu (.int 2)) fun v19 => ofO (ixT emp v18 v19)) fun v22 => bd (bd (pu p_book) fun v20 => bd (pu (.int 3)) fun v21 => ofO (ixT emp v20 v21)) fun v23 => ofO (addT emp v22 v23)) itemsM) fun xs47 => forM (fun x24 (s17 : T × (List T × List T)) => bd (ofO (un2 x24)) fun b25 => bd (bd (bd (bd (pu b25.2) itemsM) fun xs30 => bd (compG (fun x26 => bd (bd (pu (.dct false s17.2.1 s17.2.2)) fun v27 => bd (pu x26) fun v28 => ofO (dgT emp v27 v28)) fun v29 => pu (some v29)) xs30) fun ys31 => pu (.lst ys31)) fun v32 => ofO (max1F emp [v32])) fun v33 => bd (bd (bd (bd (pu (.dct false s17.2.1 s17.2.2)) fun v35 => bd (pu b25.1) fun v36 => ofO (dgT emp v35 v36)) fun v37 => bd (pu v33) fun v38 => ofO (leT emp v37 v38)) tb) fun v39 => if v39 = true then bd (bd (pu v33) fun v40 => bd (pu (.int 1)) fun v41 => ofO (addT emp v40 v41)) fun v43 => bd (pu b25.1) fun v44 => bd (dputM s17.2 v44 v43) fun ys42 => bd (pu (.bl true)) fun (v45 : T) => pu (v45, ys42) else pu (s17.1, s17.2)) xs47 (v15, s14.2)) fun (s17 : T × (List T × List T)) => pu (s17.1, s17.2)) fuel (v12, ys10)) fun (s14 : T × (List T × List T)) => bd (pu (.dct false s14.2.1 s14.2.2)) fun v48 => pu v48
theorem x_depths (S : Sto) (p_book : T) : XS (fun _ : Unit => S) [some p_book, none, none, none, none, none, none, none, none] [] c_depths (m_depths p_book) .rt :=
  (xs_new (xn_dictM (XE.v (xe_comp (XIy.i (xiy_seq (xe_op opv_ixT (XE.v (xe_var rfl)) (XE.v xe_c)))) (fun x3 => xc_unY xg_2 fun b4 => (xe_tup (xa_cons (xe_var rfl) (xa_cons xe_c xa_nil))))))) fun ys10 a11 => (xs_set xe_c fun v12 => (xs_seq (xs_wh (σ := T × (List T × List T)) (P := fun s14 => [some p_book, some (.ref a11), some s14.1, none, none, none, none, none, none]) (C := fun s14 => [(a11, .dct false s14.2.1 s14.2.2)]) (s0 := (v12, ys10)) ⟨.inr rfl, .inr rfl, .inr rfl, .inl rfl, .inl rfl, .inl rfl, .inl rfl, .inl rfl, .inl rfl, trivial⟩ rfl (fun s14 => (xb_val (xe_var rfl))) (fun s14 => (xs_set xe_c fun v15 => (xs_seq (xs_for (σ := T × (List T × List T)) (P := fun s17 => [some p_book, some (.ref a11), some s17.1, none, none, none, none, none, none]) (C := fun s17 => [(a11, .dct false s17.2.1 s17.2.2)]) (s0 := (v15, s14.2)) (xiy_seq (xe_op opv_addT (XE.v (xe_op opv_ixT (XE.v (xe_var rfl)) (XE.v xe_c))) (XE.v (xe_op opv_ixT (XE.v (xe_var rfl)) (XE.v xe_c))))) ⟨.inr rfl, .inr rfl, .inr rfl, .inl rfl, .inl rfl, .inl rfl, .inl rfl, .inl rfl, .inl rfl, trivial⟩ rfl (fun x24 s17 => xf_un xg_2 fun b25 => (xs_set (xe_fn fnv_max1F (xav_cons (XE.v (xe_comp (XIy.i (xiy_seq (xe_var rfl))) (fun x26 => xc_nameY (xe_op opv_dgT (xv_dcell rfl (.head _)) (XE.v (xe_var rfl)))))) xav_nil)) fun v33 => (xs_ifE (xb_val (xe_opx opx_leT (xe_op opv_dgT (xv_dcell rfl (.head _)) (XE.v (xe_var rfl))) (xe_var rfl))) (xs_assoc (xs_dput (r := s17.2) (l1 := []) (l2 := []) rfl (xe_op opv_addT (XE.v (xe_var rfl)) (XE.v xe_c)) (xe_var rfl) fun ys42 => (xs_assoc (xs_set xe_c fun v45 => (xs_skipseq (xs_skip rfl ⟨.inr rfl, .inr rfl, .inr rfl, .inl rfl, .inl rfl, .inl rfl, .inl rfl, .inl rfl, .inl rfl, trivial⟩)))))) (xs_skipseq (xs_skip rfl ⟨.inr rfl, .inr rfl, .inr rfl, .inl rfl, .inl rfl, .inl rfl, .inl rfl, .inl rfl, .inl rfl, trivial⟩)))))) fun s17 => (xs_skip rfl ⟨.inr rfl, .inr rfl, .inr rfl, .inl rfl, .inl rfl, .inl rfl, .inl rfl, .inl rfl, .inl rfl, trivial⟩))))) fun s14 => (xs_ret (g := fun v => v) (fun _ => rfl) (xv_dcell rfl (.head _))))))
def sp_depths : SpT := spU (u1 m_depths)
theorem len_depths : ∀ ts S Q E, sp_depths ts S Q E → ts.length = 1 := spU_len ar1
theorem vc_depths : VC N_depths sp_depths c_depths := vc_u1 x_depths
def N_End___init__ : List Str := ["self", "name", "family", "steps"]
def c_End___init__ : TTS :=
  (cSeq (cFput "name" (okL fc_name) (cVar 0) (cVar 1))
    (cSeq (cFput "family" (okL fc_family) (cVar 0) (cVar 2))
    (cSeq (cFput "steps" (okL fc_steps) (cVar 0) (cVar 3))
    cSkip)))
def sp_End___init__ : SpT := spMk "End" nsE
theorem len_End___init__ : ∀ ts S Q E, sp_End___init__ ts S Q E → ts.length = 4 := spMk_len
theorem vc_End___init__ : VC N_End___init__ sp_End___init__ c_End___init__ := vc_end rfl rfl rfl
def N_Walk_meets : List Str := ["self", "one", "other", "step", "by_birth", "turned", "half", "counts"]
def c_Walk_meets : TTS :=
  (cSeq (cSet 6 (cFn intF (cCons (cAnd (cOp neT (cUn (fldT "family" (okL fc_family)) (cVar 2)) (cTup cNil)) (cOp neT (cUn (fldT "family" (okL fc_family)) (cVar 2)) (cVar 3))) cNil)))
    (cSeq (cSet 7 (cTup (cCons (cOp addT (cUn (fldT "steps" (okL fc_steps)) (cVar 1)) (cC (.int 1))) (cCons (cUn (fldT "steps" (okL fc_steps)) (cVar 2)) cNil))))
    (cSeq (cIfS (bVal (cVar 5)) (cSeq (cSet 7 (cTup (cCons (cUn (fldT "steps" (okL fc_steps)) (cVar 2)) (cCons (cOp addT (cUn (fldT "steps" (okL fc_steps)) (cVar 1)) (cC (.int 1))) cNil))))
    cSkip) cSkip)
    (cSeq (cTput (cUn (fldT "found" (okL fc_found)) (cVar 0)) (cOp addT (cVar 7) (cTup (cCons (cVar 6) (cCons (cOp ixT (cLst (cCons (cC (.str (q "adoption"))) (cCons (cC (.str (q "birth"))) cNil))) (cFn intF (cCons (cVar 4) cNil))) cNil)))) (cC (.bl true)))
    cSkip))))
def b_Walk_meets (p_D p_F p_one p_other p_step p_by_birth p_turned : T) : PM (DD × DD) Unit :=
  bd (bd (bd (bd (bd (pu p_other) fun v4 => ofO (fldT "family" (okL fc_family) emp v4)) fun v5 => bd (pu (.tup [])) fun v6 => ofO (neT emp v5 v6)) fun v7 => bd (tb v7) fun v8 => if v8 = true then (bd (bd (pu p_other) fun v1 => ofO (fldT "family" (okL fc_family) emp v1)) fun v2 => bd (pu p_step) fun v3 => ofO (neT emp v2 v3)) else pu (.bl false)) fun v9 => ofO (intF emp [v9])) fun v10 => bd (bd (bd (bd (pu p_one) fun v12 => ofO (fldT "steps" (okL fc_steps) emp v12)) fun v13 => bd (pu (.int 1)) fun v14 => ofO (addT emp v13 v14)) fun v16 => bd (bd (pu p_other) fun v15 => ofO (fldT "steps" (okL fc_steps) emp v15)) fun v17 => pu (.tup [v16, v17])) fun v18 => bd (bd (bd (pu p_turned) tb) fun v20 => if v20 = true then (bd (bd (bd (pu p_other) fun v22 => ofO (fldT "steps" (okL fc_steps) emp v22)) fun v26 => bd (bd (bd (pu p_one) fun v23 => ofO (fldT "steps" (okL fc_steps) emp v23)) fun v24 => bd (pu (.int 1)) fun v25 => ofO (addT emp v24 v25)) fun v27 => pu (.tup [v26, v27])) fun v28 => pu v28 : PM _ (T)) else pu v18) fun s21 => bd (pu (.bl true)) fun v39 => bd (bd (pu s21) fun v37 => bd (bd (pu v10) fun v35 => bd (bd (bd (pu (.str (q "adoption"))) fun v30 => bd (pu (.str (q "birth"))) fun v31 => pu (.lst [v30, v31])) fun v33 => bd (bd (pu p_by_birth) fun v32 => ofO (intF emp [v32])) fun v34 => ofO (ixT emp v33 v34)) fun v36 => pu (.tup [v35, v36])) fun v38 => ofO (addT emp v37 v38)) fun v40 => bd (lputM Prod.snd (fun k r => (k.1, r)) v40 v39) fun _ => pu ()
def m_Walk_meets (p_D p_F p_one p_other p_step p_by_birth p_turned : T) : PM (DD × DD) T := bd (b_Walk_meets p_D p_F p_one p_other p_step p_by_birth p_turned) fun _ => pu .non
theorem x_Walk_meets (S : Sto) (wm wg : Addr) (p_D p_F p_one p_other p_step p_by_birth p_turned : T) (ne : wm ≠ wg) : XS (W2 S wm wg) [some (walkT p_D p_F wm wg), some p_one, some p_other, some p_step, some p_by_birth, some p_turned, none, none] [] c_Walk_meets (b_Walk_meets p_D p_F p_one p_other p_step p_by_birth p_turned) (fun _ => .fin) :=
  (xs_set (xe_fnx fnx_intF (xa_cons (xe_and (xe_op opv_neT (XE.v (xe_un unv_fldT (XE.v (xe_var rfl)))) (XE.v (xe_tup xa_nil))) (xe_op opv_neT (XE.v (xe_un unv_fldT (XE.v (xe_var rfl)))) (XE.v (xe_var rfl)))) xa_nil)) fun v10 => (xs_set (xe_tup (xa_cons (xe_op opv_addT (XE.v (xe_un unv_fldT (XE.v (xe_var rfl)))) (XE.v xe_c)) (xa_cons (xe_un unv_fldT (XE.v (xe_var rfl))) xa_nil))) fun v18 => (xs_seq (σ := T) (P := fun s21 => [some (walkT p_D p_F wm wg), some p_one, some p_other, some p_step, some p_by_birth, some p_turned, some v10, some s21]) (C := fun s21 => []) (xs_if (xb_val (xe_var rfl)) (xs_set (xe_tup (xa_cons (xe_un unv_fldT (XE.v (xe_var rfl))) (xa_cons (xe_op opv_addT (XE.v (xe_un unv_fldT (XE.v (xe_var rfl)))) (XE.v xe_c)) xa_nil))) fun v28 => (xs_skip rfl ⟨.inr rfl, .inr rfl, .inr rfl, .inr rfl, .inr rfl, .inr rfl, .inr rfl, .inr rfl, trivial⟩)) (xs_skip rfl ⟨.inr rfl, .inr rfl, .inr rfl, .inr rfl, .inr rfl, .inr rfl, .inr rfl, .inr rfl, trivial⟩)) fun s21 => (xs_lput (lens2 ne) rfl wf_found xe_c (xe_op opv_addT (XE.v (xe_var rfl)) (XE.v (xe_tup (xa_cons (xe_var rfl) (xa_cons (xe_op opv_ixT (XE.v (xe_lst (xa_cons xe_c (xa_cons xe_c xa_nil)))) (XE.v (xe_fnx fnx_intF (xa_cons (xe_var rfl) xa_nil)))) xa_nil))))) (xs_end rfl)))))
def sp_Walk_meets : SpT := spW fun D F ts => bd (u5 (b_Walk_meets D F) ts) fun _ => pu .non
theorem len_Walk_meets : ∀ ts S Q E, sp_Walk_meets ts S Q E → ts.length = 6 := spW_len fun _ _ => (Ar.bd ar5)
theorem vc_Walk_meets : VC N_Walk_meets sp_Walk_meets c_Walk_meets := vc_wn fun S wm wg D F ts ne => match ts with
  | [] => xs_stuck
  | [_] => xs_stuck
  | [_, _] => xs_stuck
  | [_, _, _] => xs_stuck
  | [_, _, _, _] => xs_stuck
  | [p_one, p_other, p_step, p_by_birth, p_turned] => x_Walk_meets S wm wg D F p_one p_other p_step p_by_birth p_turned ne
  | _ :: _ :: _ :: _ :: _ :: _ :: _ => xs_stuck
def N_Walk_go : List Str := ["self", "one", "other", "by_birth", "turned", "further", "family", "born", "parent", "ends"]
def c_Walk_go : TTS :=
  (cSeq (cSet 5 (cLstM cNil))
    (cSeq (cFor (iSeq (cOp dgT (cUn (fldT "families" (okL fc_families)) (cVar 0)) (cUn (fldT "name" (okL fc_name)) (cVar 1)))) (gT (gC (gN 6) (gC (gN 7) gZ))) ((cSeq (cFor (iSeq (cVar 6)) (gN 8) ((cSeq (cIfS (bVal (cOp eqT (cVar 8) (cUn (fldT "name" (okL fc_name)) (cVar 2)))) (cSeq (cDo (cMeth "Walk" "meets" sp_Walk_meets (cVar 0) (cCons (cVar 1) (cCons (cVar 2) (cCons (cVar 6) (cCons (cAnd (cVar 3) (cVar 7)) (cCons (cVar 4) cNil)))))))
    cSkip) (cSeq (cSet 9 (cTup (cCons (cMake "End" sp_End___init__ (cCons (cVar 8) (cCons (cVar 6) (cCons (cOp addT (cUn (fldT "steps" (okL fc_steps)) (cVar 1)) (cC (.int 1))) cNil)))) (cCons (cVar 2) cNil))))
    (cSeq (cIfS (bVal (cVar 4)) (cSeq (cSet 9 (cTup (cCons (cVar 2) (cCons (cOp ixT (cVar 9) (cC (.int 0))) cNil))))
    cSkip) cSkip)
    (cSeq (cDo (cApp (cVar 5) (cTup (cCons (cOp ixT (cVar 9) (cC (.int 0))) (cCons (cOp ixT (cVar 9) (cC (.int 1))) (cCons (cAnd (cVar 3) (cVar 7)) cNil))))))
    cSkip))))
    cSkip)))
    cSkip)))
    (cSeq (cRet (cVar 5))
    cSkip)))
def m_Walk_go (p_D p_F p_one p_other p_by_birth p_turned : T) : PM (DD × DD) T :=
  bd (pu ([] : List T)) fun ys1 => bd (bd (bd (bd (pu p_F) fun v5 => bd (bd (pu p_one) fun v4 => ofO (fldT "name" (okL fc_name) emp v4)) fun v6 => ofO (dgT emp v5 v6)) itemsM) fun xs52 => forM (fun x7 (s3 : List T) => bd (ofO (un2 x7)) fun b8 => bd (bd (bd (pu b8.1) itemsM) fun xs51 => forM (fun x10 (s9 : List T) => bd (bd (bd (pu x10) fun v12 => bd (bd (pu p_other) fun v11 => ofO (fldT "name" (okL fc_name) emp v11)) fun v13 => ofO (eqT emp v12 v13)) tb) fun v14 => if v14 = true then bd (bd (pu p_one) fun v17 => bd (pu p_other) fun v18 => bd (pu b8.1) fun v19 => bd (bd (pu p_by_birth) fun v15 => bd (tb v15) fun v16 => if v16 = true then (pu b8.2) else pu (.bl false)) fun v20 => bd (pu p_turned) fun v21 => m_Walk_meets p_D p_F v17 v18 v19 v20 v21) fun _ => pu s9 else bd (bd (bd (pu x10) fun v25 => bd (pu b8.1) fun v26 => bd (bd (bd (pu p_one) fun v22 => ofO (fldT "steps" (okL fc_steps) emp v22)) fun v23 => bd (pu (.int 1)) fun v24 => ofO (addT emp v23 v24)) fun v27 => pu (.obj "End" nsE [v25, v26, v27])) fun v28 => bd (pu p_other) fun v29 => pu (.tup [v28, v29])) fun v30 => bd (bd (bd (pu p_turned) tb) fun v32 => if v32 = true then (bd (bd (pu p_other) fun v36 => bd (bd (pu v30) fun v34 => bd (pu (.int 0)) fun v35 => ofO (ixT emp v34 v35)) fun v37 => pu (.tup [v36, v37])) fun v38 => pu v38 : PM _ (T)) else pu v30) fun s33 => bd (bd (bd (pu s33) fun v42 => bd (pu (.int 0)) fun v43 => ofO (ixT emp v42 v43)) fun v48 => bd (bd (pu s33) fun v44 => bd (pu (.int 1)) fun v45 => ofO (ixT emp v44 v45)) fun v49 => bd (bd (pu p_by_birth) fun v46 => bd (tb v46) fun v47 => if v47 = true then (pu b8.2) else pu (.bl false)) fun v50 => pu (.tup [v48, v49, v50])) fun v41 => bd (appM s9 v41) fun ys40 => pu ys40) xs51 s3) fun (s9 : List T) => pu s9) xs52 ys1) fun (s3 : List T) => bd (pu (.lst s3)) fun v53 => pu v53
theorem x_Walk_go (S : Sto) (wm wg : Addr) (p_D p_F p_one p_other p_by_birth p_turned : T) (ne : wm ≠ wg) : XS (W2 S wm wg) [some (walkT p_D p_F wm wg), some p_one, some p_other, some p_by_birth, some p_turned, none, none, none, none, none] [] c_Walk_go (m_Walk_go p_D p_F p_one p_other p_by_birth p_turned) .rt :=
  (xs_new (xn_lst xa_nil) fun ys1 a2 => (xs_seq (xs_for (σ := List T) (P := fun s3 => [some (walkT p_D p_F wm wg), some p_one, some p_other, some p_by_birth, some p_turned, some (.ref a2), none, none, none, none]) (C := fun s3 => [(a2, .lst s3)]) (s0 := ys1) (xiy_seq (xe_op opv_dgT (XE.v (xe_fldv rfl wf_families)) (XE.v (xe_un unv_fldT (XE.v (xe_var rfl)))))) ⟨.inr rfl, .inr rfl, .inr rfl, .inr rfl, .inr rfl, .inr rfl, .inl rfl, .inl rfl, .inl rfl, .inl rfl, trivial⟩ rfl (fun x7 s3 => xf_un xg_2 fun b8 => (xs_seq (xs_for (σ := List T) (P := fun s9 => [some (walkT p_D p_F wm wg), some p_one, some p_other, some p_by_birth, some p_turned, some (.ref a2), some b8.1, some b8.2, none, none]) (C := fun s9 => [(a2, .lst s9)]) (s0 := s3) (xiy_seq (xe_var rfl)) ⟨.inr rfl, .inr rfl, .inr rfl, .inr rfl, .inr rfl, .inr rfl, .inr rfl, .inr rfl, .inl rfl, .inl rfl, trivial⟩ rfl (fun x10 s9 => xf_name (xs_ifE (xb_val (xe_op opv_eqT (XE.v (xe_var rfl)) (XE.v (xe_un unv_fldT (XE.v (xe_var rfl)))))) (xs_assoc (xs_do (xe_wself ne rfl (by decide) (xa_cons (xe_var rfl) (xa_cons (xe_var rfl) (xa_cons (xe_var rfl) (xa_cons (xe_and (xe_var rfl) (xe_var rfl)) (xa_cons (xe_var rfl) xa_nil)))))) (xs_skipseq (xs_skip rfl ⟨.inr rfl, .inr rfl, .inr rfl, .inr rfl, .inr rfl, .inr rfl, .inr rfl, .inr rfl, .inl rfl, .inl rfl, trivial⟩)))) (xs_assoc (xs_set (xe_tup (xa_cons (xe_makeI (xa_cons (xe_var rfl) (xa_cons (xe_var rfl) (xa_cons (xe_op opv_addT (XE.v (xe_un unv_fldT (XE.v (xe_var rfl)))) (XE.v xe_c)) xa_nil)))) (xa_cons (xe_var rfl) xa_nil))) fun v30 => (xs_assoc (xs_seq (σ := T) (P := fun s33 => [some (walkT p_D p_F wm wg), some p_one, some p_other, some p_by_birth, some p_turned, some (.ref a2), some b8.1, some b8.2, some x10, some s33]) (C := fun s33 => [(a2, .lst s9)]) (xs_if (xb_val (xe_var rfl)) (xs_set (xe_tup (xa_cons (xe_var rfl) (xa_cons (xe_op opv_ixT (XE.v (xe_var rfl)) (XE.v xe_c)) xa_nil))) fun v38 => (xs_skip rfl ⟨.inr rfl, .inr rfl, .inr rfl, .inr rfl, .inr rfl, .inr rfl, .inr rfl, .inr rfl, .inr rfl, .inr rfl, trivial⟩)) (xs_skip rfl ⟨.inr rfl, .inr rfl, .inr rfl, .inr rfl, .inr rfl, .inr rfl, .inr rfl, .inr rfl, .inr rfl, .inr rfl, trivial⟩)) fun s33 => (xs_assoc (xs_app (l1 := []) (l2 := []) rfl (xe_tup (xa_cons (xe_op opv_ixT (XE.v (xe_var rfl)) (XE.v xe_c)) (xa_cons (xe_op opv_ixT (XE.v (xe_var rfl)) (XE.v xe_c)) (xa_cons (xe_and (xe_var rfl) (xe_var rfl)) xa_nil)))) fun ys40 => (xs_skipseq (xs_skip rfl ⟨.inr rfl, .inr rfl, .inr rfl, .inr rfl, .inr rfl, .inr rfl, .inr rfl, .inr rfl, .inl rfl, .inl rfl, trivial⟩))))))))))) fun s9 => (xs_skip rfl ⟨.inr rfl, .inr rfl, .inr rfl, .inr rfl, .inr rfl, .inr rfl, .inl rfl, .inl rfl, .inl rfl, .inl rfl, trivial⟩)))) fun s3 => (xs_ret (g := fun v => v) (fun _ => rfl) (xv_cell rfl (.head _)))))
def sp_Walk_go : SpT := spW (fun D F => u4 (m_Walk_go D F))
theorem len_Walk_go : ∀ ts S Q E, sp_Walk_go ts S Q E → ts.length = 5 := spW_len fun _ _ => ar4
theorem vc_Walk_go : VC N_Walk_go sp_Walk_go c_Walk_go := vc_w fun S wm wg D F ts ne => match ts with
  | [] => xs_stuck
  | [_] => xs_stuck
  | [_, _] => xs_stuck
  | [_, _, _] => xs_stuck
  | [p_one, p_other, p_by_birth, p_turned] => x_Walk_go S wm wg D F p_one p_other p_by_birth p_turned ne
  | _ :: _ :: _ :: _ :: _ :: _ => xs_stuck
def N_Walk_go_on : List Str := ["self", "one", "other", "by_birth"]
def c_Walk_go_on : TTS :=
  (cSeq (cIfS (bVal (cOp geT (cOp dgT (cUn (fldT "depth" (okL fc_depth)) (cVar 0)) (cUn (fldT "name" (okL fc_name)) (cVar 1))) (cOp dgT (cUn (fldT "depth" (okL fc_depth)) (cVar 0)) (cUn (fldT "name" (okL fc_name)) (cVar 2))))) (cSeq (cRet (cMeth "Walk" "go" sp_Walk_go (cVar 0) (cCons (cVar 1) (cCons (cVar 2) (cCons (cVar 3) (cCons (cC (.bl false)) cNil))))))
    cSkip) cSkip)
    (cSeq (cRet (cMeth "Walk" "go" sp_Walk_go (cVar 0) (cCons (cVar 2) (cCons (cVar 1) (cCons (cVar 3) (cCons (cC (.bl true)) cNil))))))
    cSkip))
def m_Walk_go_on (p_D p_F p_one p_other p_by_birth : T) : PM (DD × DD) T :=
  bd (bd (bd (bd (pu p_D) fun v2 => bd (bd (pu p_one) fun v1 => ofO (fldT "name" (okL fc_name) emp v1)) fun v3 => ofO (dgT emp v2 v3)) fun v7 => bd (bd (pu p_D) fun v5 => bd (bd (pu p_other) fun v4 => ofO (fldT "name" (okL fc_name) emp v4)) fun v6 => ofO (dgT emp v5 v6)) fun v8 => ofO (geT emp v7 v8)) tb) fun v9 => if v9 = true then bd (bd (pu p_one) fun v10 => bd (pu p_other) fun v11 => bd (pu p_by_birth) fun v12 => bd (pu (.bl false)) fun v13 => m_Walk_go p_D p_F v10 v11 v12 v13) fun v14 => pu v14 else bd (bd (pu p_other) fun v15 => bd (pu p_one) fun v16 => bd (pu p_by_birth) fun v17 => bd (pu (.bl true)) fun v18 => m_Walk_go p_D p_F v15 v16 v17 v18) fun v19 => pu v19
theorem x_Walk_go_on (S : Sto) (wm wg : Addr) (p_D p_F p_one p_other p_by_birth : T) (ne : wm ≠ wg) : XS (W2 S wm wg) [some (walkT p_D p_F wm wg), some p_one, some p_other, some p_by_birth] [] c_Walk_go_on (m_Walk_go_on p_D p_F p_one p_other p_by_birth) .rt :=
  (xs_ifE (xb_val (xe_opx opx_geT (xe_op opv_dgT (XE.v (xe_fldv rfl wf_depth)) (XE.v (xe_un unv_fldT (XE.v (xe_var rfl))))) (xe_op opv_dgT (XE.v (xe_fldv rfl wf_depth)) (XE.v (xe_un unv_fldT (XE.v (xe_var rfl))))))) (xs_assoc (xs_ret (g := fun v => v) (fun _ => rfl) (XE.v (xe_wself ne rfl (by decide) (xa_cons (xe_var rfl) (xa_cons (xe_var rfl) (xa_cons (xe_var rfl) (xa_cons xe_c xa_nil)))))))) (xs_skipseq (xs_ret (g := fun v => v) (fun _ => rfl) (XE.v (xe_wself ne rfl (by decide) (xa_cons (xe_var rfl) (xa_cons (xe_var rfl) (xa_cons (xe_var rfl) (xa_cons xe_c xa_nil)))))))))
def sp_Walk_go_on : SpT := spW (fun D F => u3 (m_Walk_go_on D F))
theorem len_Walk_go_on : ∀ ts S Q E, sp_Walk_go_on ts S Q E → ts.length = 4 := spW_len fun _ _ => ar3
theorem vc_Walk_go_on : VC N_Walk_go_on sp_Walk_go_on c_Walk_go_on := vc_w fun S wm wg D F ts ne => match ts with
  | [] => xs_stuck
  | [_] => xs_stuck
  | [_, _] => xs_stuck
  | [p_one, p_other, p_by_birth] => x_Walk_go_on S wm wg D F p_one p_other p_by_birth ne
  | _ :: _ :: _ :: _ :: _ => xs_stuck
def N_Walk_told : List Str := ["self", "a", "b", "line", "one", "other", "by_birth", "mark"]
def c_Walk_told : TTS :=
  (cSeq (cSet 3 (cLstM (cCons (cTup (cCons (cMake "End" sp_End___init__ (cCons (cVar 1) (cCons (cTup cNil) (cCons (cC (.int 0)) cNil)))) (cCons (cMake "End" sp_End___init__ (cCons (cVar 2) (cCons (cTup cNil) (cCons (cC (.int 0)) cNil)))) (cCons (cC (.bl true)) cNil)))) cNil)))
    (cSeq (cWhile (bVal (cOp neE (cVar 3) (cLst cNil))) ((cSeq (cAsg (cPop (cVar 3)) (gT (gC (gN 4) (gC (gN 5) (gC (gN 6) gZ)))))
    (cSeq (cSet 7 (cTup (cCons (cUn (fldT "name" (okL fc_name)) (cVar 4)) (cCons (cUn (fldT "family" (okL fc_family)) (cVar 4)) (cCons (cUn (fldT "steps" (okL fc_steps)) (cVar 4)) (cCons (cUn (fldT "name" (okL fc_name)) (cVar 5)) (cCons (cUn (fldT "family" (okL fc_family)) (cVar 5)) (cCons (cUn (fldT "steps" (okL fc_steps)) (cVar 5)) (cCons (cVar 6) cNil)))))))))
    (cSeq (cIfS (bVal (cOp tninT (cVar 7) (cUn (fldT "met" (okL fc_met)) (cVar 0)))) (cSeq (cTput (cUn (fldT "met" (okL fc_met)) (cVar 0)) (cVar 7) (cC (.bl true)))
    (cSeq (cDo (cExt (cVar 3) (cMeth "Walk" "go_on" sp_Walk_go_on (cVar 0) (cCons (cVar 4) (cCons (cVar 5) (cCons (cVar 6) cNil))))))
    cSkip)) cSkip)
    cSkip)))))
    (cSeq (cRet (cFn tupleF (cCons (cFn sktF (cCons (cUn (fldT "found" (okL fc_found)) (cVar 0)) cNil)) cNil)))
    cSkip)))
def m_Walk_told (p_D p_F p_a p_b : T) : PM (DD × DD) T :=
  bd (bd (bd (bd (pu p_a) fun v1 => bd (pu (.tup [])) fun v2 => bd (pu (.int 0)) fun v3 => pu (.obj "End" nsE [v1, v2, v3])) fun v7 => bd (bd (pu p_b) fun v4 => bd (pu (.tup [])) fun v5 => bd (pu (.int 0)) fun v6 => pu (.obj "End" nsE [v4, v5, v6])) fun v8 => bd (pu (.bl true)) fun v9 => pu (.tup [v7, v8, v9])) fun v10 => pu [v10]) fun ys11 => bd (whM (fun (s13 : List T) => (bd (bd (pu (.lst s13)) fun v14 => bd ((pu (.lst []) : PM _ T)) fun v15 => ofO (neE emp v14 v15)) tb)) (fun s13 => bd (popL s13) fun b16 => bd (ofO (un3 b16.1)) fun b17 => bd (bd (bd (pu b17.1) fun v19 => ofO (fldT "name" (okL fc_name) emp v19)) fun v25 => bd (bd (pu b17.1) fun v20 => ofO (fldT "family" (okL fc_family) emp v20)) fun v26 => bd (bd (pu b17.1) fun v21 => ofO (fldT "steps" (okL fc_steps) emp v21)) fun v27 => bd (bd (pu b17.2.1) fun v22 => ofO (fldT "name" (okL fc_name) emp v22)) fun v28 => bd (bd (pu b17.2.1) fun v23 => ofO (fldT "family" (okL fc_family) emp v23)) fun v29 => bd (bd (pu b17.2.1) fun v24 => ofO (fldT "steps" (okL fc_steps) emp v24)) fun v30 => bd (pu b17.2.2) fun v31 => pu (.tup [v25, v26, v27, v28, v29, v30, v31])) fun v32 => bd (bd (bd (pu v32) fun v34 => linM tninT Prod.fst v34) tb) fun v35 => if v35 = true then bd (pu (.bl true)) fun v36 => bd (pu v32) fun v37 => bd (lputM Prod.fst (fun k r => (r, k.2)) v37 v36) fun _ => bd (bd (pu b17.1) fun v40 => bd (pu b17.2.1) fun v41 => bd (pu b17.2.2) fun v42 => m_Walk_go_on p_D p_F v40 v41 v42) fun v39 => bd (extM b16.2 v39) fun ys38 => pu ys38 else pu b16.2) fuel ys11) fun (s13 : List T) => bd (bd (lunM sktT Prod.snd) fun v43 => ofO (tupleF emp [v43])) fun v44 => pu v44
theorem x_Walk_told (S : Sto) (wm wg : Addr) (p_D p_F p_a p_b : T) (ne : wm ≠ wg) : XS (W2 S wm wg) [some (walkT p_D p_F wm wg), some p_a, some p_b, none, none, none, none, none] [] c_Walk_told (m_Walk_told p_D p_F p_a p_b) .rt :=
  (xs_new (xn_lst (xa_cons (xe_tup (xa_cons (xe_makeI (xa_cons (xe_var rfl) (xa_cons (xe_tup xa_nil) (xa_cons xe_c xa_nil)))) (xa_cons (xe_makeI (xa_cons (xe_var rfl) (xa_cons (xe_tup xa_nil) (xa_cons xe_c xa_nil)))) (xa_cons xe_c xa_nil)))) xa_nil)) fun ys11 a12 => (xs_seq (xs_wh (σ := List T) (P := fun s13 => [some (walkT p_D p_F wm wg), some p_a, some p_b, some (.ref a12), none, none, none, none]) (C := fun s13 => [(a12, .lst s13)]) (s0 := ys11) ⟨.inr rfl, .inr rfl, .inr rfl, .inr rfl, .inl rfl, .inl rfl, .inl rfl, .inl rfl, trivial⟩ rfl (fun s13 => (xb_val (xe_op opv_neE (xv_cell rfl (.head _)) (XE.v (xe_lst xa_nil))))) (fun s13 => (xs_asgpop (l1 := []) (l2 := []) rfl xg_3 fun b16 b17 => (xs_set (xe_tup (xa_cons (xe_un unv_fldT (XE.v (xe_var rfl))) (xa_cons (xe_un unv_fldT (XE.v (xe_var rfl))) (xa_cons (xe_un unv_fldT (XE.v (xe_var rfl))) (xa_cons (xe_un unv_fldT (XE.v (xe_var rfl))) (xa_cons (xe_un unv_fldT (XE.v (xe_var rfl))) (xa_cons (xe_un unv_fldT (XE.v (xe_var rfl))) (xa_cons (xe_var rfl) xa_nil)))))))) fun v32 => (xs_ifE (xb_val (xe_lop (lens1 ne) rfl wf_met opv_tninT (xe_var rfl))) (xs_assoc (xs_lput (lens1 ne) rfl wf_met xe_c (xe_var rfl) (xs_assoc (xs_ext (l1 := []) (l2 := []) rfl (XE.v (xe_wself ne rfl (by decide) (xa_cons (xe_var rfl) (xa_cons (xe_var rfl) (xa_cons (xe_var rfl) xa_nil))))) fun ys38 => (xs_skipseq (xs_skip rfl ⟨.inr rfl, .inr rfl, .inr rfl, .inr rfl, .inl rfl, .inl rfl, .inl rfl, .inl rfl, trivial⟩)))))) (xs_skipseq (xs_skip rfl ⟨.inr rfl, .inr rfl, .inr rfl, .inr rfl, .inl rfl, .inl rfl, .inl rfl, .inl rfl, trivial⟩))))))) fun s13 => (xs_ret (g := fun v => v) (fun _ => rfl) (XE.v (xe_fn fnv_tupleF (xav_cons (XE.v (xe_lun (lens2 ne) rfl wf_found unv_sktT fun _ _ => rfl)) xav_nil))))))
def sp_Walk_told : SpT := spW (fun D F => u2 (m_Walk_told D F))
theorem len_Walk_told : ∀ ts S Q E, sp_Walk_told ts S Q E → ts.length = 3 := spW_len fun _ _ => ar2
theorem vc_Walk_told : VC N_Walk_told sp_Walk_told c_Walk_told := vc_w fun S wm wg D F ts ne => match ts with
  | [] => xs_stuck
  | [_] => xs_stuck
  | [p_a, p_b] => x_Walk_told S wm wg D F p_a p_b ne
  | _ :: _ :: _ :: _ => xs_stuck
def N_Walk___init__ : List Str := ["self", "book", "name", "mark"]
def c_Walk___init__ : TTS :=
  (cSeq (cFput "depth" (okL fc_depth) (cVar 0) (cCall sp_depths (cCons (cVar 1) cNil)))
    (cSeq (cFput "families" (okL fc_families) (cVar 0) (cFn dictF (cCons (cComp (iSeq (cOp ixT (cVar 1) (cC (.int 0)))) (gT (gC (gN 2) (gC (gN 3) gZ))) bYes (cTup (cCons (cVar 2) (cCons (cCall sp_families_of (cCons (cVar 1) (cCons (cVar 2) cNil))) cNil))) [2, 3]) cNil)))
    (cSeq (cFput "met" (okL fc_met) (cVar 0) cDnewM)
    (cSeq (cFput "found" (okL fc_found) (cVar 0) cDnewM)
    cSkip))))
def m_Walk___init__ (p_book : T) : PM Unit (T × T) := bd (bd (pu p_book) fun v1 => lft (m_depths v1)) fun D => bd (bd (bd (bd (bd (pu p_book) fun v2 => bd (pu (.int 0)) fun v3 => ofO (ixT emp v2 v3)) itemsM) fun xs11 => bd (compG (fun x4 => bd (ofO (un2 x4)) fun b5 => bd (bd (pu b5.1) fun v8 => bd (bd (pu p_book) fun v6 => bd (pu b5.1) fun v7 => lft (m_families_of v6 v7)) fun v9 => pu (.tup [v8, v9])) fun v10 => pu (some v10)) xs11) fun ys12 => pu (.lst ys12)) fun v13 => ofO (dictF emp [v13])) fun F => pu (D, F)
def sp_Walk___init__ : SpT := spWI m_Walk___init__
theorem len_Walk___init__ : ∀ ts S Q E, sp_Walk___init__ ts S Q E → ts.length = 2 := spWI_len
theorem vc_Walk___init__ : VC N_Walk___init__ sp_Walk___init__ c_Walk___init__ := vc_WI rfl rfl rfl rfl (fun W l wa p_book => (xe_call (xa_cons (xe_var rfl) xa_nil))) (fun W l wa p_book => (xe_fn fnv_dictF (xav_cons (XE.v (xe_comp (XIy.i (xiy_seq (xe_op opv_ixT (XE.v (xe_var rfl)) (XE.v xe_c)))) (fun x4 => xc_unY xg_2 fun b5 => (xe_tup (xa_cons (xe_var rfl) (xa_cons (xe_call (xa_cons (xe_var rfl) (xa_cons (xe_var rfl) xa_nil))) xa_nil)))))) xav_nil)))
def N_ties : List Str := ["book", "a", "b"]
def c_ties : TTS :=
  (cSeq (cRet (cMeth "Walk" "told" sp_Walk_told (cMake "Walk" sp_Walk___init__ (cCons (cVar 0) cNil)) (cCons (cVar 1) (cCons (cVar 2) cNil))))
    cSkip)
def m_ties (p_book p_a p_b : T) : PM Unit T :=
  bd (bd (pu p_book) fun v1 => bd (lft (nox (m_Walk___init__ v1))) fun q2 => (bd (pu p_a) fun v3 => bd (pu p_b) fun v4 => runW (m_Walk_told q2.1 q2.2 v3 v4))) fun v5 => pu v5
theorem x_ties (S : Sto) (p_book p_a p_b : T) : XS (fun _ : Unit => S) [some p_book, some p_a, some p_b] [] c_ties (m_ties p_book p_a p_b) .rt :=
  (xs_ret (g := fun v => v) (fun _ => rfl) (XE.v (xe_walk (by decide) (xe_var rfl) fun _ => (xa_cons (xe_var rfl) (xa_cons (xe_var rfl) xa_nil)))))
def sp_ties : SpT := spU (u3 m_ties)
theorem len_ties : ∀ ts S Q E, sp_ties ts S Q E → ts.length = 3 := spU_len ar3
theorem vc_ties : VC N_ties sp_ties c_ties := vc_u3 x_ties
def N_law_pen_of : List Str := ["_law_script", "_law_cell"]
def c_law_pen_of : TTS :=
  (cSeq (cRet (cLstM (cCons (cComp (iSeq (cSl (cVar 0) oNo (oSome (cC (.int 63))))) (gN 1) bYes (cVar 1) [1]) (cCons (cC (.int 0)) (cCons (cC (.int 0)) cNil)))))
    cSkip)
abbrev sp_law_pen_of : SpT := sp_pen_of
theorem len_law_pen_of : ∀ ts S Q E, sp_law_pen_of ts S Q E → ts.length = 1 := fun ts S Q E h => by obtain ⟨_, rfl, _⟩ := h; rfl
theorem vc_law_pen_of : VC N_law_pen_of sp_law_pen_of c_law_pen_of := by
  rintro ts S Q E ⟨a, rfl, ns, rfl, hq⟩
  simp only [c_law_pen_of, N_law_pen_of, cSeq, cSkip, cRet, cRetN, cSet, cAsg, cDo, cIfS, cPar2, cPar3, cBrk, cCont, cVar, cC, cOp, cUn, cIf, cNil, cCons, cTup, cLst, cLstM, bVal, bAnd, bOr, bNot, bYes, cAnd, cOr, cNot, cCall, cFn, cM, cSl, oNo, oSome, cChain, gN, gT, gL, gZ, gC, gIx, cApp, cExt, cPop, cClr, TL.startT, List.map_cons, List.map_nil, List.cons_append, List.nil_append, List.length_cons, List.length_nil, List.replicate_succ, List.replicate_zero, List.set_cons_zero, List.set_cons_succ, List.getElem?_cons_zero, List.getElem?_cons_succ, Option.some.injEq, Option.map_some, exists_eq_left', exists_eq_left, T.bl.injEq, T.int.injEq, T.str.injEq, T.tup.injEq, T.lst.injEq, T.ref.injEq, List.cons.injEq, and_true, true_and, res, wipeT, sp1_at, sp2_at, sp3_at, sp4_at, sp5_at, Nat.reduceAdd, Nat.reduceSub, if_true, if_false, Bool.false_eq_true, Bool.true_eq_false, cComp, iSeq, slT_scr, items]
  have hl : (cutT ns none (some 63)).length ≤ 63 := by
    have h1 := cut_le ns none 63 (by omega)
    omega
  have hs := sizeLine_eq
  refine compT_map id trivial (by rw [List.length_map]; omega) ?_ ?_
  · rw [List.map_id]
    refine ⟨by omega, fun p hp => Fin.of (hq p _ hp ⟨_, 0, 0, rfl, by omega, by omega, by omega, hl⟩)⟩
  · intro x hx R N h
    simpa only [cSeq, cSkip, cRet, cRetN, cSet, cAsg, cDo, cIfS, cPar2, cPar3, cBrk, cCont, cVar, cC, cOp, cUn, cIf, cNil, cCons, cTup, cLst, cLstM, bVal, bAnd, bOr, bNot, bYes, cAnd, cOr, cNot, cCall, cFn, cM, cSl, oNo, oSome, cChain, gN, gT, gL, gZ, gC, gIx, cApp, cExt, cPop, cClr, TL.startT, List.map_cons, List.map_nil, List.cons_append, List.nil_append, List.length_cons, List.length_nil, List.replicate_succ, List.replicate_zero, List.set_cons_zero, List.set_cons_succ, List.getElem?_cons_zero, List.getElem?_cons_succ, Option.some.injEq, Option.map_some, exists_eq_left', exists_eq_left, T.bl.injEq, T.int.injEq, T.str.injEq, T.tup.injEq, T.lst.injEq, T.ref.injEq, List.cons.injEq, and_true, true_and, res, wipeT, sp1_at, sp2_at, sp3_at, sp4_at, sp5_at, Nat.reduceAdd, Nat.reduceSub, if_true, if_false, Bool.false_eq_true, Bool.true_eq_false, wipeT, id] using h
def N_law_draw : List Str := ["_law_pen", "_law_many", "_law_digit", "_law_at", "_law_cell", "_law_number"]
def c_law_draw : TTS :=
  (cSeq (cIfS (bVal (cOp gtT (cOp ixT (cVar 0) (cC (.int 2))) (cC (.int 0)))) (cSeq (cSet 2 (cOp modT (cOp ixT (cVar 0) (cC (.int 2))) (cVar 1)))
    (cSeq (cAsg (cOp fdivT (cOp ixT (cVar 0) (cC (.int 2))) (cVar 1)) (gIx (cVar 0) (cC (.int 2))))
    (cSeq (cRet (cVar 2))
    cSkip))) cSkip)
    (cSeq (cSet 3 (cOp ixT (cVar 0) (cC (.int 1))))
    (cSeq (cAsg (cOp addT (cVar 3) (cC (.int 1))) (gIx (cVar 0) (cC (.int 1))))
    (cSeq (cSet 4 (cC (.int 11)))
    (cSeq (cIfS (bVal (cOp gtT (cFn lenF (cCons (cOp ixT (cVar 0) (cC (.int 0))) cNil)) (cC (.int 0)))) (cSeq (cSet 4 (cOp ixT (cOp ixT (cVar 0) (cC (.int 0))) (cOp modT (cVar 3) (cFn lenF (cCons (cOp ixT (cVar 0) (cC (.int 0))) cNil)))))
    cSkip) cSkip)
    (cSeq (cIfS (bAnd (bVal (cOp ltT (cVar 3) (cFn lenF (cCons (cOp ixT (cVar 0) (cC (.int 0))) cNil)))) (bVal (cOp geT (cFn absF (cCons (cVar 4) cNil)) (cOp powT (cC (.int 10)) (cC (.int 18)))))) (cSeq (cAsg (cOp fdivT (cFn absF (cCons (cVar 4) cNil)) (cVar 1)) (gIx (cVar 0) (cC (.int 2))))
    (cSeq (cRet (cOp modT (cFn absF (cCons (cVar 4) cNil)) (cVar 1)))
    cSkip)) cSkip)
    (cSeq (cSet 5 (cOp modT (cOp mulT2 (cOp addT (cOp addT (cOp modT (cVar 4) (cC (.int 2147483647))) (cOp mulT2 (cC (.int 69621)) (cVar 3))) (cC (.int 13))) (cC (.int 48271))) (cC (.int 2147483629))))
    (cSeq (cSet 5 (cOp modT (cOp mulT2 (cOp modT (cOp mulT2 (cVar 5) (cVar 5)) (cC (.int 2147483587))) (cOp addT (cOp addT (cOp modT (cVar 5) (cC (.int 65521))) (cOp mulT2 (cC (.int 7)) (cVar 3))) (cC (.int 1)))) (cC (.int 2147483563))))
    (cSeq (cRet (cOp modT (cOp fdivT (cVar 5) (cC (.int 32))) (cVar 1)))
    cSkip)))))))))
abbrev m_law_draw (t : T) : PM Cell T := m_draw t
def sp_law_draw : SpT := spP (u1 m_draw)
theorem len_law_draw : ∀ ts S Q E, sp_law_draw ts S Q E → ts.length = 2 := spP_len ar1
theorem vc_law_draw : VC N_law_draw sp_law_draw c_law_draw := by
  rintro ts S Q E ⟨p, rs, c, rfl, h4, h⟩
  have hr : ∃ t, rs = [t] := by
    have := ar1 (f := m_draw) rs c (sat_nb h)
    match rs, this with
    | [t], _ => exact ⟨t, rfl⟩
  obtain ⟨t, rfl⟩ := hr
  obtain ⟨ns, at_, rest, many, rfl, rfl, ⟨h1, h2, a1, a2, a3, a4⟩, hq⟩ := sat_draw h
  clear h
  unfold penCell at h4
  simp only [c_law_draw, N_law_draw, cSeq, cSkip, cRet, cRetN, cSet, cAsg, cDo, cIfS, cPar2, cPar3, cBrk, cCont, cVar, cC, cOp, cUn, cIf, cNil, cCons, cTup, cLst, cLstM, bVal, bAnd, bOr, bNot, bYes, cAnd, cOr, cNot, cCall, cFn, cM, cSl, oNo, oSome, cChain, gN, gT, gL, gZ, gC, gIx, cApp, cExt, cPop, cClr, TL.startT, List.map_cons, List.map_nil, List.cons_append, List.nil_append, List.length_cons, List.length_nil, List.replicate_succ, List.replicate_zero, List.set_cons_zero, List.set_cons_succ, List.getElem?_cons_zero, List.getElem?_cons_succ, Option.some.injEq, Option.map_some, exists_eq_left', exists_eq_left, T.bl.injEq, T.int.injEq, T.str.injEq, T.tup.injEq, T.lst.injEq, T.ref.injEq, List.cons.injEq, and_true, true_and, res, wipeT, sp1_at, sp2_at, sp3_at, sp4_at, sp5_at, Nat.reduceAdd, Nat.reduceSub, if_true, if_false, Bool.false_eq_true, Bool.true_eq_false, ex_ite, addT_int, addT_str, addT_lst, addT_tup, subT_int, mulT2_int, mulT2_str, fdivT_int, modT_int, powT_int, negT_int, eqT_int, neT_int, eqT_str, neT_str, eqT_bl, neT_bl, ltT_int, gtT_int, leT_int, geT_int, ixT_lst, ixT_tup, ixT_str, atI_0, atI_1, atI_2, atI_3, ixT_ups, lenF_ups, ixN_30, ixN_31, ixN_32, lenF_lst, lenF_tup, lenF_str, absF_int, intF_int, intF_bl, max2F_int, min2F_int, strF_int, isi_str, isi_int, isi_tup, isi_lst, slT_lst, slT_tup, slT_str, slT_scr, ssetT_lst, ssetT_tup, slenT_lst, slenT_tup, sortedF_lst, sortedF_tup, tupleF_lst, tupleF_tup, listF_lst, listF_tup, inT_strs, ninT_strs, ups_ups, ups_same, decide_eq_true_eq, Cell.lst.injEq, Option.map_eq_some_iff, exists_and_left, exists_const, Bool.not_eq_true', ixT_ref h4, h4]
  have a2 : at_ ≤ 1000000000000000000000000000000 := a2
  unfold drawStep at hq
  by_cases r : 0 < rest
  · rw [if_pos r] at hq ⊢
    exact ⟨modI_b h1, divI_b h1 (by omega), Fin.of hq⟩
  rw [if_neg r] at hq ⊢
  have m1 : mulI 69621 at_ = true := mulI_b (by omega) (by omega)
  have m2 : mulI 7 at_ = true := mulI_b (by omega) (by omega)
  have m3 : ∀ z : Int, mulI (z.fmod 2147483647 + 69621 * at_ + 13) 48271 = true := fun z => by
    have := fmod_lo (i := z) (j := 2147483647) (by omega)
    have := fmod_hi (i := z) (j := 2147483647) (by omega)
    exact mulI_b (by omega) (by omega)
  have m4 : ∀ z : Int, mulI (z.fmod 2147483629) (z.fmod 2147483629) = true := fun z => by
    have := fmod_lo (i := z) (j := 2147483629) (by omega)
    have := fmod_hi (i := z) (j := 2147483629) (by omega)
    exact mulI_b (by omega) (by omega)
  have m5 : ∀ z y : Int, mulI (z.fmod 2147483587) (y.fmod 65521 + 7 * at_ + 1) = true := fun z y => by
    have := fmod_lo (i := z) (j := 2147483587) (by omega)
    have := fmod_hi (i := z) (j := 2147483587) (by omega)
    have := fmod_lo (i := y) (j := 65521) (by omega)
    have := fmod_hi (i := y) (j := 65521) (by omega)
    exact mulI_b (by omega) (by omega)
  have hp : powI 10 18 = true := by decide
  have e1 : ∀ z : Int, modI z 2147483647 = true := fun z => modI_b (by omega)
  have e2 : ∀ z : Int, modI z 2147483629 = true := fun z => modI_b (by omega)
  have e3 : ∀ z : Int, modI z 2147483587 = true := fun z => modI_b (by omega)
  have e4 : ∀ z : Int, modI z 65521 = true := fun z => modI_b (by omega)
  have e5 : ∀ z : Int, modI z 2147483563 = true := fun z => modI_b (by omega)
  have e6 : ∀ z : Int, modI z many = true := fun z => modI_b h1
  have e7 : ∀ z : Int, divI z many = true := fun z => divI_b h1 (by omega)
  have e8 : ∀ z : Int, divI z 32 = true := fun z => divI_b (by omega) (by omega)
  have ft : (false = true) = False := by simp
  have t18 : (10 : Int) ^ Int.toNat 18 = 10 ^ 18 := rfl
  by_cases l : 0 < ((ns.map T.int).length : Int)
  · rw [if_pos l]
    refine ⟨modI_b l, ?_⟩
    have ll : 0 < ns.length := by rw [List.length_map] at l; omega
    have ez : L2.atI (ns.map T.int) (at_.fmod ((ns.map T.int).length : Int)) = some (.int (cellAt ns at_)) := by
      have lo := fmod_lo (i := at_) l
      have hi := fmod_hi (i := at_) l
      rw [List.length_map] at lo hi ⊢
      unfold cellAt
      rw [if_pos ll, atI_map]
      obtain ⟨k, hk⟩ := Int.eq_ofNat_of_zero_le lo
      rw [hk, atI_natE, Int.toNat_natCast, List.getD_eq_getElem?_getD]
      have : k < ns.length := by omega
      rw [List.getElem?_eq_getElem this]
      rfl
    refine ⟨_, ez, ?_⟩
    simp only [cSeq, cSkip, cRet, cRetN, cSet, cAsg, cDo, cIfS, cPar2, cPar3, cBrk, cCont, cVar, cC, cOp, cUn, cIf, cNil, cCons, cTup, cLst, cLstM, bVal, bAnd, bOr, bNot, bYes, cAnd, cOr, cNot, cCall, cFn, cM, cSl, oNo, oSome, cChain, gN, gT, gL, gZ, gC, gIx, cApp, cExt, cPop, cClr, TL.startT, List.map_cons, List.map_nil, List.cons_append, List.nil_append, List.length_cons, List.length_nil, List.replicate_succ, List.replicate_zero, List.set_cons_zero, List.set_cons_succ, List.getElem?_cons_zero, List.getElem?_cons_succ, Option.some.injEq, Option.map_some, exists_eq_left', exists_eq_left, T.bl.injEq, T.int.injEq, T.str.injEq, T.tup.injEq, T.lst.injEq, T.ref.injEq, List.cons.injEq, and_true, true_and, res, wipeT, sp1_at, sp2_at, sp3_at, sp4_at, sp5_at, Nat.reduceAdd, Nat.reduceSub, if_true, if_false, Bool.false_eq_true, Bool.true_eq_false, ex_ite, addT_int, addT_str, addT_lst, addT_tup, subT_int, mulT2_int, mulT2_str, fdivT_int, modT_int, powT_int, negT_int, eqT_int, neT_int, eqT_str, neT_str, eqT_bl, neT_bl, ltT_int, gtT_int, leT_int, geT_int, ixT_lst, ixT_tup, ixT_str, atI_0, atI_1, atI_2, atI_3, ixT_ups, lenF_ups, ixN_30, ixN_31, ixN_32, lenF_lst, lenF_tup, lenF_str, absF_int, intF_int, intF_bl, max2F_int, min2F_int, strF_int, isi_str, isi_int, isi_tup, isi_lst, slT_lst, slT_tup, slT_str, slT_scr, ssetT_lst, ssetT_tup, slenT_lst, slenT_tup, sortedF_lst, sortedF_tup, tupleF_lst, tupleF_tup, listF_lst, listF_tup, inT_strs, ninT_strs, ups_ups, ups_same, decide_eq_true_eq, Cell.lst.injEq, Option.map_eq_some_iff, exists_and_left, exists_const, Bool.not_eq_true', m1, m2, m3, m4, m5, hp, e1, e2, e3, e4, e5, e6, e7, e8, ft, if_false, t18, List.length_map]
    by_cases b1 : at_ < (ns.length : Int)
    · rw [if_pos b1] at hq ⊢
      by_cases b2 : 10 ^ 18 ≤ absI (cellAt ns at_)
      · rw [if_pos b2] at hq
        have b3 : 10 ^ 18 ≤ (if cellAt ns at_ < 0 then -(cellAt ns at_) else cellAt ns at_) := b2
        rw [if_pos b3]
        exact Fin.of hq
      · rw [if_neg b2] at hq
        have b3 : ¬ 10 ^ 18 ≤ (if cellAt ns at_ < 0 then -(cellAt ns at_) else cellAt ns at_) := b2
        rw [if_neg b3]
        exact Fin.of hq
    · rw [if_neg b1] at hq ⊢
      exact Fin.of hq
  · rw [if_neg l]
    have ll : ¬ 0 < ns.length := by rw [List.length_map] at l; omega
    have b1 : ¬ at_ < (ns.length : Int) := by omega
    have ez : cellAt ns at_ = 11 := by unfold cellAt; rw [if_neg ll]
    rw [if_neg b1, ez] at hq
    simp only [cSeq, cSkip, cRet, cRetN, cSet, cAsg, cDo, cIfS, cPar2, cPar3, cBrk, cCont, cVar, cC, cOp, cUn, cIf, cNil, cCons, cTup, cLst, cLstM, bVal, bAnd, bOr, bNot, bYes, cAnd, cOr, cNot, cCall, cFn, cM, cSl, oNo, oSome, cChain, gN, gT, gL, gZ, gC, gIx, cApp, cExt, cPop, cClr, TL.startT, List.map_cons, List.map_nil, List.cons_append, List.nil_append, List.length_cons, List.length_nil, List.replicate_succ, List.replicate_zero, List.set_cons_zero, List.set_cons_succ, List.getElem?_cons_zero, List.getElem?_cons_succ, Option.some.injEq, Option.map_some, exists_eq_left', exists_eq_left, T.bl.injEq, T.int.injEq, T.str.injEq, T.tup.injEq, T.lst.injEq, T.ref.injEq, List.cons.injEq, and_true, true_and, res, wipeT, sp1_at, sp2_at, sp3_at, sp4_at, sp5_at, Nat.reduceAdd, Nat.reduceSub, if_true, if_false, Bool.false_eq_true, Bool.true_eq_false, ex_ite, addT_int, addT_str, addT_lst, addT_tup, subT_int, mulT2_int, mulT2_str, fdivT_int, modT_int, powT_int, negT_int, eqT_int, neT_int, eqT_str, neT_str, eqT_bl, neT_bl, ltT_int, gtT_int, leT_int, geT_int, ixT_lst, ixT_tup, ixT_str, atI_0, atI_1, atI_2, atI_3, ixT_ups, lenF_ups, ixN_30, ixN_31, ixN_32, lenF_lst, lenF_tup, lenF_str, absF_int, intF_int, intF_bl, max2F_int, min2F_int, strF_int, isi_str, isi_int, isi_tup, isi_lst, slT_lst, slT_tup, slT_str, slT_scr, ssetT_lst, ssetT_tup, slenT_lst, slenT_tup, sortedF_lst, sortedF_tup, tupleF_lst, tupleF_tup, listF_lst, listF_tup, inT_strs, ninT_strs, ups_ups, ups_same, decide_eq_true_eq, Cell.lst.injEq, Option.map_eq_some_iff, exists_and_left, exists_const, Bool.not_eq_true', m1, m2, m3, m4, m5, hp, e1, e2, e3, e4, e5, e6, e7, e8, ft, if_false, t18, List.length_map]
    rw [if_neg b1]
    exact Fin.of hq
def N_law_drawn_names : List Str := ["_law_pen", "_law_many", "_law_letters", "_law_begin", "_law_size", "_law_at", "_law_word", "_law_step", "_law_found", "_law_k", "_law_letter", "_law_name"]
def c_law_drawn_names : TTS :=
  (cSeq (cSet 2 (cC (.str (q "abcdefghijklmnopqrstuvwxyz"))))
    (cSeq (cSet 3 (cCall sp_law_draw (cCons (cVar 0) (cCons (cC (.int 26)) cNil))))
    (cSeq (cSet 4 (cOp addT (cC (.int 1)) (cCall sp_law_draw (cCons (cVar 0) (cCons (cC (.int 8)) cNil)))))
    (cSeq (cSet 5 (cCall sp_law_draw (cCons (cVar 0) (cCons (cVar 4) cNil))))
    (cSeq (cSet 6 (cM isStr joinF (cC (.str (q ""))) (cCons (cComp (iRange1 (cVar 4)) (gN 9) bYes (cOp ixT (cVar 2) (cCall sp_law_draw (cCons (cVar 0) (cCons (cC (.int 26)) cNil)))) [9]) cNil)))
    (cSeq (cSet 7 (cOp ixT (cLst (cCons (cC (.int 7)) (cCons (cC (.int 5)) (cCons (cC (.int 11)) (cCons (cC (.int 17)) cNil))))) (cCall sp_law_draw (cCons (cVar 0) (cCons (cC (.int 4)) cNil)))))
    (cSeq (cSet 8 (cLstM cNil))
    (cSeq (cFor (iRange1 (cVar 1)) (gN 9) ((cSeq (cSet 10 (cOp ixT (cVar 2) (cOp modT (cOp addT (cVar 3) (cOp mulT2 (cVar 7) (cVar 9))) (cC (.int 26)))))
    (cSeq (cDo (cApp (cVar 8) (cOp addT (cOp addT (cSl (cVar 6) oNo (oSome (cVar 5))) (cVar 10)) (cSl (cVar 6) (oSome (cOp addT (cVar 5) (cC (.int 1)))) oNo))))
    cSkip))))
    (cDrop (cSeq (cIfS (bAnd (bVal (cOp gtT (cVar 4) (cC (.int 1)))) (bVal (cOp eqT (cCall sp_law_draw (cCons (cVar 0) (cCons (cC (.int 3)) cNil))) (cC (.int 0))))) (cSeq (cSet 8 (cComp (iEnum (cVar 8)) (gT (gC (gN 9) (gC (gN 11) gZ))) bYes (cSl (cVar 11) oNo (oSome (cFn max2F (cCons (cOp addT (cVar 5) (cC (.int 1))) (cCons (cOp subT (cVar 4) (cOp modT (cVar 9) (cC (.int 3)))) cNil))))) [9, 11]))
    cSkip) cSkip)
    (cSeq (cRet (cVar 8))
    cSkip)))))))))))
def m_law_drawn_names (p_many : T) : PM Cell T :=
  bd (pu (.str (q "abcdefghijklmnopqrstuvwxyz"))) fun (v1 : T) => bd (bd (pu (.int 26)) fun v3 => m_law_draw v3) fun v4 => bd (bd (pu (.int 1)) fun v7 => bd (bd (pu (.int 8)) fun v6 => m_law_draw v6) fun v8 => ofO (addT emp v7 v8)) fun v9 => bd (bd (pu v9) fun v11 => m_law_draw v11) fun v12 => bd (bd (pu (.str (q ""))) fun v14 => bd (gd (isStr v14 = true)) fun _ => (bd (bd (bd (pu v9) rng1) fun xs20 => bd (compG (fun x15 => bd (bd (pu v1) fun v17 => bd (bd (pu (.int 26)) fun v16 => m_law_draw v16) fun v18 => ofO (ixT emp v17 v18)) fun v19 => pu (some v19)) xs20) fun ys21 => pu (.lst ys21)) fun v22 => ofO (joinF emp v14 [v22]))) fun v23 => bd (bd (bd (pu (.int 7)) fun v25 => bd (pu (.int 5)) fun v26 => bd (pu (.int 11)) fun v27 => bd (pu (.int 17)) fun v28 => pu (.lst [v25, v26, v27, v28])) fun v30 => bd (bd (pu (.int 4)) fun v29 => m_law_draw v29) fun v31 => ofO (ixT emp v30 v31)) fun v32 => bd (pu ([] : List T)) fun ys34 => bd (bd (bd (pu p_many) rng1) fun xs66 => forM (fun x37 (s36 : List T) => bd (bd (pu v1) fun v44 => bd (bd (bd (pu v4) fun v40 => bd (bd (pu v32) fun v38 => bd (pu x37) fun v39 => ofO (mulT2 emp v38 v39)) fun v41 => ofO (addT emp v40 v41)) fun v42 => bd (pu (.int 26)) fun v43 => ofO (modT emp v42 v43)) fun v45 => ofO (ixT emp v44 v45)) fun v46 => bd (bd (bd (bd (pu v23) fun v52 => bd (pu none) fun v53 => bd (bd (pu v12) fun v50 => bd (intO v50) fun v51 => pu (some v51)) fun v54 => ofO (slT emp v52 v53 v54)) fun v55 => bd (pu v46) fun v56 => ofO (addT emp v55 v56)) fun v64 => bd (bd (pu v23) fun v61 => bd (bd (bd (pu v12) fun v57 => bd (pu (.int 1)) fun v58 => ofO (addT emp v57 v58)) fun v59 => bd (intO v59) fun v60 => pu (some v60)) fun v62 => bd (pu none) fun v63 => ofO (slT emp v61 v62 v63)) fun v65 => ofO (addT emp v64 v65)) fun v49 => bd (appM s36 v49) fun ys48 => pu ys48) xs66 ys34) fun (s36 : List T) => bd (bd (bd (bd (bd (pu v9) fun v70 => bd (pu (.int 1)) fun v71 => ofO (gtT emp v70 v71)) tb) fun v72 => if v72 = true then (bd (bd (bd (pu (.int 3)) fun v67 => m_law_draw v67) fun v68 => bd (pu (.int 0)) fun v69 => ofO (eqT emp v68 v69)) tb) else pu false) fun v73 => if v73 = true then (bd (bd (bd (pu (.lst s36)) enumM) fun xs91 => bd (compG (fun x75 => bd (ofO (un2 x75)) fun b76 => bd (bd (pu b76.2) fun v87 => bd (pu none) fun v88 => bd (bd (bd (bd (pu v12) fun v77 => bd (pu (.int 1)) fun v78 => ofO (addT emp v77 v78)) fun v83 => bd (bd (pu v9) fun v81 => bd (bd (pu b76.1) fun v79 => bd (pu (.int 3)) fun v80 => ofO (modT emp v79 v80)) fun v82 => ofO (subT emp v81 v82)) fun v84 => ofO (max2F emp [v83, v84])) fun v85 => bd (intO v85) fun v86 => pu (some v86)) fun v89 => ofO (slT emp v87 v88 v89)) fun v90 => pu (some v90)) xs91) fun ys92 => pu (.lst ys92)) fun v93 => pu v93 : PM _ (T)) else pu (.lst s36)) fun s74 => bd (pu s74) fun v95 => pu v95
theorem x_law_drawn_names (S : Sto) (pa : Addr) (p_many : T) : XS (penW S pa) [some (.ref pa), some p_many, none, none, none, none, none, none, none, none, none, none] [] c_law_drawn_names (m_law_drawn_names p_many) .rt :=
  (xs_set xe_c fun v1 => (xs_set (xe_callP rfl (xa_cons xe_c xa_nil)) fun v4 => (xs_set (xe_op opv_addT (XE.v xe_c) (XE.v (xe_callP rfl (xa_cons xe_c xa_nil)))) fun v9 => (xs_set (xe_callP rfl (xa_cons (xe_var rfl) xa_nil)) fun v12 => (xs_set (xe_m mtv_joinF xe_c fun v14 => (xav_cons (XE.v (xe_comp (XIy.i (xiy_range1 (xe_var rfl))) (fun x15 => xc_nameY (xe_op opv_ixT (XE.v (xe_var rfl)) (XE.v (xe_callP rfl (xa_cons xe_c xa_nil))))))) xav_nil)) fun v23 => (xs_set (xe_op opv_ixT (XE.v (xe_lst (xa_cons xe_c (xa_cons xe_c (xa_cons xe_c (xa_cons xe_c xa_nil)))))) (XE.v (xe_callP rfl (xa_cons xe_c xa_nil)))) fun v32 => (xs_new (xn_lst xa_nil) fun ys34 a35 => (xs_seq (xs_for (σ := List T) (P := fun s36 => [some (.ref pa), some p_many, some v1, some v4, some v9, some v12, some v23, some v32, some (.ref a35), none, none, none]) (C := fun s36 => [(a35, .lst s36)]) (s0 := ys34) (xiy_range1 (xe_var rfl)) ⟨.inr rfl, .inr rfl, .inr rfl, .inr rfl, .inr rfl, .inr rfl, .inr rfl, .inr rfl, .inr rfl, .inl rfl, .inl rfl, .inl rfl, trivial⟩ rfl (fun x37 s36 => xf_name (xs_set (xe_op opv_ixT (XE.v (xe_var rfl)) (XE.v (xe_op opv_modT (XE.v (xe_op opv_addT (XE.v (xe_var rfl)) (XE.v (xe_op opv_mulT2 (XE.v (xe_var rfl)) (XE.v (xe_var rfl)))))) (XE.v xe_c)))) fun v46 => (xs_app (l1 := []) (l2 := []) rfl (xe_op opv_addT (XE.v (xe_op opv_addT (XE.v (xe_sl (XE.v (xe_var rfl)) xo_no (xo_some (xe_var rfl)))) (XE.v (xe_var rfl)))) (XE.v (xe_sl (XE.v (xe_var rfl)) (xo_some (xe_op opv_addT (XE.v (xe_var rfl)) (XE.v xe_c))) xo_no))) fun ys48 => (xs_skip rfl ⟨.inr rfl, .inr rfl, .inr rfl, .inr rfl, .inr rfl, .inr rfl, .inr rfl, .inr rfl, .inr rfl, .inl rfl, .inl rfl, .inl rfl, trivial⟩))))) fun s36 => (xs_drop (i := 8) (l1 := []) (l2 := []) rfl (xs_seq (σ := T) (P := fun s74 => [some (.ref pa), some p_many, some v1, some v4, some v9, some v12, some v23, some v32, some s74, none, none, none]) (C := fun s74 => []) (xs_if (xb_and (xb_val (xe_opx opx_gtT (xe_var rfl) xe_c)) (xb_val (xe_op opv_eqT (XE.v (xe_callP rfl (xa_cons xe_c xa_nil))) (XE.v xe_c)))) (xs_set (xe_comp (XIy.i (xiy_enum (xe_var rfl))) (fun x75 => xc_unY xg_2 fun b76 => (xe_sl (XE.v (xe_var rfl)) xo_no (xo_some (xe_fnx fnx_max2F (xa_cons (xe_op opv_addT (XE.v (xe_var rfl)) (XE.v xe_c)) (xa_cons (xe_op opv_subT (XE.v (xe_var rfl)) (XE.v (xe_op opv_modT (XE.v (xe_var rfl)) (XE.v xe_c)))) xa_nil))))))) fun v93 => (xs_skip rfl ⟨.inr rfl, .inr rfl, .inr rfl, .inr rfl, .inr rfl, .inr rfl, .inr rfl, .inr rfl, .inr rfl, .inl rfl, .inl rfl, .inl rfl, trivial⟩)) (xs_skip rfl ⟨.inr rfl, .inr rfl, .inr rfl, .inr rfl, .inr rfl, .inr rfl, .inr rfl, .inr rfl, .inr rfl, .inl rfl, .inl rfl, .inl rfl, trivial⟩)) fun s74 => (xs_ret (g := fun v => v) (fun _ => rfl) (XE.v (xe_var rfl)))))))))))))
def sp_law_drawn_names : SpT := spP (u1 m_law_drawn_names)
theorem len_law_drawn_names : ∀ ts S Q E, sp_law_drawn_names ts S Q E → ts.length = 2 := spP_len ar1
theorem vc_law_drawn_names : VC N_law_drawn_names sp_law_drawn_names c_law_drawn_names := vc_p1 x_law_drawn_names
def N_law_drawn_family : List Str := ["_law_pen", "_law_folk", "_law_k", "_law_low", "_law_one", "_law_other"]
def c_law_drawn_family : TTS :=
  (cSeq (cSet 3 (cOp ixT (cLst (cCons (cC (.int 0)) (cCons (cFn max2F (cCons (cC (.int 0)) (cCons (cOp subT (cVar 2) (cC (.int 3))) cNil))) (cCons (cFn max2F (cCons (cC (.int 0)) (cCons (cOp subT (cVar 2) (cC (.int 5))) cNil))) cNil)))) (cCall sp_law_draw (cCons (cVar 0) (cCons (cC (.int 3)) cNil)))))
    (cSeq (cSet 4 (cOp ixT (cVar 1) (cOp addT (cVar 3) (cCall sp_law_draw (cCons (cVar 0) (cCons (cOp subT (cVar 2) (cVar 3)) cNil))))))
    (cSeq (cSet 5 (cOp ixT (cVar 1) (cOp addT (cVar 3) (cCall sp_law_draw (cCons (cVar 0) (cCons (cOp subT (cVar 2) (cVar 3)) cNil))))))
    (cSeq (cIfS (bVal (cOp eqT (cCall sp_law_draw (cCons (cVar 0) (cCons (cC (.int 5)) cNil))) (cC (.int 0)))) (cSeq (cSet 5 (cVar 4))
    cSkip) cSkip)
    (cSeq (cRet (cFn tupleF (cCons (cUn ssetT (cLst (cCons (cVar 4) (cCons (cVar 5) cNil)))) cNil)))
    cSkip)))))
def m_law_drawn_family (p_folk p_k : T) : PM Cell T :=
  bd (bd (bd (pu (.int 0)) fun v9 => bd (bd (pu (.int 0)) fun v3 => bd (bd (pu p_k) fun v1 => bd (pu (.int 3)) fun v2 => ofO (subT emp v1 v2)) fun v4 => ofO (max2F emp [v3, v4])) fun v10 => bd (bd (pu (.int 0)) fun v7 => bd (bd (pu p_k) fun v5 => bd (pu (.int 5)) fun v6 => ofO (subT emp v5 v6)) fun v8 => ofO (max2F emp [v7, v8])) fun v11 => pu (.lst [v9, v10, v11])) fun v13 => bd (bd (pu (.int 3)) fun v12 => m_law_draw v12) fun v14 => ofO (ixT emp v13 v14)) fun v15 => bd (bd (pu p_folk) fun v22 => bd (bd (pu v15) fun v20 => bd (bd (bd (pu p_k) fun v17 => bd (pu v15) fun v18 => ofO (subT emp v17 v18)) fun v19 => m_law_draw v19) fun v21 => ofO (addT emp v20 v21)) fun v23 => ofO (ixT emp v22 v23)) fun v24 => bd (bd (pu p_folk) fun v31 => bd (bd (pu v15) fun v29 => bd (bd (bd (pu p_k) fun v26 => bd (pu v15) fun v27 => ofO (subT emp v26 v27)) fun v28 => m_law_draw v28) fun v30 => ofO (addT emp v29 v30)) fun v32 => ofO (ixT emp v31 v32)) fun v33 => bd (bd (bd (bd (bd (pu (.int 5)) fun v35 => m_law_draw v35) fun v36 => bd (pu (.int 0)) fun v37 => ofO (eqT emp v36 v37)) tb) fun v38 => if v38 = true then (bd (pu v24) fun v40 => pu v40 : PM _ (T)) else pu v33) fun s39 => bd (bd (bd (bd (pu v24) fun v42 => bd (pu s39) fun v43 => pu (.lst [v42, v43])) fun v44 => ofO (ssetT emp v44)) fun v45 => ofO (tupleF emp [v45])) fun v46 => pu v46
theorem x_law_drawn_family (S : Sto) (pa : Addr) (p_folk p_k : T) : XS (penW S pa) [some (.ref pa), some p_folk, some p_k, none, none, none] [] c_law_drawn_family (m_law_drawn_family p_folk p_k) .rt :=
  (xs_set (xe_op opv_ixT (XE.v (xe_lst (xa_cons xe_c (xa_cons (xe_fnx fnx_max2F (xa_cons xe_c (xa_cons (xe_op opv_subT (XE.v (xe_var rfl)) (XE.v xe_c)) xa_nil))) (xa_cons (xe_fnx fnx_max2F (xa_cons xe_c (xa_cons (xe_op opv_subT (XE.v (xe_var rfl)) (XE.v xe_c)) xa_nil))) xa_nil))))) (XE.v (xe_callP rfl (xa_cons xe_c xa_nil)))) fun v15 => (xs_set (xe_op opv_ixT (XE.v (xe_var rfl)) (XE.v (xe_op opv_addT (XE.v (xe_var rfl)) (XE.v (xe_callP rfl (xa_cons (xe_op opv_subT (XE.v (xe_var rfl)) (XE.v (xe_var rfl))) xa_nil)))))) fun v24 => (xs_set (xe_op opv_ixT (XE.v (xe_var rfl)) (XE.v (xe_op opv_addT (XE.v (xe_var rfl)) (XE.v (xe_callP rfl (xa_cons (xe_op opv_subT (XE.v (xe_var rfl)) (XE.v (xe_var rfl))) xa_nil)))))) fun v33 => (xs_seq (σ := T) (P := fun s39 => [some (.ref pa), some p_folk, some p_k, some v15, some v24, some s39]) (C := fun s39 => []) (xs_if (xb_val (xe_op opv_eqT (XE.v (xe_callP rfl (xa_cons xe_c xa_nil))) (XE.v xe_c))) (xs_set (xe_var rfl) fun v40 => (xs_skip rfl ⟨.inr rfl, .inr rfl, .inr rfl, .inr rfl, .inr rfl, .inr rfl, trivial⟩)) (xs_skip rfl ⟨.inr rfl, .inr rfl, .inr rfl, .inr rfl, .inr rfl, .inr rfl, trivial⟩)) fun s39 => (xs_ret (g := fun v => v) (fun _ => rfl) (XE.v (xe_fn fnv_tupleF (xav_cons (XE.v (xe_un unv_ssetT (XE.v (xe_lst (xa_cons (xe_var rfl) (xa_cons (xe_var rfl) xa_nil)))))) xav_nil))))))))
def sp_law_drawn_family : SpT := spP (u2 m_law_drawn_family)
theorem len_law_drawn_family : ∀ ts S Q E, sp_law_drawn_family ts S Q E → ts.length = 3 := spP_len ar2
theorem vc_law_drawn_family : VC N_law_drawn_family sp_law_drawn_family c_law_drawn_family := vc_p2 x_law_drawn_family
def N_law_drawn_book : List Str := ["_law_pen", "_law_most", "_law_rate", "_law_many", "_law_folk", "_law_marks", "_law_unions", "_law_births", "_law_adoptions", "_law_kept", "_law_k", "_law_again", "_law_family", "_law_turn", "_law_other", "_law_more", "_law_told", "_law_name", "_law_one"]
def c_law_drawn_book : TTS :=
  (cSeq (cSet 3 (cOp addT (cC (.int 1)) (cCall sp_law_draw (cCons (cVar 0) (cCons (cVar 1) cNil)))))
    (cSeq (cSet 4 (cCall sp_law_drawn_names (cCons (cVar 0) (cCons (cVar 3) cNil))))
    (cSeq (cSet 5 (cComp (iSeq (cVar 4)) (gN 17) bYes (cTup (cCons (cVar 17) (cCons (cOp ixT (cC (.str (q "wmo"))) (cCall sp_law_draw (cCons (cVar 0) (cCons (cC (.int 3)) cNil)))) cNil))) [17]))
    (cSeq (cPar3 6 7 8 (cLstM cNil) (cLstM cNil) (cLstM cNil))
    (cSeq (cSet 9 (cLst cNil))
    (cSeq (cFor (iRange2 (cC (.int 1)) (cVar 3)) (gN 10) ((cSeq (cSet 11 (cCall sp_law_draw (cCons (cVar 0) (cCons (cC (.int 3)) cNil))))
    (cSeq (cSet 12 (cCall sp_law_drawn_family (cCons (cVar 0) (cCons (cVar 4) (cCons (cVar 10) cNil)))))
    (cSeq (cIfS (bAnd (bVal (cOp gtT (cVar 11) (cC (.int 0)))) (bVal (cOp neT (cVar 9) (cLst cNil)))) (cSeq (cSet 12 (cOp ixT (cVar 9) (cCall sp_law_draw (cCons (cVar 0) (cCons (cFn lenF (cCons (cVar 9) cNil)) cNil)))))
    cSkip) cSkip)
    (cSeq (cIfS (bAnd (bVal (cOp gtT (cCall sp_law_draw (cCons (cVar 0) (cCons (cC (.int 6)) cNil))) (cC (.int 0)))) (bVal (cOp ltT (cFn lenF (cCons (cVar 6) cNil)) (cC (.int 15))))) (cSeq (cDo (cApp (cVar 7) (cTup (cCons (cOp ixT (cVar 4) (cVar 10)) (cCons (cVar 12) cNil)))))
    (cSeq (cDo (cApp (cVar 6) (cVar 12)))
    cSkip)) cSkip)
    (cSeq (cFor (iRange1 (cOp ixT (cLst (cCons (cC (.int 1)) (cCons (cC (.int 1)) (cCons (cC (.int 3)) (cCons (cC (.int 7)) cNil))))) (cCall sp_law_draw (cCons (cVar 0) (cCons (cC (.int 4)) cNil))))) (gN 13) ((cSeq (cSet 14 (cCall sp_law_drawn_family (cCons (cVar 0) (cCons (cVar 4) (cCons (cVar 10) cNil)))))
    (cSeq (cSet 15 (cAnd (cOp ninT (cTup (cCons (cOp ixT (cVar 4) (cVar 10)) (cCons (cVar 14) cNil))) (cVar 8)) (cOp ltT (cUn slenT (cVar 6)) (cC (.int 15)))))
    (cSeq (cIfS (bAnd (bVal (cOp ltT (cCall sp_law_draw (cCons (cVar 0) (cCons (cC (.int 12)) cNil))) (cOp addT (cVar 2) (cVar 13)))) (bAnd (bVal (cOp neT (cVar 14) (cVar 12))) (bAnd (bVal (cVar 15)) (bVal (cOp ltT (cFn lenF (cCons (cVar 8) cNil)) (cC (.int 12))))))) (cSeq (cDo (cApp (cVar 8) (cTup (cCons (cOp ixT (cVar 4) (cVar 10)) (cCons (cVar 14) cNil)))))
    (cSeq (cDo (cApp (cVar 6) (cVar 14)))
    cSkip)) cSkip)
    cSkip)))))
    (cSeq (cSet 9 (cComp (iSeq (cVar 6)) (gN 18) (bVal (cOp ninT (cOp ixT (cVar 4) (cVar 10)) (cVar 18))) (cVar 18) [18]))
    cSkip))))))))
    (cDrop (cDrop (cSeq (cFor (iRange1 (cOp mulT2 (cCall sp_law_draw (cCons (cVar 0) (cCons (cC (.int 4)) cNil))) (cFn intF (cCons (cOp gtT (cVar 3) (cC (.int 1))) cNil)))) (gN 10) ((cSeq (cSet 12 (cCall sp_law_drawn_family (cCons (cVar 0) (cCons (cVar 4) (cCons (cVar 3) cNil)))))
    (cSeq (cIfS (bVal (cOp ltT (cUn slenT (cVar 6)) (cC (.int 16)))) (cSeq (cDo (cApp (cVar 6) (cVar 12)))
    cSkip) cSkip)
    cSkip))))
    (cDrop (cSeq (cSet 16 (cTup (cCons (cFn tupleF (cCons (cFn sortedF (cCons (cVar 5) cNil)) cNil)) (cCons (cFn tupleF (cCons (cUn ssetT (cVar 6)) cNil)) cNil))))
    (cSeq (cRet (cOp addT (cVar 16) (cTup (cCons (cFn tupleF (cCons (cFn sortedF (cCons (cVar 7) cNil)) cNil)) (cCons (cFn tupleF (cCons (cFn sortedF (cCons (cVar 8) cNil)) cNil)) cNil)))))
    cSkip))))))))))))
def m_law_drawn_book (p_most p_rate : T) : PM Cell T :=
  bd (bd (pu (.int 1)) fun v2 => bd (bd (pu p_most) fun v1 => m_law_draw v1) fun v3 => ofO (addT emp v2 v3)) fun v4 => bd (bd (pu v4) fun v6 => m_law_drawn_names v6) fun v7 => bd (bd (bd (pu v7) itemsM) fun xs16 => bd (compG (fun x9 => bd (bd (pu x9) fun v13 => bd (bd (pu (.str (q "wmo"))) fun v11 => bd (bd (pu (.int 3)) fun v10 => m_law_draw v10) fun v12 => ofO (ixT emp v11 v12)) fun v14 => pu (.tup [v13, v14])) fun v15 => pu (some v15)) xs16) fun ys17 => pu (.lst ys17)) fun v18 => bd (pu ([] : List T)) fun ys20 => bd (pu ([] : List T)) fun ys22 => bd (pu ([] : List T)) fun ys24 => bd ((pu (.lst []) : PM _ T)) fun v26 => bd (bd (bd (pu (.int 1)) fun v29 => bd (pu v4) fun v30 => rng2 v29 v30) fun xs129 => forM (fun x31 (s28 : List T × List T × List T × T) => bd (bd (pu (.int 3)) fun v32 => m_law_draw v32) fun v33 => bd (bd (pu v7) fun v35 => bd (pu x31) fun v36 => m_law_drawn_family v35 v36) fun v37 => bd (bd (bd (bd (bd (pu v33) fun v41 => bd (pu (.int 0)) fun v42 => ofO (gtT emp v41 v42)) tb) fun v43 => if v43 = true then (bd (bd (pu s28.2.2.2) fun v39 => bd ((pu (.lst []) : PM _ T)) fun v40 => ofO (neT emp v39 v40)) tb) else pu false) fun v44 => if v44 = true then (bd (bd (pu s28.2.2.2) fun v48 => bd (bd (bd (pu s28.2.2.2) fun v46 => ofO (lenF emp [v46])) fun v47 => m_law_draw v47) fun v49 => ofO (ixT emp v48 v49)) fun v50 => pu v50 : PM _ (T)) else pu v37) fun s45 => bd (bd (bd (bd (bd (bd (pu (.int 6)) fun v55 => m_law_draw v55) fun v56 => bd (pu (.int 0)) fun v57 => ofO (gtT emp v56 v57)) tb) fun v58 => if v58 = true then (bd (bd (bd (pu (.lst s28.2.1)) fun v52 => ofO (lenF emp [v52])) fun v53 => bd (pu (.int 15)) fun v54 => ofO (ltT emp v53 v54)) tb) else pu false) fun v59 => if v59 = true then (bd (bd (bd (pu v7) fun v63 => bd (pu x31) fun v64 => ofO (ixT emp v63 v64)) fun v65 => bd (pu s45) fun v66 => pu (.tup [v65, v66])) fun v62 => bd (appM s28.1 v62) fun ys61 => bd (pu s45) fun v68 => bd (appM s28.2.1 v68) fun ys67 => pu (ys61, ys67) : PM _ (List T × List T)) else pu (s28.1, s28.2.1)) fun s60 => bd (bd (bd (bd (bd (pu (.int 1)) fun v70 => bd (pu (.int 1)) fun v71 => bd (pu (.int 3)) fun v72 => bd (pu (.int 7)) fun v73 => pu (.lst [v70, v71, v72, v73])) fun v75 => bd (bd (pu (.int 4)) fun v74 => m_law_draw v74) fun v76 => ofO (ixT emp v75 v76)) rng1) fun xs117 => forM (fun x77 (s69 : List T × List T) => bd (bd (pu v7) fun v78 => bd (pu x31) fun v79 => m_law_drawn_family v78 v79) fun v80 => bd (bd (bd (bd (bd (pu v7) fun v85 => bd (pu x31) fun v86 => ofO (ixT emp v85 v86)) fun v87 => bd (pu v80) fun v88 => pu (.tup [v87, v88])) fun v89 => bd (pu (.lst s69.1)) fun v90 => ofO (ninT emp v89 v90)) fun v91 => bd (tb v91) fun v92 => if v92 = true then (bd (bd (pu (.lst s69.2)) fun v82 => ofO (slenT emp v82)) fun v83 => bd (pu (.int 15)) fun v84 => ofO (ltT emp v83 v84)) else pu (.bl false)) fun v93 => bd (bd (bd (bd (bd (pu (.int 12)) fun v102 => m_law_draw v102) fun v105 => bd (bd (pu p_rate) fun v103 => bd (pu x77) fun v104 => ofO (addT emp v103 v104)) fun v106 => ofO (ltT emp v105 v106)) tb) fun v107 => if v107 = true then (bd (bd (bd (pu v80) fun v99 => bd (pu s45) fun v100 => ofO (neT emp v99 v100)) tb) fun v101 => if v101 = true then (bd (bd (pu v93) tb) fun v98 => if v98 = true then (bd (bd (bd (pu (.lst s69.1)) fun v95 => ofO (lenF emp [v95])) fun v96 => bd (pu (.int 12)) fun v97 => ofO (ltT emp v96 v97)) tb) else pu false) else pu false) else pu false) fun v108 => if v108 = true then bd (bd (bd (pu v7) fun v111 => bd (pu x31) fun v112 => ofO (ixT emp v111 v112)) fun v113 => bd (pu v80) fun v114 => pu (.tup [v113, v114])) fun v110 => bd (appM s69.1 v110) fun ys109 => bd (pu v80) fun v116 => bd (appM s69.2 v116) fun ys115 => pu (ys109, ys115) else pu (s69.1, s69.2)) xs117 (s28.2.2.1, s60.2)) fun (s69 : List T × List T) => bd (bd (pu s69.2) fun xs125 => bd (compG (fun x118 => bd (bd (bd (bd (pu v7) fun v120 => bd (pu x31) fun v121 => ofO (ixT emp v120 v121)) fun v122 => bd (pu x118) fun v123 => ofO (ninT emp v122 v123)) tb) fun v124 => if v124 = true then bd (pu x118) fun v119 => pu (some v119) else pu none) xs125) fun ys126 => pu (.lst ys126)) fun v127 => pu (s60.1, s69.2, s69.1, v127)) xs129 (ys22, ys20, ys24, v26)) fun (s28 : List T × List T × List T × T) => bd (bd (bd (bd (bd (pu (.int 4)) fun v131 => m_law_draw v131) fun v135 => bd (bd (bd (pu v4) fun v132 => bd (pu (.int 1)) fun v133 => ofO (gtT emp v132 v133)) fun v134 => ofO (intF emp [v134])) fun v136 => ofO (mulT2 emp v135 v136)) rng1) fun xs148 => forM (fun x137 (s130 : List T) => bd (bd (pu v7) fun v138 => bd (pu v4) fun v139 => m_law_drawn_family v138 v139) fun v140 => bd (bd (bd (bd (pu (.lst s130)) fun v142 => ofO (slenT emp v142)) fun v143 => bd (pu (.int 16)) fun v144 => ofO (ltT emp v143 v144)) tb) fun v145 => if v145 = true then bd (pu v140) fun v147 => bd (appM s130 v147) fun ys146 => pu ys146 else pu s130) xs148 s28.2.1) fun (s130 : List T) => bd (bd (bd (bd (pu v18) fun v149 => ofO (sortedF emp [v149])) fun v150 => ofO (tupleF emp [v150])) fun v153 => bd (bd (bd (pu (.lst s130)) fun v151 => ofO (ssetT emp v151)) fun v152 => ofO (tupleF emp [v152])) fun v154 => pu (.tup [v153, v154])) fun v155 => bd (bd (pu v155) fun v163 => bd (bd (bd (bd (pu (.lst s28.1)) fun v157 => ofO (sortedF emp [v157])) fun v158 => ofO (tupleF emp [v158])) fun v161 => bd (bd (bd (pu (.lst s28.2.2.1)) fun v159 => ofO (sortedF emp [v159])) fun v160 => ofO (tupleF emp [v160])) fun v162 => pu (.tup [v161, v162])) fun v164 => ofO (addT emp v163 v164)) fun v165 => pu v165
theorem x_law_drawn_book (S : Sto) (pa : Addr) (p_most p_rate : T) : XS (penW S pa) [some (.ref pa), some p_most, some p_rate, none, none, none, none, none, none, none, none, none, none, none, none, none, none, none, none] [] c_law_drawn_book (m_law_drawn_book p_most p_rate) .rt :=
  (xs_set (xe_op opv_addT (XE.v xe_c) (XE.v (xe_callP rfl (xa_cons (xe_var rfl) xa_nil)))) fun v4 => (xs_set (xe_callP rfl (xa_cons (xe_var rfl) xa_nil)) fun v7 => (xs_set (xe_comp (XIy.i (xiy_seq (xe_var rfl))) (fun x9 => xc_nameY (xe_tup (xa_cons (xe_var rfl) (xa_cons (xe_op opv_ixT (XE.v xe_c) (XE.v (xe_callP rfl (xa_cons xe_c xa_nil)))) xa_nil))))) fun v18 => (xs_par3 (xn_lst xa_nil) (fun ys20 a21 => (xn_lst xa_nil)) (fun ys20 a21 ys22 a23 => (xn_lst xa_nil)) fun ys20 a21 ys22 a23 ys24 a25 => (xs_set (xe_lst xa_nil) fun v26 => (xs_seq (xs_for (σ := List T × List T × List T × T) (P := fun s28 => [some (.ref pa), some p_most, some p_rate, some v4, some v7, some v18, some (.ref a21), some (.ref a23), some (.ref a25), some s28.2.2.2, none, none, none, none, none, none, none, none, none]) (C := fun s28 => [(a25, .lst s28.2.2.1), (a23, .lst s28.1), (a21, .lst s28.2.1)]) (s0 := (ys22, ys20, ys24, v26)) (xiy_range2 xe_c (xe_var rfl)) ⟨.inr rfl, .inr rfl, .inr rfl, .inr rfl, .inr rfl, .inr rfl, .inr rfl, .inr rfl, .inr rfl, .inr rfl, .inl rfl, .inl rfl, .inl rfl, .inl rfl, .inl rfl, .inl rfl, .inl rfl, .inl rfl, .inl rfl, trivial⟩ rfl (fun x31 s28 => xf_name (xs_set (xe_callP rfl (xa_cons xe_c xa_nil)) fun v33 => (xs_set (xe_callP rfl (xa_cons (xe_var rfl) (xa_cons (xe_var rfl) xa_nil))) fun v37 => (xs_seq (σ := T) (P := fun s45 => [some (.ref pa), some p_most, some p_rate, some v4, some v7, some v18, some (.ref a21), some (.ref a23), some (.ref a25), some s28.2.2.2, some x31, some v33, some s45, none, none, none, none, none, none]) (C := fun s45 => [(a25, .lst s28.2.2.1), (a23, .lst s28.1), (a21, .lst s28.2.1)]) (xs_if (xb_and (xb_val (xe_opx opx_gtT (xe_var rfl) xe_c)) (xb_val (xe_op opv_neT (XE.v (xe_var rfl)) (XE.v (xe_lst xa_nil))))) (xs_set (xe_op opv_ixT (XE.v (xe_var rfl)) (XE.v (xe_callP rfl (xa_cons (xe_fn fnv_lenF (xav_cons (XE.v (xe_var rfl)) xav_nil)) xa_nil)))) fun v50 => (xs_skip rfl ⟨.inr rfl, .inr rfl, .inr rfl, .inr rfl, .inr rfl, .inr rfl, .inr rfl, .inr rfl, .inr rfl, .inr rfl, .inr rfl, .inr rfl, .inr rfl, .inl rfl, .inl rfl, .inl rfl, .inl rfl, .inl rfl, .inl rfl, trivial⟩)) (xs_skip rfl ⟨.inr rfl, .inr rfl, .inr rfl, .inr rfl, .inr rfl, .inr rfl, .inr rfl, .inr rfl, .inr rfl, .inr rfl, .inr rfl, .inr rfl, .inr rfl, .inl rfl, .inl rfl, .inl rfl, .inl rfl, .inl rfl, .inl rfl, trivial⟩)) fun s45 => (xs_seq (σ := List T × List T) (P := fun s60 => [some (.ref pa), some p_most, some p_rate, some v4, some v7, some v18, some (.ref a21), some (.ref a23), some (.ref a25), some s28.2.2.2, some x31, some v33, some s45, none, none, none, none, none, none]) (C := fun s60 => [(a25, .lst s28.2.2.1), (a23, .lst s60.1), (a21, .lst s60.2)]) (xs_if (xb_and (xb_val (xe_opx opx_gtT (xe_callP rfl (xa_cons xe_c xa_nil)) xe_c)) (xb_val (xe_opx opx_ltT (xe_fn fnv_lenF (xav_cons (xv_cell rfl (.tail _ (.tail _ (.head _)))) xav_nil)) xe_c))) (xs_app (l1 := [(a25, .lst s28.2.2.1)]) (l2 := [(a21, .lst s28.2.1)]) rfl (xe_tup (xa_cons (xe_op opv_ixT (XE.v (xe_var rfl)) (XE.v (xe_var rfl))) (xa_cons (xe_var rfl) xa_nil))) fun ys61 => (xs_app (l1 := [(a25, .lst s28.2.2.1), (a23, .lst ys61)]) (l2 := []) rfl (xe_var rfl) fun ys67 => (xs_skip rfl ⟨.inr rfl, .inr rfl, .inr rfl, .inr rfl, .inr rfl, .inr rfl, .inr rfl, .inr rfl, .inr rfl, .inr rfl, .inr rfl, .inr rfl, .inr rfl, .inl rfl, .inl rfl, .inl rfl, .inl rfl, .inl rfl, .inl rfl, trivial⟩))) (xs_skip rfl ⟨.inr rfl, .inr rfl, .inr rfl, .inr rfl, .inr rfl, .inr rfl, .inr rfl, .inr rfl, .inr rfl, .inr rfl, .inr rfl, .inr rfl, .inr rfl, .inl rfl, .inl rfl, .inl rfl, .inl rfl, .inl rfl, .inl rfl, trivial⟩)) fun s60 => (xs_seq (xs_for (σ := List T × List T) (P := fun s69 => [some (.ref pa), some p_most, some p_rate, some v4, some v7, some v18, some (.ref a21), some (.ref a23), some (.ref a25), some s28.2.2.2, some x31, some v33, some s45, none, none, none, none, none, none]) (C := fun s69 => [(a25, .lst s69.1), (a23, .lst s60.1), (a21, .lst s69.2)]) (s0 := (s28.2.2.1, s60.2)) (xiy_range1 (xe_op opv_ixT (XE.v (xe_lst (xa_cons xe_c (xa_cons xe_c (xa_cons xe_c (xa_cons xe_c xa_nil)))))) (XE.v (xe_callP rfl (xa_cons xe_c xa_nil))))) ⟨.inr rfl, .inr rfl, .inr rfl, .inr rfl, .inr rfl, .inr rfl, .inr rfl, .inr rfl, .inr rfl, .inr rfl, .inr rfl, .inr rfl, .inr rfl, .inl rfl, .inl rfl, .inl rfl, .inl rfl, .inl rfl, .inl rfl, trivial⟩ rfl (fun x77 s69 => xf_name (xs_set (xe_callP rfl (xa_cons (xe_var rfl) (xa_cons (xe_var rfl) xa_nil))) fun v80 => (xs_set (xe_and (xe_opr opv_ninT (xe_tup (xa_cons (xe_op opv_ixT (XE.v (xe_var rfl)) (XE.v (xe_var rfl))) (xa_cons (xe_var rfl) xa_nil))) (xv_cell rfl (.head _))) (xe_opx opx_ltT (xe_un unv_slenT (xv_cell rfl (.tail _ (.tail _ (.head _))))) xe_c)) fun v93 => (xs_ifE (xb_and (xb_val (xe_opx opx_ltT (xe_callP rfl (xa_cons xe_c xa_nil)) (xe_op opv_addT (XE.v (xe_var rfl)) (XE.v (xe_var rfl))))) (xb_and (xb_val (xe_op opv_neT (XE.v (xe_var rfl)) (XE.v (xe_var rfl)))) (xb_and (xb_val (xe_var rfl)) (xb_val (xe_opx opx_ltT (xe_fn fnv_lenF (xav_cons (xv_cell rfl (.head _)) xav_nil)) xe_c))))) (xs_assoc (xs_app (l1 := []) (l2 := [(a23, .lst s60.1), (a21, .lst s69.2)]) rfl (xe_tup (xa_cons (xe_op opv_ixT (XE.v (xe_var rfl)) (XE.v (xe_var rfl))) (xa_cons (xe_var rfl) xa_nil))) fun ys109 => (xs_assoc (xs_app (l1 := [(a25, .lst ys109), (a23, .lst s60.1)]) (l2 := []) rfl (xe_var rfl) fun ys115 => (xs_skipseq (xs_skip rfl ⟨.inr rfl, .inr rfl, .inr rfl, .inr rfl, .inr rfl, .inr rfl, .inr rfl, .inr rfl, .inr rfl, .inr rfl, .inr rfl, .inr rfl, .inr rfl, .inl rfl, .inl rfl, .inl rfl, .inl rfl, .inl rfl, .inl rfl, trivial⟩)))))) (xs_skipseq (xs_skip rfl ⟨.inr rfl, .inr rfl, .inr rfl, .inr rfl, .inr rfl, .inr rfl, .inr rfl, .inr rfl, .inr rfl, .inr rfl, .inr rfl, .inr rfl, .inr rfl, .inl rfl, .inl rfl, .inl rfl, .inl rfl, .inl rfl, .inl rfl, trivial⟩))))))) fun s69 => (xs_set (xe_comp (xi_cell rfl (.tail _ (.tail _ (.head _)))) (fun x118 => xc_name (xb_val (xe_opr opv_ninT (xe_op opv_ixT (XE.v (xe_var rfl)) (XE.v (xe_var rfl))) (XE.v (xe_var rfl)))) (xe_var rfl))) fun v127 => (xs_skip rfl ⟨.inr rfl, .inr rfl, .inr rfl, .inr rfl, .inr rfl, .inr rfl, .inr rfl, .inr rfl, .inr rfl, .inr rfl, .inl rfl, .inl rfl, .inl rfl, .inl rfl, .inl rfl, .inl rfl, .inl rfl, .inl rfl, .inl rfl, trivial⟩))))))))) fun s28 => (xs_drop (i := 8) (l1 := []) (l2 := [(a23, .lst s28.1), (a21, .lst s28.2.1)]) rfl (xs_drop (i := 7) (l1 := []) (l2 := [(a21, .lst s28.2.1)]) rfl (xs_seq (xs_for (σ := List T) (P := fun s130 => [some (.ref pa), some p_most, some p_rate, some v4, some v7, some v18, some (.ref a21), some (.lst s28.1), some (.lst s28.2.2.1), some s28.2.2.2, none, none, none, none, none, none, none, none, none]) (C := fun s130 => [(a21, .lst s130)]) (s0 := s28.2.1) (xiy_range1 (xe_op opv_mulT2 (XE.v (xe_callP rfl (xa_cons xe_c xa_nil))) (XE.v (xe_fnx fnx_intF (xa_cons (xe_opx opx_gtT (xe_var rfl) xe_c) xa_nil))))) ⟨.inr rfl, .inr rfl, .inr rfl, .inr rfl, .inr rfl, .inr rfl, .inr rfl, .inr rfl, .inr rfl, .inr rfl, .inl rfl, .inl rfl, .inl rfl, .inl rfl, .inl rfl, .inl rfl, .inl rfl, .inl rfl, .inl rfl, trivial⟩ rfl (fun x137 s130 => xf_name (xs_set (xe_callP rfl (xa_cons (xe_var rfl) (xa_cons (xe_var rfl) xa_nil))) fun v140 => (xs_ifE (xb_val (xe_opx opx_ltT (xe_un unv_slenT (xv_cell rfl (.head _))) xe_c)) (xs_assoc (xs_app (l1 := []) (l2 := []) rfl (xe_var rfl) fun ys146 => (xs_skipseq (xs_skip rfl ⟨.inr rfl, .inr rfl, .inr rfl, .inr rfl, .inr rfl, .inr rfl, .inr rfl, .inr rfl, .inr rfl, .inr rfl, .inl rfl, .inl rfl, .inl rfl, .inl rfl, .inl rfl, .inl rfl, .inl rfl, .inl rfl, .inl rfl, trivial⟩)))) (xs_skipseq (xs_skip rfl ⟨.inr rfl, .inr rfl, .inr rfl, .inr rfl, .inr rfl, .inr rfl, .inr rfl, .inr rfl, .inr rfl, .inr rfl, .inl rfl, .inl rfl, .inl rfl, .inl rfl, .inl rfl, .inl rfl, .inl rfl, .inl rfl, .inl rfl, trivial⟩)))))) fun s130 => (xs_drop (i := 6) (l1 := []) (l2 := []) rfl (xs_set (xe_tup (xa_cons (xe_fn fnv_tupleF (xav_cons (XE.v (xe_fn fnv_sortedF (xav_cons (XE.v (xe_var rfl)) xav_nil))) xav_nil)) (xa_cons (xe_fn fnv_tupleF (xav_cons (XE.v (xe_un unv_ssetT (XE.v (xe_var rfl)))) xav_nil)) xa_nil))) fun v155 => (xs_ret (g := fun v => v) (fun _ => rfl) (XE.v (xe_op opv_addT (XE.v (xe_var rfl)) (XE.v (xe_tup (xa_cons (xe_fn fnv_tupleF (xav_cons (XE.v (xe_fn fnv_sortedF (xav_cons (XE.v (xe_var rfl)) xav_nil))) xav_nil)) (xa_cons (xe_fn fnv_tupleF (xav_cons (XE.v (xe_fn fnv_sortedF (xav_cons (XE.v (xe_var rfl)) xav_nil))) xav_nil)) xa_nil))))))))))))))))))
def sp_law_drawn_book : SpT := spP (u2 m_law_drawn_book)
theorem len_law_drawn_book : ∀ ts S Q E, sp_law_drawn_book ts S Q E → ts.length = 3 := spP_len ar2
theorem vc_law_drawn_book : VC N_law_drawn_book sp_law_drawn_book c_law_drawn_book := vc_p2 x_law_drawn_book
def N_law_without : List Str := ["_law_book", "_law_name", "_law_unions", "_law_births", "_law_adoptions", "_law_folk", "_law_family", "_law_row"]
def c_law_without : TTS :=
  (cSeq (cSet 2 (cComp (iSeq (cOp ixT (cVar 0) (cC (.int 1)))) (gN 6) (bVal (cOp ninT (cVar 1) (cVar 6))) (cVar 6) [6]))
    (cSeq (cSet 3 (cComp (iSeq (cOp ixT (cVar 0) (cC (.int 2)))) (gN 7) (bVal (cOp neT (cOp ixT (cVar 7) (cC (.int 0))) (cVar 1))) (cVar 7) [7]))
    (cSeq (cSet 4 (cComp (iSeq (cOp ixT (cVar 0) (cC (.int 3)))) (gN 7) (bVal (cOp neT (cOp ixT (cVar 7) (cC (.int 0))) (cVar 1))) (cVar 7) [7]))
    (cSeq (cSet 5 (cFn tupleF (cCons (cComp (iSeq (cOp ixT (cVar 0) (cC (.int 0)))) (gN 7) (bVal (cOp neT (cOp ixT (cVar 7) (cC (.int 0))) (cVar 1))) (cVar 7) [7]) cNil)))
    (cSeq (cRet (cTup (cCons (cVar 5) (cCons (cFn tupleF (cCons (cVar 2) cNil)) (cCons (cFn tupleF (cCons (cVar 3) cNil)) (cCons (cFn tupleF (cCons (cVar 4) cNil)) cNil))))))
    cSkip)))))
def m_law_without (p_book p_name : T) : PM Unit T :=
  bd (bd (bd (bd (pu p_book) fun v1 => bd (pu (.int 1)) fun v2 => ofO (ixT emp v1 v2)) itemsM) fun xs8 => bd (compG (fun x3 => bd (bd (bd (pu p_name) fun v5 => bd (pu x3) fun v6 => ofO (ninT emp v5 v6)) tb) fun v7 => if v7 = true then bd (pu x3) fun v4 => pu (some v4) else pu none) xs8) fun ys9 => pu (.lst ys9)) fun v10 => bd (bd (bd (bd (pu p_book) fun v12 => bd (pu (.int 2)) fun v13 => ofO (ixT emp v12 v13)) itemsM) fun xs21 => bd (compG (fun x14 => bd (bd (bd (bd (pu x14) fun v16 => bd (pu (.int 0)) fun v17 => ofO (ixT emp v16 v17)) fun v18 => bd (pu p_name) fun v19 => ofO (neT emp v18 v19)) tb) fun v20 => if v20 = true then bd (pu x14) fun v15 => pu (some v15) else pu none) xs21) fun ys22 => pu (.lst ys22)) fun v23 => bd (bd (bd (bd (pu p_book) fun v25 => bd (pu (.int 3)) fun v26 => ofO (ixT emp v25 v26)) itemsM) fun xs34 => bd (compG (fun x27 => bd (bd (bd (bd (pu x27) fun v29 => bd (pu (.int 0)) fun v30 => ofO (ixT emp v29 v30)) fun v31 => bd (pu p_name) fun v32 => ofO (neT emp v31 v32)) tb) fun v33 => if v33 = true then bd (pu x27) fun v28 => pu (some v28) else pu none) xs34) fun ys35 => pu (.lst ys35)) fun v36 => bd (bd (bd (bd (bd (pu p_book) fun v38 => bd (pu (.int 0)) fun v39 => ofO (ixT emp v38 v39)) itemsM) fun xs47 => bd (compG (fun x40 => bd (bd (bd (bd (pu x40) fun v42 => bd (pu (.int 0)) fun v43 => ofO (ixT emp v42 v43)) fun v44 => bd (pu p_name) fun v45 => ofO (neT emp v44 v45)) tb) fun v46 => if v46 = true then bd (pu x40) fun v41 => pu (some v41) else pu none) xs47) fun ys48 => pu (.lst ys48)) fun v49 => ofO (tupleF emp [v49])) fun v50 => bd (bd (pu v50) fun v55 => bd (bd (pu v10) fun v52 => ofO (tupleF emp [v52])) fun v56 => bd (bd (pu v23) fun v53 => ofO (tupleF emp [v53])) fun v57 => bd (bd (pu v36) fun v54 => ofO (tupleF emp [v54])) fun v58 => pu (.tup [v55, v56, v57, v58])) fun v59 => pu v59
theorem x_law_without (S : Sto) (p_book p_name : T) : XS (fun _ : Unit => S) [some p_book, some p_name, none, none, none, none, none, none] [] c_law_without (m_law_without p_book p_name) .rt :=
  (xs_set (xe_comp (XIy.i (xiy_seq (xe_op opv_ixT (XE.v (xe_var rfl)) (XE.v xe_c)))) (fun x3 => xc_name (xb_val (xe_opr opv_ninT (xe_var rfl) (XE.v (xe_var rfl)))) (xe_var rfl))) fun v10 => (xs_set (xe_comp (XIy.i (xiy_seq (xe_op opv_ixT (XE.v (xe_var rfl)) (XE.v xe_c)))) (fun x14 => xc_name (xb_val (xe_op opv_neT (XE.v (xe_op opv_ixT (XE.v (xe_var rfl)) (XE.v xe_c))) (XE.v (xe_var rfl)))) (xe_var rfl))) fun v23 => (xs_set (xe_comp (XIy.i (xiy_seq (xe_op opv_ixT (XE.v (xe_var rfl)) (XE.v xe_c)))) (fun x27 => xc_name (xb_val (xe_op opv_neT (XE.v (xe_op opv_ixT (XE.v (xe_var rfl)) (XE.v xe_c))) (XE.v (xe_var rfl)))) (xe_var rfl))) fun v36 => (xs_set (xe_fn fnv_tupleF (xav_cons (XE.v (xe_comp (XIy.i (xiy_seq (xe_op opv_ixT (XE.v (xe_var rfl)) (XE.v xe_c)))) (fun x40 => xc_name (xb_val (xe_op opv_neT (XE.v (xe_op opv_ixT (XE.v (xe_var rfl)) (XE.v xe_c))) (XE.v (xe_var rfl)))) (xe_var rfl)))) xav_nil)) fun v50 => (xs_ret (g := fun v => v) (fun _ => rfl) (XE.v (xe_tup (xa_cons (xe_var rfl) (xa_cons (xe_fn fnv_tupleF (xav_cons (XE.v (xe_var rfl)) xav_nil)) (xa_cons (xe_fn fnv_tupleF (xav_cons (XE.v (xe_var rfl)) xav_nil)) (xa_cons (xe_fn fnv_tupleF (xav_cons (XE.v (xe_var rfl)) xav_nil)) xa_nil)))))))))))
def sp_law_without : SpT := spU (u2 m_law_without)
theorem len_law_without : ∀ ts S Q E, sp_law_without ts S Q E → ts.length = 2 := spU_len ar2
theorem vc_law_without : VC N_law_without sp_law_without c_law_without := vc_u2 x_law_without
def N_law_renamed : List Str := ["_law_book", "_law_other", "_law_family_by", "_law_folk", "_law_births", "_law_adoptions", "_law_unions", "_law_name", "_law_mark", "_law_child", "_law_family"]
def d_law_renamed__law_family_by : ND := ⟨"_law_family_by", "_law_renamed.<locals>._law_family_by", defArgs (stAt (defBody s_law_renamed) 0), defBody (stAt (defBody s_law_renamed) 0), none, defScope (stAt (defBody s_law_renamed) 0)⟩
def N_law_renamed__law_family_by : List Str := ["_law_family", "_law_other", "_law_name"]
def c_law_renamed__law_family_by : TTS :=
  (cSeq (cRet (cFn tupleF (cCons (cFn sortedF (cCons (cComp (iSeq (cVar 0)) (gN 2) bYes (cOp dgT (cVar 1) (cVar 2)) [2]) cNil)) cNil)))
    cSkip)
def m_law_renamed__law_family_by (w_other p_family : T) : PM Unit T :=
  bd (bd (bd (bd (bd (pu p_family) itemsM) fun xs5 => bd (compG (fun x1 => bd (bd (pu w_other) fun v2 => bd (pu x1) fun v3 => ofO (dgT emp v2 v3)) fun v4 => pu (some v4)) xs5) fun ys6 => pu (.lst ys6)) fun v7 => ofO (sortedF emp [v7])) fun v8 => ofO (tupleF emp [v8])) fun v9 => pu v9
theorem x_law_renamed__law_family_by (S : Sto) (w_other p_family : T) : XS (fun _ : Unit => S) [some p_family, some w_other, none] [] c_law_renamed__law_family_by (m_law_renamed__law_family_by w_other p_family) .rt :=
  (xs_ret (g := fun v => v) (fun _ => rfl) (XE.v (xe_fn fnv_tupleF (xav_cons (XE.v (xe_fn fnv_sortedF (xav_cons (XE.v (xe_comp (XIy.i (xiy_seq (xe_var rfl))) (fun x1 => xc_nameY (xe_op opv_dgT (XE.v (xe_var rfl)) (XE.v (xe_var rfl)))))) xav_nil))) xav_nil))))
def sn_law_renamed__law_family_by : List T → List T → PM Unit T := nf1 fun w0 => u1 (m_law_renamed__law_family_by w0)
theorem vcn_law_renamed__law_family_by : ∀ wts ts S Q E, spU (sn_law_renamed__law_family_by wts) ts S Q E → c_law_renamed__law_family_by { nx := fun _ S' => Fin Q .non S', rt := Fin Q } (startN N_law_renamed__law_family_by wts ts) S (fun x _ S' => FinX E x S') := vcN_def (f := sn_law_renamed__law_family_by) fun S wts ts => match wts with
  | [] => xs_stuck
  | [w0] => (match ts with
  | [] => xs_stuck
  | [y0] => x_law_renamed__law_family_by S w0 y0
  | _ :: _ :: _ => xs_stuck)
  | _ :: _ :: _ => xs_stuck
theorem lenn_law_renamed__law_family_by : ∀ wts ts S Q E, spU (sn_law_renamed__law_family_by wts) ts S Q E → ts.length = 1 := fun wts => match wts with
  | [] => fun _ _ _ _ h => h.elim
  | [w0] => spU_len ar1
  | _ :: _ :: _ => fun _ _ _ _ h => h.elim
def c_law_renamed (Pt : Addr) (cells : List (Str × Addr)) : TTS :=
  (cSeq (sNdef 2 Pt d_law_renamed__law_family_by (cloFrom cells d_law_renamed__law_family_by.scope.names []))
    (cSeq (cSet 3 (cFn sortedF (cCons (cComp (iSeq (cOp ixT (cVar 0) (cC (.int 0)))) (gT (gC (gN 7) (gC (gN 8) gZ))) bYes (cTup (cCons (cOp dgT (cVar 1) (cVar 7)) (cCons (cVar 8) cNil))) [7, 8]) cNil)))
    (cSeq (cSet 4 (cFn sortedF (cCons (cCompC 2 [1] d_law_renamed__law_family_by (cloFrom cells d_law_renamed__law_family_by.scope.names []) (iSeq (cOp ixT (cVar 0) (cC (.int 2)))) (gT (gC (gN 9) (gC (gN 10) gZ))) (fun c ws => (cTup (cCons (cOp dgT (cVar 1) (cVar 9)) (cCons (cClo 2 d_law_renamed__law_family_by (cloFrom cells d_law_renamed__law_family_by.scope.names []) c ws (fun wts => spU (sn_law_renamed__law_family_by wts)) (cCons (cVar 10) cNil)) cNil)))) [9, 10]) cNil)))
    (cSeq (cSet 5 (cFn sortedF (cCons (cCompC 2 [1] d_law_renamed__law_family_by (cloFrom cells d_law_renamed__law_family_by.scope.names []) (iSeq (cOp ixT (cVar 0) (cC (.int 3)))) (gT (gC (gN 9) (gC (gN 10) gZ))) (fun c ws => (cTup (cCons (cOp dgT (cVar 1) (cVar 9)) (cCons (cClo 2 d_law_renamed__law_family_by (cloFrom cells d_law_renamed__law_family_by.scope.names []) c ws (fun wts => spU (sn_law_renamed__law_family_by wts)) (cCons (cVar 10) cNil)) cNil)))) [9, 10]) cNil)))
    (cSeq (cSet 6 (cFn tupleF (cCons (cFn sortedF (cCons (cCompC 2 [1] d_law_renamed__law_family_by (cloFrom cells d_law_renamed__law_family_by.scope.names []) (iSeq (cOp ixT (cVar 0) (cC (.int 1)))) (gN 10) (fun c ws => (cClo 2 d_law_renamed__law_family_by (cloFrom cells d_law_renamed__law_family_by.scope.names []) c ws (fun wts => spU (sn_law_renamed__law_family_by wts)) (cCons (cVar 10) cNil))) [10]) cNil)) cNil)))
    (cSeq (cRet (cTup (cCons (cFn tupleF (cCons (cVar 3) cNil)) (cCons (cVar 6) (cCons (cFn tupleF (cCons (cVar 4) cNil)) (cCons (cFn tupleF (cCons (cVar 5) cNil)) cNil))))))
    cSkip))))))
def m_law_renamed (p_book p_other : T) : PM Unit T :=
  bd (bd (bd (bd (bd (pu p_book) fun v2 => bd (pu (.int 0)) fun v3 => ofO (ixT emp v2 v3)) itemsM) fun xs11 => bd (compG (fun x4 => bd (ofO (un2 x4)) fun b5 => bd (bd (bd (pu p_other) fun v6 => bd (pu b5.1) fun v7 => ofO (dgT emp v6 v7)) fun v8 => bd (pu b5.2) fun v9 => pu (.tup [v8, v9])) fun v10 => pu (some v10)) xs11) fun ys12 => pu (.lst ys12)) fun v13 => ofO (sortedF emp [v13])) fun v14 => bd (bd (bd (bd (bd (pu p_book) fun v28 => bd (pu (.int 2)) fun v29 => ofO (ixT emp v28 v29)) itemsM) fun xs26 => bd (compG (fun x18 => bd (ofO (un2 x18)) fun b19 => bd (bd (bd (pu p_other) fun v20 => bd (pu b19.1) fun v21 => ofO (dgT emp v20 v21)) fun v23 => bd (bd (pu b19.2) fun v22 => lft (m_law_renamed__law_family_by p_other v22)) fun v24 => pu (.tup [v23, v24])) fun v25 => pu (some v25)) xs26) fun ys27 => pu (.lst ys27)) fun v30 => ofO (sortedF emp [v30])) fun v31 => bd (bd (bd (bd (bd (pu p_book) fun v45 => bd (pu (.int 3)) fun v46 => ofO (ixT emp v45 v46)) itemsM) fun xs43 => bd (compG (fun x35 => bd (ofO (un2 x35)) fun b36 => bd (bd (bd (pu p_other) fun v37 => bd (pu b36.1) fun v38 => ofO (dgT emp v37 v38)) fun v40 => bd (bd (pu b36.2) fun v39 => lft (m_law_renamed__law_family_by p_other v39)) fun v41 => pu (.tup [v40, v41])) fun v42 => pu (some v42)) xs43) fun ys44 => pu (.lst ys44)) fun v47 => ofO (sortedF emp [v47])) fun v48 => bd (bd (bd (bd (bd (bd (pu p_book) fun v57 => bd (pu (.int 1)) fun v58 => ofO (ixT emp v57 v58)) itemsM) fun xs55 => bd (compG (fun x52 => bd (bd (pu x52) fun v53 => lft (m_law_renamed__law_family_by p_other v53)) fun v54 => pu (some v54)) xs55) fun ys56 => pu (.lst ys56)) fun v59 => ofO (sortedF emp [v59])) fun v60 => ofO (tupleF emp [v60])) fun v61 => bd (bd (bd (pu v14) fun v63 => ofO (tupleF emp [v63])) fun v66 => bd (pu v61) fun v67 => bd (bd (pu v31) fun v64 => ofO (tupleF emp [v64])) fun v68 => bd (bd (pu v48) fun v65 => ofO (tupleF emp [v65])) fun v69 => pu (.tup [v66, v67, v68, v69])) fun v70 => pu v70
theorem x_law_renamed (S : Sto) (p_book p_other : T) (Pt : Addr) (cells : List (Str × Addr)) (hP : S Pt = some (.tab "_law_renamed.<locals>._law_family_by")) : XS (fun _ : Unit => S) [some p_book, some p_other, none, none, none, none, none, none, none, none, none] [] (c_law_renamed Pt cells) (m_law_renamed p_book p_other) .rt :=
  (xs_ndef (fun _ => hP) fun c1 => (xs_set (xe_fn fnv_sortedF (xav_cons (XE.v (xe_comp (XIy.i (xiy_seq (xe_op opv_ixT (XE.v (xe_var rfl)) (XE.v xe_c)))) (fun x4 => xc_unY xg_2 fun b5 => (xe_tup (xa_cons (xe_op opv_dgT (XE.v (xe_var rfl)) (XE.v (xe_var rfl))) (xa_cons (xe_var rfl) xa_nil)))))) xav_nil)) fun v14 => (xs_set (xe_fn fnv_sortedF (xav_cons (XE.v (xe_compC (wts := [p_other]) rfl rfl (XIy.i (xiy_seq (xe_op opv_ixT (XE.v (xe_var rfl)) (XE.v xe_c)))) (fun ws => (fun x18 => xc_unY xg_2 fun b19 => (xe_tup (xa_cons (xe_op opv_dgT (XE.v (xe_var rfl)) (XE.v (xe_var rfl))) (xa_cons (xe_clo (f := sn_law_renamed__law_family_by) (wts := [p_other]) rfl (xa_cons (xe_var rfl) xa_nil)) xa_nil))))))) xav_nil)) fun v31 => (xs_set (xe_fn fnv_sortedF (xav_cons (XE.v (xe_compC (wts := [p_other]) rfl rfl (XIy.i (xiy_seq (xe_op opv_ixT (XE.v (xe_var rfl)) (XE.v xe_c)))) (fun ws => (fun x35 => xc_unY xg_2 fun b36 => (xe_tup (xa_cons (xe_op opv_dgT (XE.v (xe_var rfl)) (XE.v (xe_var rfl))) (xa_cons (xe_clo (f := sn_law_renamed__law_family_by) (wts := [p_other]) rfl (xa_cons (xe_var rfl) xa_nil)) xa_nil))))))) xav_nil)) fun v48 => (xs_set (xe_fn fnv_tupleF (xav_cons (XE.v (xe_fn fnv_sortedF (xav_cons (XE.v (xe_compC (wts := [p_other]) rfl rfl (XIy.i (xiy_seq (xe_op opv_ixT (XE.v (xe_var rfl)) (XE.v xe_c)))) (fun ws => (fun x52 => xc_nameY (xe_clo (f := sn_law_renamed__law_family_by) (wts := [p_other]) rfl (xa_cons (xe_var rfl) xa_nil)))))) xav_nil))) xav_nil)) fun v61 => (xs_ret (g := fun v => v) (fun _ => rfl) (XE.v (xe_tup (xa_cons (xe_fn fnv_tupleF (xav_cons (XE.v (xe_var rfl)) xav_nil)) (xa_cons (xe_var rfl) (xa_cons (xe_fn fnv_tupleF (xav_cons (XE.v (xe_var rfl)) xav_nil)) (xa_cons (xe_fn fnv_tupleF (xav_cons (XE.v (xe_var rfl)) xav_nil)) xa_nil))))))))))))
def sp_law_renamed (Pt : Addr) : SpT := spT Pt "_law_renamed.<locals>._law_family_by" (spU (u2 m_law_renamed))
theorem len_law_renamed (Pt : Addr) : ∀ ts S Q E, sp_law_renamed Pt ts S Q E → ts.length = 2 := spT_len (spU_len ar2)
theorem vc_law_renamed (Pt : Addr) (cells : List (Str × Addr)) : VC N_law_renamed (sp_law_renamed Pt) (c_law_renamed Pt cells) := vc_uT fun S ts hP => match ts with
  | [] => xs_stuck
  | [_] => xs_stuck
  | [p_book, p_other] => x_law_renamed S  p_book p_other Pt cells hP
  | _ :: _ :: _ :: _ => xs_stuck
def N_the_law : List Str := ["_law_script", "_law_pen", "_law_book", "_law_names", "_law_turned", "_law_again", "_law_elders", "_law_family", "_law_lone", "_law_child", "_law_k", "_law_at", "_law_far", "_law_one", "_law_other", "_law_found", "_law_left", "_law_less", "_law_name", "_law_mark", "_law_tie", "_law_m", "_law_n", "_law_half", "_law_by"]
def t_the_law (Pt : Addr) (cells : List (Str × Addr)) : TTS :=
  (cSeq (cSet 2 (cCall sp_law_drawn_book (cCons (cVar 1) (cCons (cC (.int 16)) (cCons (cC (.int 2)) cNil)))))
    (cSeq (cSet 3 (cComp (iSeq (cOp ixT (cVar 2) (cC (.int 0)))) (gT (gC (gN 18) (gC (gN 19) gZ))) bYes (cVar 18) [18, 19]))
    (cSeq (cSet 4 (cFn dzipF (cCons (cVar 3) (cCons (cCall sp_law_drawn_names (cCons (cVar 1) (cCons (cFn lenF (cCons (cVar 3) cNil)) cNil))) cNil))))
    (cSeq (cSet 5 (cCall (sp_law_renamed Pt) (cCons (cVar 2) (cCons (cVar 4) cNil))))
    (cSeq (cSet 6 (cLst cNil))
    (cSeq (cFor (iSeq (cOp ixT (cVar 2) (cC (.int 1)))) (gN 7) ((cSeq (cSet 6 (cOp addT (cVar 6) (cFn listF (cCons (cVar 7) cNil))))
    cSkip)))
    (cSeq (cSet 8 (cComp (iSeq (cVar 3)) (gN 18) (bVal (cOp ninT (cVar 18) (cVar 6))) (cVar 18) [18]))
    (cSeq (cFor (iSeq (cSl (cOp addT (cOp ixT (cVar 2) (cC (.int 2))) (cOp ixT (cVar 2) (cC (.int 3)))) oNo (oSome (cC (.int 8))))) (gT (gC (gN 9) (gC (gN 7) gZ))) ((cSeq (cIfS (bVal (cOp eqT (cComp (iSeq (cCall sp_ties (cCons (cVar 2) (cCons (cVar 9) (cCons (cOp ixT (cVar 7) (cUn negT (cC (.int 1)))) cNil))))) (gN 20) (bVal (cOp eqT (cSl (cVar 20) oNo (oSome (cC (.int 2)))) (cTup (cCons (cC (.int 1)) (cCons (cC (.int 0)) cNil))))) (cVar 20) [20]) (cLst cNil))) (cSeq (cRet (cC (.bl false)))
    cSkip) cSkip)
    cSkip)))
    (cSeq (cFor (iRange1 (cOp mulT2 (cC (.int 4)) (cFn intF (cCons (cOp gtT (cFn lenF (cCons (cVar 3) cNil)) (cC (.int 1))) cNil)))) (gN 10) ((cSeq (cSet 11 (cCall sp_law_draw (cCons (cVar 1) (cCons (cFn lenF (cCons (cVar 3) cNil)) cNil))))
    (cSeq (cSet 12 (cOp addT (cOp addT (cVar 11) (cC (.int 1))) (cCall sp_law_draw (cCons (cVar 1) (cCons (cOp subT (cFn lenF (cCons (cVar 3) cNil)) (cC (.int 1))) cNil)))))
    (cSeq (cAsg (cTup (cCons (cOp ixT (cVar 3) (cVar 11)) (cCons (cOp ixT (cVar 3) (cOp modT (cVar 12) (cFn lenF (cCons (cVar 3) cNil)))) cNil))) (gT (gC (gN 13) (gC (gN 14) gZ))))
    (cSeq (cSet 15 (cCall sp_ties (cCons (cVar 2) (cCons (cVar 13) (cCons (cVar 14) cNil)))))
    (cSeq (cIfS (bVal (cOp neT (cCall sp_ties (cCons (cVar 2) (cCons (cVar 14) (cCons (cVar 13) cNil)))) (cFn tupleF (cCons (cFn sortedF (cCons (cComp (iSeq (cVar 15)) (gT (gC (gN 21) (gC (gN 22) (gC (gN 23) (gC (gN 24) gZ))))) bYes (cTup (cCons (cVar 22) (cCons (cVar 21) (cCons (cVar 23) (cCons (cVar 24) cNil))))) [21, 22, 23, 24]) cNil)) cNil)))) (cSeq (cRet (cC (.bl false)))
    cSkip) cSkip)
    (cSeq (cIfS (bVal (cOp neT (cCall sp_ties (cCons (cVar 5) (cCons (cOp dgT (cVar 4) (cVar 13)) (cCons (cOp dgT (cVar 4) (cVar 14)) cNil)))) (cVar 15))) (cSeq (cRet (cC (.bl false)))
    cSkip) cSkip)
    (cSeq (cSet 16 (cComp (iSeq (cVar 8)) (gN 18) (bVal (cOp ninT (cVar 18) (cTup (cCons (cVar 13) (cCons (cVar 14) cNil))))) (cVar 18) [18]))
    (cSeq (cIfS (bVal (cOp neT (cVar 16) (cLst cNil))) (cSeq (cSet 17 (cCall sp_law_without (cCons (cVar 2) (cCons (cOp ixT (cVar 16) (cCall sp_law_draw (cCons (cVar 1) (cCons (cFn lenF (cCons (cVar 16) cNil)) cNil)))) cNil))))
    (cSeq (cIfS (bVal (cOp neT (cCall sp_ties (cCons (cVar 17) (cCons (cVar 13) (cCons (cVar 14) cNil)))) (cVar 15))) (cSeq (cRet (cC (.bl false)))
    cSkip) cSkip)
    cSkip)) cSkip)
    cSkip))))))))))
    (cSeq (cRet (cC (.bl true)))
    cSkip))))))))))
def c_the_law (Pt : Addr) (cells : List (Str × Addr)) : TTS := cSeq (cSet 1 (cCall sp_law_pen_of (cCons (cVar 0) cNil))) (t_the_law Pt cells)
def sp_the_law (Pt : Addr) : SpT := spT Pt "_law_renamed.<locals>._law_family_by" sp_law1
def m_the_law : PM Cell T :=
  bd (bd (pu (.int 16)) fun v1 => bd (pu (.int 2)) fun v2 => m_law_drawn_book v1 v2) fun v3 => bd (bd (bd (bd (pu v3) fun v5 => bd (pu (.int 0)) fun v6 => ofO (ixT emp v5 v6)) itemsM) fun xs10 => bd (compG (fun x7 => bd (ofO (un2 x7)) fun b8 => bd (pu b8.1) fun v9 => pu (some v9)) xs10) fun ys11 => pu (.lst ys11)) fun v12 => bd (bd (pu v12) fun v16 => bd (bd (bd (pu v12) fun v14 => ofO (lenF emp [v14])) fun v15 => m_law_drawn_names v15) fun v17 => ofO (dzipF emp [v16, v17])) fun v18 => bd (bd (pu v3) fun v20 => bd (pu v18) fun v21 => lft (m_law_renamed v20 v21)) fun v22 => bd ((pu (.lst []) : PM _ T)) fun v24 => bd (bd (bd (bd (pu v3) fun v27 => bd (pu (.int 1)) fun v28 => ofO (ixT emp v27 v28)) itemsM) fun xs35 => forM (fun x29 (s26 : T) => bd (bd (pu s26) fun v31 => bd (bd (pu x29) fun v30 => ofO (listF emp [v30])) fun v32 => ofO (addT emp v31 v32)) fun v33 => pu v33) xs35 v24) fun (s26 : T) => bd (bd (bd (pu v12) itemsM) fun xs41 => bd (compG (fun x36 => bd (bd (bd (pu x36) fun v38 => bd (pu s26) fun v39 => ofO (ninT emp v38 v39)) tb) fun v40 => if v40 = true then bd (pu x36) fun v37 => pu (some v37) else pu none) xs41) fun ys42 => pu (.lst ys42)) fun v43 => bd (bd (bd (bd (bd (bd (pu v3) fun v46 => bd (pu (.int 2)) fun v47 => ofO (ixT emp v46 v47)) fun v50 => bd (bd (pu v3) fun v48 => bd (pu (.int 3)) fun v49 => ofO (ixT emp v48 v49)) fun v51 => ofO (addT emp v50 v51)) fun v54 => bd (pu none) fun v55 => bd (bd (pu (.int 8)) fun v52 => bd (intO v52) fun v53 => pu (some v53)) fun v56 => ofO (slT emp v54 v55 v56)) itemsM) fun xs83 => forR (fun x57 (s45 : Unit) => bd (ofO (un2 x57)) fun b58 => bd (bd (bd (bd (bd (bd (pu v3) fun v62 => bd (pu b58.1) fun v63 => bd (bd (pu b58.2) fun v60 => bd (bd (pu (.int 1)) fun v59 => ofO (negT emp v59)) fun v61 => ofO (ixT emp v60 v61)) fun v64 => lft (m_ties v62 v63 v64)) itemsM) fun xs77 => bd (compG (fun x65 => bd (bd (bd (bd (pu x65) fun v69 => bd (pu none) fun v70 => bd (bd (pu (.int 2)) fun v67 => bd (intO v67) fun v68 => pu (some v68)) fun v71 => ofO (slT emp v69 v70 v71)) fun v74 => bd (bd (pu (.int 1)) fun v72 => bd (pu (.int 0)) fun v73 => pu (.tup [v72, v73])) fun v75 => ofO (eqT emp v74 v75)) tb) fun v76 => if v76 = true then bd (pu x65) fun v66 => pu (some v66) else pu none) xs77) fun ys78 => pu (.lst ys78)) fun v79 => bd ((pu (.lst []) : PM _ T)) fun v80 => ofO (eqT emp v79 v80)) tb) fun v81 => if v81 = true then bd (pu (.bl false)) fun v82 => pu (.rt v82) else pu (.nx ())) xs83 ()) fun r183 => Sum.elim (fun (s45 : Unit) => bd (bd (bd (bd (pu (.int 4)) fun v89 => bd (bd (bd (bd (pu v12) fun v85 => ofO (lenF emp [v85])) fun v86 => bd (pu (.int 1)) fun v87 => ofO (gtT emp v86 v87)) fun v88 => ofO (intF emp [v88])) fun v90 => ofO (mulT2 emp v89 v90)) rng1) fun xs180 => forR (fun x91 (s84 : Unit) => bd (bd (bd (pu v12) fun v92 => ofO (lenF emp [v92])) fun v93 => m_law_draw v93) fun v94 => bd (bd (bd (pu v94) fun v96 => bd (pu (.int 1)) fun v97 => ofO (addT emp v96 v97)) fun v102 => bd (bd (bd (bd (pu v12) fun v98 => ofO (lenF emp [v98])) fun v99 => bd (pu (.int 1)) fun v100 => ofO (subT emp v99 v100)) fun v101 => m_law_draw v101) fun v103 => ofO (addT emp v102 v103)) fun v104 => bd (bd (bd (pu v12) fun v106 => bd (pu v94) fun v107 => ofO (ixT emp v106 v107)) fun v113 => bd (bd (pu v12) fun v111 => bd (bd (pu v104) fun v109 => bd (bd (pu v12) fun v108 => ofO (lenF emp [v108])) fun v110 => ofO (modT emp v109 v110)) fun v112 => ofO (ixT emp v111 v112)) fun v114 => pu (.tup [v113, v114])) fun v115 => bd (ofO (un2 v115)) fun b116 => bd (bd (pu v3) fun v117 => bd (pu b116.1) fun v118 => bd (pu b116.2) fun v119 => lft (m_ties v117 v118 v119)) fun v120 => bd (bd (bd (bd (pu v3) fun v122 => bd (pu b116.2) fun v123 => bd (pu b116.1) fun v124 => lft (m_ties v122 v123 v124)) fun v136 => bd (bd (bd (bd (bd (pu v120) itemsM) fun xs132 => bd (compG (fun x125 => bd (ofO (un4 x125)) fun b126 => bd (bd (pu b126.2.1) fun v127 => bd (pu b126.1) fun v128 => bd (pu b126.2.2.1) fun v129 => bd (pu b126.2.2.2) fun v130 => pu (.tup [v127, v128, v129, v130])) fun v131 => pu (some v131)) xs132) fun ys133 => pu (.lst ys133)) fun v134 => ofO (sortedF emp [v134])) fun v135 => ofO (tupleF emp [v135])) fun v137 => ofO (neT emp v136 v137)) tb) fun v138 => if v138 = true then bd (pu (.bl false)) fun v139 => pu (.rt v139) else bd (bd (bd (bd (pu v22) fun v144 => bd (bd (pu v18) fun v140 => bd (pu b116.1) fun v141 => ofO (dgT emp v140 v141)) fun v145 => bd (bd (pu v18) fun v142 => bd (pu b116.2) fun v143 => ofO (dgT emp v142 v143)) fun v146 => lft (m_ties v144 v145 v146)) fun v147 => bd (pu v120) fun v148 => ofO (neT emp v147 v148)) tb) fun v149 => if v149 = true then bd (pu (.bl false)) fun v150 => pu (.rt v150) else bd (bd (bd (pu v43) itemsM) fun xs158 => bd (compG (fun x151 => bd (bd (bd (pu x151) fun v155 => bd (bd (pu b116.1) fun v153 => bd (pu b116.2) fun v154 => pu (.tup [v153, v154])) fun v156 => ofO (ninT emp v155 v156)) tb) fun v157 => if v157 = true then bd (pu x151) fun v152 => pu (some v152) else pu none) xs158) fun ys159 => pu (.lst ys159)) fun v160 => bd (bd (bd (pu v160) fun v162 => bd ((pu (.lst []) : PM _ T)) fun v163 => ofO (neT emp v162 v163)) tb) fun v164 => if v164 = true then bd (bd (pu v3) fun v169 => bd (bd (pu v160) fun v167 => bd (bd (bd (pu v160) fun v165 => ofO (lenF emp [v165])) fun v166 => m_law_draw v166) fun v168 => ofO (ixT emp v167 v168)) fun v170 => lft (m_law_without v169 v170)) fun v171 => bd (bd (bd (bd (pu v171) fun v173 => bd (pu b116.1) fun v174 => bd (pu b116.2) fun v175 => lft (m_ties v173 v174 v175)) fun v176 => bd (pu v120) fun v177 => ofO (neT emp v176 v177)) tb) fun v178 => if v178 = true then bd (pu (.bl false)) fun v179 => pu (.rt v179) else pu (.nx ()) else pu (.nx ())) xs180 ()) fun r182 => Sum.elim (fun (s84 : Unit) => bd (pu (.bl true)) fun v181 => pu v181) (fun v => pu v) r182) (fun v => pu v) r183
theorem x_the_law (S : Sto) (pa : Addr) (a : T) (Pt : Addr) (cells : List (Str × Addr)) (hP : S Pt = some (.tab "_law_renamed.<locals>._law_family_by")) (hn : pa ≠ Pt) : XS (penW S pa) [some a, some (.ref pa), none, none, none, none, none, none, none, none, none, none, none, none, none, none, none, none, none, none, none, none, none, none, none] [] (t_the_law Pt cells) m_the_law .rt :=
  (xs_set (xe_callP rfl (xa_cons xe_c (xa_cons xe_c xa_nil))) fun v3 => (xs_set (xe_comp (XIy.i (xiy_seq (xe_op opv_ixT (XE.v (xe_var rfl)) (XE.v xe_c)))) (fun x7 => xc_unY xg_2 fun b8 => (xe_var rfl))) fun v12 => (xs_set (xe_fn fnv_dzipF (xav_cons (XE.v (xe_var rfl)) (xav_cons (XE.v (xe_callP rfl (xa_cons (xe_fn fnv_lenF (xav_cons (XE.v (xe_var rfl)) xav_nil)) xa_nil))) xav_nil))) fun v18 => (xs_set (xe_callT (penW_tab hP hn) (xa_cons (xe_var rfl) (xa_cons (xe_var rfl) xa_nil))) fun v22 => (xs_set (xe_lst xa_nil) fun v24 => (xs_seq (xs_for (σ := T) (P := fun s26 => [some a, some (.ref pa), some v3, some v12, some v18, some v22, some s26, none, none, none, none, none, none, none, none, none, none, none, none, none, none, none, none, none, none]) (C := fun s26 => []) (s0 := v24) (xiy_seq (xe_op opv_ixT (XE.v (xe_var rfl)) (XE.v xe_c))) ⟨.inr rfl, .inr rfl, .inr rfl, .inr rfl, .inr rfl, .inr rfl, .inr rfl, .inl rfl, .inl rfl, .inl rfl, .inl rfl, .inl rfl, .inl rfl, .inl rfl, .inl rfl, .inl rfl, .inl rfl, .inl rfl, .inl rfl, .inl rfl, .inl rfl, .inl rfl, .inl rfl, .inl rfl, .inl rfl, trivial⟩ rfl (fun x29 s26 => xf_name (xs_set (xe_op opv_addT (XE.v (xe_var rfl)) (XE.v (xe_fn fnv_listF (xav_cons (XE.v (xe_var rfl)) xav_nil)))) fun v33 => (xs_skip rfl ⟨.inr rfl, .inr rfl, .inr rfl, .inr rfl, .inr rfl, .inr rfl, .inr rfl, .inl rfl, .inl rfl, .inl rfl, .inl rfl, .inl rfl, .inl rfl, .inl rfl, .inl rfl, .inl rfl, .inl rfl, .inl rfl, .inl rfl, .inl rfl, .inl rfl, .inl rfl, .inl rfl, .inl rfl, .inl rfl, trivial⟩)))) fun s26 => (xs_set (xe_comp (XIy.i (xiy_seq (xe_var rfl))) (fun x36 => xc_name (xb_val (xe_opr opv_ninT (xe_var rfl) (XE.v (xe_var rfl)))) (xe_var rfl))) fun v43 => (xs_seqR (g := fun v => v) (fun _ => rfl) (xs_forR (σ := Unit) (P := fun s45 => [some a, some (.ref pa), some v3, some v12, some v18, some v22, some s26, none, some v43, none, none, none, none, none, none, none, none, none, none, none, none, none, none, none, none]) (C := fun s45 => []) (s0 := ()) (xiy_seq (xe_sl (XE.v (xe_op opv_addT (XE.v (xe_op opv_ixT (XE.v (xe_var rfl)) (XE.v xe_c))) (XE.v (xe_op opv_ixT (XE.v (xe_var rfl)) (XE.v xe_c))))) xo_no (xo_some xe_c))) ⟨.inr rfl, .inr rfl, .inr rfl, .inr rfl, .inr rfl, .inr rfl, .inr rfl, .inl rfl, .inr rfl, .inl rfl, .inl rfl, .inl rfl, .inl rfl, .inl rfl, .inl rfl, .inl rfl, .inl rfl, .inl rfl, .inl rfl, .inl rfl, .inl rfl, .inl rfl, .inl rfl, .inl rfl, .inl rfl, trivial⟩ rfl (fun x57 s45 => xf_un xg_2 fun b58 => (xs_ifE (xb_val (xe_op opv_eqT (XE.v (xe_comp (XIy.i (xiy_seq (xe_call (xa_cons (xe_var rfl) (xa_cons (xe_var rfl) (xa_cons (xe_op opv_ixT (XE.v (xe_var rfl)) (XE.v (xe_un unv_negT (XE.v xe_c)))) xa_nil)))))) (fun x65 => xc_name (xb_val (xe_op opv_eqT (XE.v (xe_sl (XE.v (xe_var rfl)) xo_no (xo_some xe_c))) (XE.v (xe_tup (xa_cons xe_c (xa_cons xe_c xa_nil)))))) (xe_var rfl)))) (XE.v (xe_lst xa_nil)))) (xs_assoc (xs_ret (g := Fl.rt) (fun _ => rfl) (XE.v xe_c))) (xs_skipseq (xs_skip rfl ⟨.inr rfl, .inr rfl, .inr rfl, .inr rfl, .inr rfl, .inr rfl, .inr rfl, .inl rfl, .inr rfl, .inl rfl, .inl rfl, .inl rfl, .inl rfl, .inl rfl, .inl rfl, .inl rfl, .inl rfl, .inl rfl, .inl rfl, .inl rfl, .inl rfl, .inl rfl, .inl rfl, .inl rfl, .inl rfl, trivial⟩))))) fun s45 => (xs_seqR (g := fun v => v) (fun _ => rfl) (xs_forR (σ := Unit) (P := fun s84 => [some a, some (.ref pa), some v3, some v12, some v18, some v22, some s26, none, some v43, none, none, none, none, none, none, none, none, none, none, none, none, none, none, none, none]) (C := fun s84 => []) (s0 := ()) (xiy_range1 (xe_op opv_mulT2 (XE.v xe_c) (XE.v (xe_fnx fnx_intF (xa_cons (xe_opx opx_gtT (xe_fn fnv_lenF (xav_cons (XE.v (xe_var rfl)) xav_nil)) xe_c) xa_nil))))) ⟨.inr rfl, .inr rfl, .inr rfl, .inr rfl, .inr rfl, .inr rfl, .inr rfl, .inl rfl, .inr rfl, .inl rfl, .inl rfl, .inl rfl, .inl rfl, .inl rfl, .inl rfl, .inl rfl, .inl rfl, .inl rfl, .inl rfl, .inl rfl, .inl rfl, .inl rfl, .inl rfl, .inl rfl, .inl rfl, trivial⟩ rfl (fun x91 s84 => xf_name (xs_set (xe_callP rfl (xa_cons (xe_fn fnv_lenF (xav_cons (XE.v (xe_var rfl)) xav_nil)) xa_nil)) fun v94 => (xs_set (xe_op opv_addT (XE.v (xe_op opv_addT (XE.v (xe_var rfl)) (XE.v xe_c))) (XE.v (xe_callP rfl (xa_cons (xe_op opv_subT (XE.v (xe_fn fnv_lenF (xav_cons (XE.v (xe_var rfl)) xav_nil))) (XE.v xe_c)) xa_nil)))) fun v104 => (xs_asg (xe_tup (xa_cons (xe_op opv_ixT (XE.v (xe_var rfl)) (XE.v (xe_var rfl))) (xa_cons (xe_op opv_ixT (XE.v (xe_var rfl)) (XE.v (xe_op opv_modT (XE.v (xe_var rfl)) (XE.v (xe_fn fnv_lenF (xav_cons (XE.v (xe_var rfl)) xav_nil)))))) xa_nil))) xg_2 fun b116 => (xs_set (xe_call (xa_cons (xe_var rfl) (xa_cons (xe_var rfl) (xa_cons (xe_var rfl) xa_nil)))) fun v120 => (xs_ifE (xb_val (xe_op opv_neT (XE.v (xe_call (xa_cons (xe_var rfl) (xa_cons (xe_var rfl) (xa_cons (xe_var rfl) xa_nil))))) (XE.v (xe_fn fnv_tupleF (xav_cons (XE.v (xe_fn fnv_sortedF (xav_cons (XE.v (xe_comp (XIy.i (xiy_seq (xe_var rfl))) (fun x125 => xc_unY xg_4 fun b126 => (xe_tup (xa_cons (xe_var rfl) (xa_cons (xe_var rfl) (xa_cons (xe_var rfl) (xa_cons (xe_var rfl) xa_nil)))))))) xav_nil))) xav_nil))))) (xs_assoc (xs_ret (g := Fl.rt) (fun _ => rfl) (XE.v xe_c))) (xs_skipseq (xs_ifE (xb_val (xe_op opv_neT (XE.v (xe_call (xa_cons (xe_var rfl) (xa_cons (xe_op opv_dgT (XE.v (xe_var rfl)) (XE.v (xe_var rfl))) (xa_cons (xe_op opv_dgT (XE.v (xe_var rfl)) (XE.v (xe_var rfl))) xa_nil))))) (XE.v (xe_var rfl)))) (xs_assoc (xs_ret (g := Fl.rt) (fun _ => rfl) (XE.v xe_c))) (xs_skipseq (xs_set (xe_comp (XIy.i (xiy_seq (xe_var rfl))) (fun x151 => xc_name (xb_val (xe_opr opv_ninT (xe_var rfl) (XE.v (xe_tup (xa_cons (xe_var rfl) (xa_cons (xe_var rfl) xa_nil)))))) (xe_var rfl))) fun v160 => (xs_ifE (xb_val (xe_op opv_neT (XE.v (xe_var rfl)) (XE.v (xe_lst xa_nil)))) (xs_assoc (xs_set (xe_call (xa_cons (xe_var rfl) (xa_cons (xe_op opv_ixT (XE.v (xe_var rfl)) (XE.v (xe_callP rfl (xa_cons (xe_fn fnv_lenF (xav_cons (XE.v (xe_var rfl)) xav_nil)) xa_nil)))) xa_nil))) fun v171 => (xs_assoc (xs_ifE (xb_val (xe_op opv_neT (XE.v (xe_call (xa_cons (xe_var rfl) (xa_cons (xe_var rfl) (xa_cons (xe_var rfl) xa_nil))))) (XE.v (xe_var rfl)))) (xs_assoc (xs_ret (g := Fl.rt) (fun _ => rfl) (XE.v xe_c))) (xs_skipseq (xs_skipseq (xs_skip rfl ⟨.inr rfl, .inr rfl, .inr rfl, .inr rfl, .inr rfl, .inr rfl, .inr rfl, .inl rfl, .inr rfl, .inl rfl, .inl rfl, .inl rfl, .inl rfl, .inl rfl, .inl rfl, .inl rfl, .inl rfl, .inl rfl, .inl rfl, .inl rfl, .inl rfl, .inl rfl, .inl rfl, .inl rfl, .inl rfl, trivial⟩))))))) (xs_skipseq (xs_skip rfl ⟨.inr rfl, .inr rfl, .inr rfl, .inr rfl, .inr rfl, .inr rfl, .inr rfl, .inl rfl, .inr rfl, .inl rfl, .inl rfl, .inl rfl, .inl rfl, .inl rfl, .inl rfl, .inl rfl, .inl rfl, .inl rfl, .inl rfl, .inl rfl, .inl rfl, .inl rfl, .inl rfl, .inl rfl, .inl rfl, trivial⟩)))))))))))))) fun s84 => (xs_ret (g := fun v => v) (fun _ => rfl) (XE.v xe_c)))))))))))
end K31
namespace K31
open PySem PySem.Spec PyProof.Rows TL
open L2 hiding putF
local macro_rules | `(tactic| simp_arith [$ts,*] $[$loc]?) => `(tactic| simp (implicitDefEqProofs := false) only [pu_bd, bd_bd, bd_pu, ofO_some, ofO_none, ofO_ite, stuck_bd, thr_bd, lft_pu, lft_bd, lft_gdc, lft_ite, lft_stuck, tb_bl, intO_int, itemsM_tup, itemsM_lst, itemsM_str, gd_c, gdc_T, compG_map, compA_pu, compA_gd, compA_if, compA_gdif, forM_map, forR_map, un2_tup, un3_tup, un4_tup, sum_inl, sum_inr, isStr_str, isTup_tup, joinF_l, joinF_t, strsOf_nil, strsOf_cons, strsOf_map, Option.bind_some, Option.bind_none, addT_int, addT_str, addT_lst, addT_tup, subT_int, mulT2_int, mulT2_str, fdivT_int, modT_int, powT_int, negT_int, eqT_int, neT_int, eqT_str, neT_str, eqT_bl, neT_bl, ltT_int, gtT_int, leT_int, geT_int, ixT_lst, ixT_tup, atI_0, atI_1, atI_2, atI_3, lenF_lst, lenF_tup, lenF_str, absF_int, intF_int, intF_bl, max2F_int, min2F_int, strF_int, isi_str, isi_int, isi_tup, isi_lst, slT_lst, slT_tup, slT_str, tupleF_lst, tupleF_tup, listF_lst, listF_tup, inT_strs, ninT_strs, inT_strsT, ninT_strsT, ite_pu, decide_eq_true_eq, Bool.not_eq_true', if_true, if_false, Bool.false_eq_true, Bool.true_eq_false, Option.map_some, Option.map_none, isbT_bl, isnbT_bl, $ts,*] $[$loc]?)
local macro_rules | `(tactic| simp_arith! [$ts,*] $[$loc]?) => `(tactic| simp (implicitDefEqProofs := false) only [pu_bd, bd_bd, bd_pu, ofO_some, ofO_none, ofO_ite, stuck_bd, thr_bd, lft_pu, lft_bd, lft_gdc, lft_ite, lft_stuck, tb_bl, intO_int, itemsM_tup, itemsM_lst, itemsM_str, gd_c, gdc_T, compG_map, compA_pu, compA_gd, compA_if, compA_gdif, forM_map, forR_map, un2_tup, un3_tup, un4_tup, sum_inl, sum_inr, isStr_str, isTup_tup, joinF_l, joinF_t, strsOf_nil, strsOf_cons, strsOf_map, Option.bind_some, Option.bind_none, addT_int, addT_str, addT_lst, addT_tup, subT_int, mulT2_int, mulT2_str, fdivT_int, modT_int, powT_int, negT_int, eqT_int, neT_int, eqT_str, neT_str, eqT_bl, neT_bl, ltT_int, gtT_int, leT_int, geT_int, ixT_lst, ixT_tup, atI_0, atI_1, atI_2, atI_3, lenF_lst, lenF_tup, lenF_str, absF_int, intF_int, intF_bl, max2F_int, min2F_int, strF_int, isi_str, isi_int, isi_tup, isi_lst, slT_lst, slT_tup, slT_str, tupleF_lst, tupleF_tup, listF_lst, listF_tup, inT_strs, ninT_strs, inT_strsT, ninT_strsT, ite_pu, decide_eq_true_eq, Bool.not_eq_true', if_true, if_false, Bool.false_eq_true, Bool.true_eq_false, Option.map_some, Option.map_none, isbT_bl, isnbT_bl, kis_non_non, kis_non_bool, kis_non_int, kis_non_str, kis_non_tup, kis_non_lst, kis_non_dct, kis_bool_non, kis_bool_bool, kis_bool_int, kis_bool_str, kis_bool_tup, kis_bool_lst, kis_bool_dct, kis_int_non, kis_int_bool, kis_int_int, kis_int_str, kis_int_tup, kis_int_lst, kis_int_dct, kis_str_non, kis_str_bool, kis_str_int, kis_str_str, kis_str_tup, kis_str_lst, kis_str_dct, kis_tup_non, kis_tup_bool, kis_tup_int, kis_tup_str, kis_tup_tup, kis_tup_lst, kis_tup_dct, kis_lst_non, kis_lst_bool, kis_lst_int, kis_lst_str, kis_lst_tup, kis_lst_lst, kis_lst_dct, kis_dct_non, kis_dct_bool, kis_dct_int, kis_dct_str, kis_dct_tup, kis_dct_lst, kis_dct_dct, isi_bl, isi_non, List.any_cons, List.any_nil, Bool.or_false, Bool.or_true, Bool.false_or, Bool.true_or, Bool.not_true, Bool.not_false, beq_self_eq_true, bne_self_eq_false, $ts,*] $[$loc]?)
local macro_rules | `(tactic| simp_all_arith [$ts,*]) => `(tactic| simp (implicitDefEqProofs := false) only [pu_bd, bd_bd, bd_pu, ofO_some, ofO_none, ofO_ite, stuck_bd, thr_bd, lft_pu, lft_bd, lft_gdc, lft_ite, lft_stuck, tb_bl, intO_int, itemsM_tup, itemsM_lst, itemsM_str, gd_c, gdc_T, compG_map, compA_pu, compA_gd, compA_if, compA_gdif, forM_map, forR_map, un2_tup, un3_tup, un4_tup, sum_inl, sum_inr, isStr_str, isTup_tup, joinF_l, joinF_t, strsOf_nil, strsOf_cons, strsOf_map, Option.bind_some, Option.bind_none, addT_int, addT_str, addT_lst, addT_tup, subT_int, mulT2_int, mulT2_str, fdivT_int, modT_int, powT_int, negT_int, eqT_int, neT_int, eqT_str, neT_str, eqT_bl, neT_bl, ltT_int, gtT_int, leT_int, geT_int, ixT_lst, ixT_tup, atI_0, atI_1, atI_2, atI_3, lenF_lst, lenF_tup, lenF_str, absF_int, intF_int, intF_bl, max2F_int, min2F_int, strF_int, isi_str, isi_int, isi_tup, isi_lst, slT_lst, slT_tup, slT_str, tupleF_lst, tupleF_tup, listF_lst, listF_tup, inT_strs, ninT_strs, inT_strsT, ninT_strsT, ite_pu, decide_eq_true_eq, Bool.not_eq_true', if_true, if_false, Bool.false_eq_true, Bool.true_eq_false, Option.map_some, Option.map_none, isbT_bl, isnbT_bl, extM_l, appM_c, compA_ifo, fkT, kinT, famT, List.cons_append, List.nil_append, $ts,*])
/-- distinct letters -/
theorem ltr_at {i : Nat} (h : i < 26) : lowers[i]? = some (lowers.getD i 0) := by
  rw [List.getD_eq_getElem?_getD, List.getElem?_eq_getElem (by rw [lowers_len]; exact h)]
  rfl
def ltr (b s k : Nat) : Sg := lowers.getD ((b + s * k) % 26) 0
theorem ltr_in {b s k : Nat} : ltr b s k ∈ lowers := List.mem_of_getElem? (ltr_at (Nat.mod_lt _ (by omega)))
theorem ltr_inj {b s i j : Nat} (hs : s = 7 ∨ s = 5 ∨ s = 11 ∨ s = 17) (hi : i < 26) (hj : j < 26) (e : ltr b s i = ltr b s j) : i = j := by
  have nd : lowers.Nodup := by decide +kernel
  have h1 := ltr_at (i := (b + s * i) % 26) (Nat.mod_lt _ (by omega))
  have h2 := ltr_at (i := (b + s * j) % 26) (Nat.mod_lt _ (by omega))
  have e' : lowers.getD ((b + s * i) % 26) 0 = lowers.getD ((b + s * j) % 26) 0 := e
  rw [e'] at h1
  have := (List.getElem?_inj (by rw [lowers_len]; exact Nat.mod_lt _ (by omega)) nd).mp (h1.trans h2.symm)
  rcases hs with rfl | rfl | rfl | rfl <;> omega
/-- the k-th name -/
def drwN (w : Nm) (at_ : Nat) (b s k : Nat) : Nm := w.take at_ ++ [ltr b s k] ++ w.drop (at_ + 1)
theorem drwN_len {w : Nm} {a b s k : Nat} (h : a < w.length) : (drwN w a b s k).length = w.length := by
  unfold drwN
  simp
  omega
theorem drwN_at {w : Nm} {a b s k : Nat} (h : a < w.length) : (drwN w a b s k)[a]? = some (ltr b s k) := by
  unfold drwN
  rw [List.append_assoc, List.getElem?_append_right (by rw [List.length_take]; omega), List.length_take, Nat.min_eq_left (by omega), Nat.sub_self]
  rfl
theorem drwN_ok {w : Nm} {a b s k : Nat} (h : a < w.length) (ok : NameOk w) : NameOk (drwN w a b s k) := by
  obtain ⟨h1, h2, h3⟩ := ok
  have l := drwN_len (b := b) (s := s) (k := k) h
  refine ⟨by omega, by omega, fun c hc => ?_⟩
  unfold drwN at hc
  rcases List.mem_append.mp hc with z | z
  · rcases List.mem_append.mp z with z | z
    · exact h3 c (List.mem_of_mem_take z)
    · rw [List.mem_singleton.mp z]; exact ltr_in
  · exact h3 c (List.mem_of_mem_drop z)
theorem take_ok {x : Nm} {n : Nat} (ok : NameOk x) (h : 1 ≤ n) : NameOk (x.take n) := by
  obtain ⟨h1, h2, h3⟩ := ok
  exact ⟨by rw [List.length_take]; omega, by rw [List.length_take]; omega, fun c hc => h3 c (List.mem_of_mem_take hc)⟩
theorem letters2_ht {size : Int} (h0 : 1 ≤ size) (h1 : size ≤ 8) : HT 8 (compA (fun _ : Nat => bd (m_draw (.int 26)) fun a => bd (ofO (ixT emp (.str lowers) a)) fun v => pu (some v)) (List.range size.toNat)) fun ys => ∃ cs : List Sg, ys = (cs.map fun c => [c]).map T.str ∧ NameOk cs ∧ (cs.length : Int) = size := by
  refine HT.le ((HT.compN 1 8 (I := fun rest acc => ∃ cs : List Sg, acc = (cs.map fun c => [c]).map T.str ∧ (cs.length : Int) + rest.length = size ∧ ∀ c ∈ cs, c ∈ lowers) ?_ ?_ ?_).mono ?_) (by omega)
  · rw [List.length_range]; omega
  · exact ⟨[], rfl, by simp; omega, nofun⟩
  · rintro x rest acc ⟨cs, rfl, hl, hm⟩
    refine HT.drawB (by omega) (by omega) fun d d0 d1 => ?_
    obtain ⟨c, hc, e⟩ := at_ones (x := lowers) d0 (by rw [lowers_len]; omega) (by rw [lowers_len, sizeLine_eq]; omega)
    rw [e]
    refine HT.pu ⟨cs ++ [c], by simp [Option.toList], ?_, fun z hz => ?_⟩
    · rw [List.length_append]; simp at hl ⊢; omega
    · rcases List.mem_append.mp hz with k | k
      · exact hm z k
      · rw [List.mem_singleton.mp k]; exact hc
  · rintro ys ⟨cs, rfl, hl, hm⟩
    simp at hl
    exact ⟨cs, rfl, ⟨by omega, by omega, hm⟩, by omega⟩
theorem fm26 (n : Nat) : ((n : Int)).fmod 26 = ((n % 26 : Nat) : Int) := by
  rw [Int.fmod_eq_emod_of_nonneg _ (by decide)]
  omega
theorem drawn_names_ht {many : Nat} (hm : many ≤ 20) : HT 100 (m_law_drawn_names (.int many)) fun v => ∃ xs : List Nm, v = .lst (xs.map T.str) ∧ xs.Nodup ∧ (∀ x ∈ xs, NameOk x) ∧ xs.length = many := by
  have hs := sizeLine_eq
  have e0 : q "" = [] := by decide +kernel
  have el : q "abcdefghijklmnopqrstuvwxyz" = lowers := rfl
  have l26 := lowers_len
  unfold m_law_drawn_names
  simp_arith [el, e0]
  refine HT.le (HT.drawB (d := 90) (by omega) (by omega) fun b b0 b1 => ?_) (by omega)
  refine HT.le (HT.drawB (d := 80) (by omega) (by omega) fun z z0 z1 => ?_) (by omega)
  simp_arith []
  refine HT.le (HT.drawB (d := 70) (by omega) (by omega) fun a a0 a1 => ?_) (by omega)
  simp_arith []
  rw [rng1_int (by omega), pu_bd, compG_map, gdc_b (by rw [List.length_range]; omega)]
  refine HT.le (HT.bd (d1 := 8) (d2 := 50) (letters2_ht (size := 1 + z) (by omega) (by omega)) ?_) (by omega)
  rintro ys ⟨w, rfl, okw, lw⟩
  have js : joinSz [] (w.map fun c => [c]) = true := joinSz_ok (k := 1) (fun x hx => by obtain ⟨c, _, rfl⟩ := List.mem_map.mp hx; simp) (by have := okw.2.1; simp; omega)
  rw [strsOf_map, Option.bind_some, if_pos js, ofO_some, pu_bd, jn_ones]
  refine HT.le (HT.drawB (d := 40) (by omega) (by omega) fun j j0 j1 => ?_) (by omega)
  obtain ⟨s, es, hS⟩ : ∃ s : Nat, ixT emp (.lst [.int 7, .int 5, .int 11, .int 17]) (.int j) = some (.int s) ∧ (s = 7 ∨ s = 5 ∨ s = 11 ∨ s = 17) := by
    rcases (by omega : j = 0 ∨ j = 1 ∨ j = 2 ∨ j = 3) with rfl | rfl | rfl | rfl
    · exact ⟨7, rfl, by simp⟩
    · exact ⟨5, rfl, by simp⟩
    · exact ⟨11, rfl, by simp⟩
    · exact ⟨17, rfl, by simp⟩
  obtain ⟨na, rfl⟩ := Int.eq_ofNat_of_zero_le a0
  obtain ⟨nb, rfl⟩ := Int.eq_ofNat_of_zero_le b0
  rw [es, ofO_some, pu_bd, rng1_int (by omega), pu_bd, forM_map]
  have na1 : na < w.length := by omega
  have lw8 := okw.2.1
  have s17 : s ≤ 17 := by omega
  have one : ∀ (k : Nat) (ys : List Nm), k < 20 → ys.length ≤ 20 → (bd (ofO (mulT2 emp (.int s) (.int (0 + (k : Int))))) fun a_5 => bd (ofO (addT emp (T.int nb) a_5)) fun a_6 => bd (ofO (modT emp a_6 (T.int 26))) fun a_7 => bd (ofO (ixT emp (T.str lowers) a_7)) fun v46 => bd (ofO (slT emp (.str w) none (some (na : Int)))) fun a_8 => bd (ofO (addT emp a_8 v46)) fun a_9 => bd (ofO (slT emp (.str w) (some ((na : Int) + 1)) none)) fun a => bd (ofO (addT emp a_9 a)) fun v49 => appM (κ := Cell) (ys.map T.str) v49) = pu ((ys ++ [drwN w na nb s k]).map T.str) := fun k ys hk hy => by
    have ml : mulI (s : Int) (0 + (k : Int)) = true := mulI_b (by omega) (by omega)
    have md : ((nb : Int) + (s : Int) * (0 + (k : Int))) = ((nb + s * k : Nat) : Int) := by push_cast; rw [Int.zero_add]
    have mo : modI ((nb : Int) + (s : Int) * (0 + (k : Int))) 26 = true := rfl
    have ix : ixT emp (.str lowers) (.int (((nb + s * k) % 26 : Nat) : Int)) = some (.str [ltr nb s k]) := by
      rw [ixT_str, if_pos (by omega), atI_natE, ltr_at (Nat.mod_lt _ (by omega))]
      rfl
    have c2 : ((na : Int) + 1) = ((na + 1 : Nat) : Int) := by omega
    rw [mulT2_int, if_pos ml, ofO_some, pu_bd, addT_int, ofO_some, pu_bd, modT_int, if_pos mo, ofO_some, pu_bd, md, fm26, ix, ofO_some, pu_bd, slT_str, if_pos (by omega), ofO_some, pu_bd, cut_to, addT_str, if_pos (by rw [List.length_take]; simp; omega), ofO_some, pu_bd, c2, slT_str, if_pos (by omega), ofO_some, pu_bd, cut_from, addT_str,
      if_pos (by simp; omega), ofO_some, pu_bd, appM_c, gdc_b (by rw [List.length_map]; omega)]
    rw [List.map_append]
    rfl
  refine HT.le (HT.bd (d1 := 0) (d2 := 10) (P := fun s' => s' = ((List.range many).map (drwN w na nb s)).map T.str) ?_ ?_) (by omega)
  · refine (HT.le (HT.forN 0 20 (I := fun rest s' => ∃ i : Nat, rest = List.range' i (many - i) ∧ i ≤ many ∧ s' = ((List.range i).map (drwN w na nb s)).map T.str) (by simpa using hm) ⟨0, by rw [List.range_eq_range', Nat.sub_zero]; simp, by omega, rfl⟩ ?_) (by omega)).mono ?_
    · rintro x rest s' ⟨i, er, hi, rfl⟩
      obtain ⟨rfl, er, hi'⟩ : x = i ∧ rest = List.range' (i + 1) (many - (i + 1)) ∧ i < many := by
        cases q : many - i with
        | zero => rw [q] at er; cases er
        | succ n =>
          rw [q, List.range'_succ] at er
          injection er with e1 e2
          refine ⟨e1, ?_, by omega⟩
          rw [e2]
          congr 1
          omega
      rw [one x _ (by omega) (by simp; omega)]
      exact HT.pu ⟨x + 1, er, by omega, by simp [List.range_succ]⟩
    · rintro s' ⟨i, er, hi, rfl⟩
      have : i = many := by
        cases q : many - i with
        | zero => omega
        | succ n => rw [q] at er; cases er
      rw [this]
  rintro s' rfl
  have nd : ∀ (cut : Nat → Nat), (∀ k, na < cut k) → ((List.range many).map fun k => (drwN w na nb s k).take (cut k)).Nodup := fun cut hc => by
    rw [List.nodup_iff_pairwise_ne, List.pairwise_map]
    refine List.Pairwise.imp_of_mem (fun {a b} ha hb hab e => ?_) List.pairwise_lt_range
    have ha := List.mem_range.mp ha
    have hb := List.mem_range.mp hb
    have e2 := congrArg (fun l : Nm => l[na]?) e
    simp only [List.getElem?_take, hc, if_true, drwN_at na1] at e2
    have := ltr_inj hS (by omega) (by omega) (Option.some.inj e2)
    omega
  have all : ∀ x ∈ (List.range many).map (drwN w na nb s), NameOk x := fun x hx => by
    obtain ⟨k, _, rfl⟩ := List.mem_map.mp hx
    exact drwN_ok na1 okw
  refine HT.le (HT.bd (d1 := 1) (d2 := 0) (P := fun _ => True) ?_ fun v _ => ?_) (by omega)
  · refine HT.ite (fun _ => HT.drawB (d := 0) (by omega) (by omega) fun i i0 i1 => ?_) fun _ => HT.pu trivial
    simp_arith []
    exact HT.pu trivial
  have last : HT 0 (pu (T.lst (((List.range many).map (drwN w na nb s)).map T.str)) : PM Cell T) fun v => ∃ xs : List Nm, v = .lst (xs.map T.str) ∧ xs.Nodup ∧ (∀ x ∈ xs, NameOk x) ∧ xs.length = many := by
    refine HT.pu ⟨_, rfl, ?_, all, by simp⟩
    have := nd (fun k => 100) fun k => by omega
    rwa [List.map_congr_left (g := drwN w na nb s) fun k _ => List.take_of_length_le (by rw [drwN_len na1]; omega)] at this
  refine HT.ite (fun _ => ?_) fun _ => last
  have em : enumM (κ := Cell) (.lst (((List.range many).map (drwN w na nb s)).map T.str)) = pu ((List.range many).map fun k : Nat => T.tup [.int (k : Int), .str (drwN w na nb s k)]) := by
    show pu (enumL _) = _
    rw [enumL_map]
    congr 1
    apply List.ext_getElem (by simp)
    intro i h1 h2
    simp
  rw [em, pu_bd, compG_map, gdc_b (by rw [List.length_range]; omega)]
  rw [compA_congr (g := fun k : Nat => pu (some (T.str ((drwN w na nb s k).take (if ((w.length : Int) - ((k % 3 : Nat) : Int)) > (na : Int) + 1 then ((w.length : Int) - ((k % 3 : Nat) : Int)) else (na : Int) + 1).toNat)))) fun k hk => ?_]
  rotate_left
  · have hk := List.mem_range.mp hk
    have u : un2 (T.tup [.int (k : Int), .str (drwN w na nb s k)]) = some (.int (k : Int), .str (drwN w na nb s k)) := rfl
    have f3 : ((k : Int)).fmod 3 = ((k % 3 : Nat) : Int) := by
      rw [Int.fmod_eq_emod_of_nonneg _ (by decide)]
      omega
    have mo : modI (k : Int) 3 = true := rfl
    rw [u, ofO_some, pu_bd]
    dsimp only
    rw [modT_int, if_pos mo, ofO_some, pu_bd, f3]
    simp_arith []
    have cc : (if 1 + z - ((k % 3 : Nat) : Int) > (na : Int) + 1 then 1 + z - ((k % 3 : Nat) : Int) else (na : Int) + 1) = (((if ((w.length : Int) - ((k % 3 : Nat) : Int)) > (na : Int) + 1 then ((w.length : Int) - ((k % 3 : Nat) : Int)) else (na : Int) + 1).toNat : Nat) : Int) := by
      rw [lw]
      split <;> omega
    rw [gdc_b (by rw [drwN_len na1]; omega), cc, cut_to]
  rw [compA_pu, pu_bd]
  refine HT.pu ⟨(List.range many).map fun k : Nat => (drwN w na nb s k).take (if ((w.length : Int) - ((k % 3 : Nat) : Int)) > (na : Int) + 1 then ((w.length : Int) - ((k % 3 : Nat) : Int)) else (na : Int) + 1).toNat, by rw [List.map_map]; rfl, nd _ fun k => ?_, fun x hx => ?_, by simp⟩
  · split <;> omega
  · obtain ⟨k, _, rfl⟩ := List.mem_map.mp hx
    exact take_ok (drwN_ok na1 okw) (by split <;> omega)
theorem two_set {x y : Nm} {ns : List Nm} (hx : x ∈ ns) (hy : y ∈ ns) : FamOk ns (srtU T.str [x, y]) := by
  have m : ∀ z, z ∈ srtU T.str [x, y] ↔ z = x ∨ z = y := fun z => by
    rw [ke_str.srtU_mem, List.mem_cons, List.mem_singleton]
  refine ⟨List.length_pos_iff.mpr fun e => ?_, srtU_len [x, y], se_str.riseU fun _ _ => trivial, ke_str.srtU_nodup _, fun z hz => ?_⟩
  · have := (m x).mpr (.inl rfl)
    rw [e] at this
    cases this
  · rcases (m z).mp hz with rfl | rfl
    · exact hx
    · exact hy
theorem take_at {names : List Nm} {lo k : Nat} {i : Int} (i0 : 0 ≤ i) (i1 : i < (k : Int) - lo) (lk : lo ≤ k) (hk : k ≤ names.length) : ∃ x, x ∈ names.take k ∧ ixT emp (.lst (names.map T.str)) (.int ((lo : Int) + i)) = some (.str x) := by
  obtain ⟨n, rfl⟩ := Int.eq_ofNat_of_zero_le i0
  have hn : lo + n < k := by omega
  refine ⟨names[lo + n]'(by omega), List.mem_of_getElem? (i := lo + n) (by rw [List.getElem?_take, if_pos hn]; exact List.getElem?_eq_getElem _), ?_⟩
  rw [show ((lo : Int) + n) = ((lo + n : Nat) : Int) by omega, ixT_lst, atI_natE, List.getElem?_map, List.getElem?_eq_getElem (by omega)]
  rfl
theorem drawn_family_ht {names : List Nm} {k : Nat} (k1 : 1 ≤ k) (k2 : k ≤ names.length) (l : names.length ≤ 100) : HT 4 (m_law_drawn_family (.lst (names.map T.str)) (.int k)) fun v => ∃ f : List Nm, v = famT f ∧ FamOk (names.take k) f := by
  have hs := sizeLine_eq
  unfold m_law_drawn_family
  simp_arith []
  refine HT.drawB (d := 3) (by omega) (by omega) fun j j0 j1 => ?_
  obtain ⟨lo, el, hlo⟩ : ∃ lo : Nat, ixT emp (T.lst [T.int 0, T.int (if (k : Int) - 3 > 0 then (k : Int) - 3 else 0), T.int (if (k : Int) - 5 > 0 then (k : Int) - 5 else 0)]) (.int j) = some (.int lo) ∧ lo < k := by
    rcases (by omega : j = 0 ∨ j = 1 ∨ j = 2) with rfl | rfl | rfl
    · exact ⟨0, by rw [ixT_lst, atI_0]; rfl, by omega⟩
    · refine ⟨(if (k : Int) - 3 > 0 then (k : Int) - 3 else 0).toNat, ?_, by split <;> omega⟩
      rw [ixT_lst, atI_1]
      congr 2
      split <;> omega
    · refine ⟨(if (k : Int) - 5 > 0 then (k : Int) - 5 else 0).toNat, ?_, by split <;> omega⟩
      rw [ixT_lst, atI_2]
      congr 2
      split <;> omega
  rw [el, ofO_some, pu_bd]
  simp_arith []
  refine HT.drawB (d := 2) (by omega) (by omega) fun i i0 i1 => ?_
  obtain ⟨x, hx, ex⟩ := take_at (names := names) i0 i1 (by omega) k2
  simp_arith [] at ex
  simp_arith [ex]
  refine HT.drawB (d := 1) (by omega) (by omega) fun i i0 i1 => ?_
  obtain ⟨y, hy, ey⟩ := take_at (names := names) i0 i1 (by omega) k2
  simp_arith [] at ey
  simp_arith [ey]
  refine HT.drawB (d := 0) (by omega) (by omega) fun i i0 i1 => ?_
  simp_arith []
  obtain ⟨z, hz, ez⟩ : ∃ z, z ∈ names.take k ∧ (if decide (i = 0) = true then T.str x else T.str y) = .str z := by
    split
    · exact ⟨x, hx, rfl⟩
    · exact ⟨y, hy, rfl⟩
  simp_arith [] at ez
  rw [ez, show [T.str x, T.str z] = [x, z].map T.str from rfl, (sset_strs (xs := [x, z]) (by show 2 + 2 < scanBound; decide)).1, ofO_some, pu_bd, tupleF_lst]
  exact HT.pu ⟨_, rfl, two_set hx hz⟩
/-- a plain book in the making: the first k names have been gone through -/
structure Mkg (names : List Nm) (k : Nat) (as bs : List (Nm × List Nm)) (us : List (List Nm)) : Prop where
  fu : ∀ f ∈ us, FamOk names f
  kin : ∀ b ∈ bs ++ as, b.2 ∈ us ∧ ∃ j, j < k ∧ names[j]? = some b.1 ∧ ∀ x ∈ b.2, x ∈ names.take j
  one : (bs.map (·.1)).Nodup
  dj : ∀ b ∈ bs, b ∉ as
  la : as.length ≤ 12
  lb : bs.length ≤ k
theorem plc_take : ∀ {names : List Nm} {k : Nat} {x : Nm}, x ∈ names.take k → ∃ j, plc x names = some j ∧ j < k ∧ j < names.length
  | [], k, x, h => by rw [List.take_nil] at h; cases h
  | y :: ys, 0, x, h => by rw [List.take_zero] at h; cases h
  | y :: ys, k + 1, x, h => by
    rw [List.take_succ_cons] at h
    unfold plc
    by_cases e : y = x
    · rw [if_pos e]
      exact ⟨0, rfl, by omega, by simp⟩
    · rw [if_neg e]
      rcases List.mem_cons.mp h with z | z
      · exact absurd z.symm e
      · obtain ⟨j, e1, e2, e3⟩ := plc_take z
        exact ⟨j + 1, by rw [e1]; rfl, by omega, by rw [List.length_cons]; omega⟩
theorem not_take {names : List Nm} (nd : names.Nodup) {j : Nat} {x : Nm} (h : names[j]? = some x) : x ∉ names.take j := fun hx => by
  have nd2 : (names.take j ++ names.drop j).Nodup := by rw [List.take_append_drop]; exact nd
  have hd : x ∈ names.drop j := List.mem_of_getElem? (i := 0) (by rw [List.getElem?_drop, Nat.add_zero]; exact h)
  exact (List.nodup_append.mp nd2).2.2 x hx x hd rfl
theorem Mkg.ok {names : List Nm} (nd : names.Nodup) {k : Nat} {as bs : List (Nm × List Nm)} {us : List (List Nm)} (h : Mkg names k as bs us) : ∀ b ∈ bs ++ as, KinOk names us b := fun b hb => by
  obtain ⟨h1, j, _, h3, h4⟩ := h.kin b hb
  exact ⟨List.mem_of_getElem? h3, h1, fun z => not_take nd h3 (h4 _ z)⟩
def rowOf (rs : List Int) (names : List Nm) (x : Nm) : Int := rs.getD ((plc x names).getD 0) 0
theorem row_at {names : List Nm} {rs : List Int} {k : Nat} (lr : rs.length = k) {x : Nm} (h : x ∈ names.take k) : ∃ j : Nat, lixF emp (T.lst (names.map T.str)) [T.str x] = some (.int (j : Int)) ∧ ixT emp (T.lst (rs.map T.int)) (.int (j : Int)) = some (.int (rowOf rs names x)) := by
  obtain ⟨j, e, j1, _⟩ := plc_take h
  refine ⟨j, by rw [lixF_l, e]; rfl, ?_⟩
  have lt : j < rs.length := by omega
  rw [ixT_lst, atI_natE, List.getElem?_map]
  unfold rowOf
  rw [e]
  show Option.map T.int rs[j]? = some (.int (rs.getD j 0))
  rw [List.getD_eq_getElem?_getD, List.getElem?_eq_getElem lt]
  rfl
theorem Mkg.more {names : List Nm} {k : Nat} {as bs : List (Nm × List Nm)} {us : List (List Nm)} (h : Mkg names k as bs us) : Mkg names (k + 1) as bs us :=
  ⟨h.fu, fun b hb => by
    obtain ⟨h1, j, h2, h3⟩ := h.kin b hb
    exact ⟨h1, j, by omega, h3⟩, h.one, h.dj, h.la, by have := h.lb; omega⟩
theorem Mkg.new {names : List Nm} (nd : names.Nodup) {k : Nat} {as bs : List (Nm × List Nm)} {us : List (List Nm)} (h : Mkg names k as bs us) {c : Nm} (hc : names[k]? = some c) : ∀ b ∈ bs ++ as, b.1 ≠ c := fun b hb e => by
  obtain ⟨_, j, h2, h3, _⟩ := h.kin b hb
  rw [e] at h3
  have : j = k := (List.getElem?_inj (List.getElem?_eq_some_iff.mp h3).1 nd).mp (h3.trans hc.symm)
  omega
theorem Mkg.born {names : List Nm} (nd : names.Nodup) {k : Nat} {as bs : List (Nm × List Nm)} {us : List (List Nm)} (h : Mkg names k as bs us) {c : Nm} (hc : names[k]? = some c) {f : List Nm} (ff : FamOk (names.take k) f) : Mkg names (k + 1) as (bs ++ [(c, f)]) (us ++ [f]) := by
  have nw := h.new nd hc
  refine ⟨fun g hg => ?_, fun b hb => ?_, ?_, fun b hb hb2 => ?_, h.la, by have := h.lb; simp; omega⟩
  · rcases List.mem_append.mp hg with z | z
    · exact h.fu g z
    · rw [List.mem_singleton.mp z]
      exact famOk_sub ff fun x hx => List.mem_of_mem_take hx
  · have old : b ∈ bs ++ as → b.2 ∈ us ++ [f] ∧ ∃ j, j < k + 1 ∧ names[j]? = some b.1 ∧ ∀ x ∈ b.2, x ∈ names.take j := fun hb => by
      obtain ⟨h1, j, h2, h3⟩ := h.kin b hb
      exact ⟨List.mem_append_left _ h1, j, by omega, h3⟩
    rcases List.mem_append.mp hb with z | z
    · rcases List.mem_append.mp z with z | z
      · exact old (List.mem_append_left _ z)
      · rw [List.mem_singleton.mp z]
        exact ⟨List.mem_append_right _ (List.mem_singleton.mpr rfl), k, by omega, hc, ff.mem⟩
    · exact old (List.mem_append_right _ z)
  · rw [List.map_append]
    refine List.nodup_append.mpr ⟨h.one, by simp, fun a ha b hb e => ?_⟩
    obtain ⟨x, hx, rfl⟩ := List.mem_map.mp ha
    have hb : b = c := by simpa using hb
    exact nw x (List.mem_append_left _ hx) (e.trans hb)
  · rcases List.mem_append.mp hb with z | z
    · exact h.dj b z hb2
    · rw [List.mem_singleton.mp z] at hb2
      exact nw _ (List.mem_append_right _ hb2) rfl
theorem Mkg.adopted {names : List Nm} (nd : names.Nodup) {k : Nat} {as bs : List (Nm × List Nm)} {us : List (List Nm)} (h : Mkg names k as bs us) {j : Nat} {c : Nm} (hc : names[j]? = some c) {n : Nat} (hj : j < n) (hn : k ≤ n) {f : List Nm} (ff : FamOk (names.take j) f) (room : as.length < 12) (no : (c, f) ∉ bs) : Mkg names n (as ++ [(c, f)]) bs (us ++ [f]) := by
  refine ⟨fun g hg => ?_, fun b hb => ?_, h.one, fun b hb hb2 => ?_, by simp; omega, by have := h.lb; omega⟩
  · rcases List.mem_append.mp hg with z | z
    · exact h.fu g z
    · rw [List.mem_singleton.mp z]
      exact famOk_sub ff fun x hx => List.mem_of_mem_take hx
  · have old : b ∈ bs ++ as → b.2 ∈ us ++ [f] ∧ ∃ j, j < n ∧ names[j]? = some b.1 ∧ ∀ x ∈ b.2, x ∈ names.take j := fun hb => by
      obtain ⟨h1, j, h2, h3⟩ := h.kin b hb
      exact ⟨List.mem_append_left _ h1, j, by omega, h3⟩
    rcases List.mem_append.mp hb with z | z
    · exact old (List.mem_append_left _ z)
    · rcases List.mem_append.mp z with z | z
      · exact old (List.mem_append_right _ z)
      · rw [List.mem_singleton.mp z]
        exact ⟨List.mem_append_right _ (List.mem_singleton.mpr rfl), j, hj, hc, ff.mem⟩
  · rcases List.mem_append.mp hb2 with z | z
    · exact h.dj b hb z
    · rw [List.mem_singleton.mp z] at hb
      exact no hb
theorem Mkg.union {names : List Nm} {k : Nat} {as bs : List (Nm × List Nm)} {us : List (List Nm)} (h : Mkg names k as bs us) {f : List Nm} (ff : FamOk names f) : Mkg names k as bs (us ++ [f]) :=
  ⟨fun g hg => by
    rcases List.mem_append.mp hg with z | z
    · exact h.fu g z
    · rw [List.mem_singleton.mp z]; exact ff, fun b hb => by
    obtain ⟨h1, j, h2, h3⟩ := h.kin b hb
    exact ⟨List.mem_append_left _ h1, j, h2, h3⟩, h.one, h.dj, h.la, h.lb⟩
/-- one birth each, none of them an adoption, children behind their parents in some order -/
def PlnB (B : Bk) : Prop := ∃ names : List Nm, B.names.Perm names ∧ (B.births.map (·.1)).Nodup ∧ (∀ b ∈ B.births, b ∉ B.adopts) ∧ ∀ b ∈ B.births ++ B.adopts, ∃ j, names[j]? = some b.1 ∧ ∀ x ∈ b.2, x ∈ names.take j
theorem drawn_book_ht {most rate : Nat} (hm1 : 1 ≤ most) (hm : most ≤ 16) (hr : rate ≤ 100) : HT 2000 (m_law_drawn_book (.int most) (.int rate)) fun v => ∃ B : Bk, v = bkT B ∧ BkOk B ∧ PlnB B ∧ B.names ≠ [] ∧ B.names.length ≤ most := by
  have hs := sizeLine_eq
  unfold m_law_drawn_book
  simp_arith []
  refine HT.le (HT.drawB (d := 1900) (by omega) (by omega) fun m m0 m1 => ?_) (by omega)
  obtain ⟨mo, rfl⟩ := Int.eq_ofNat_of_zero_le m0
  simp_arith []
  rw [show (1 + (mo : Int)) = ((1 + mo : Nat) : Int) by omega]
  refine HT.le (HT.bd (d1 := 100) (d2 := 1800) (drawn_names_ht (by omega)) ?_) (by omega)
  rintro v ⟨names, rfl, nd, ok, ln⟩
  have nz : names ≠ [] := fun z => by rw [z] at ln; simp at ln; omega
  simp_arith []
  refine HT.gdc (by omega) ?_
  refine HT.le (HT.bd (d1 := 20) (d2 := 1700) (P := fun ys => ∃ folk : List (Nm × Nm), ys = folk.map fkT ∧ folk.map (·.1) = names ∧ ∀ x ∈ folk, x.2 ∈ MKS) ?_ ?_) (by omega)
  · refine (HT.le (HT.compN 1 16 (I := fun rest acc => ∃ folk : List (Nm × Nm), acc = folk.map fkT ∧ folk.map (·.1) ++ rest = names ∧ ∀ x ∈ folk, x.2 ∈ MKS) (by omega) ⟨[], rfl, rfl, nofun⟩ ?_) (by omega)).mono ?_
    · rintro x rest acc ⟨folk, rfl, e, ms⟩
      refine HT.drawB (by omega) (by omega) fun i i0 i1 => ?_
      obtain ⟨w, hw, e2⟩ := wmo_pick i0 i1
      simp_arith [e2]
      refine HT.pu ⟨folk ++ [(x, w)], by simp [fkT], by simp [← e], fun y hy => ?_⟩
      rcases List.mem_append.mp hy with z | z
      · exact ms y z
      · rw [List.mem_singleton.mp z]; exact hw
    · rintro ys ⟨folk, rfl, e, ms⟩
      exact ⟨folk, rfl, by simpa using e, ms⟩
  rintro ys ⟨folk, rfl, en, ms⟩
  have lf : folk.length = names.length := by rw [← en, List.length_map]
  have n1 := List.length_pos_iff.mpr nz
  rw [rng2_int (by omega), pu_bd, forM_map]
  refine HT.le (HT.bd (d1 := 1200) (d2 := 400) (P := fun s => ∃ (as bs : List (Nm × List Nm)) (us : List (List Nm)) (kp : T), s = (bs.map kinT, us.map famT, as.map kinT, kp) ∧ Mkg names names.length as bs us ∧ us.length ≤ 15 + as.length ∧ (ddup famT us).length ≤ 15 ∧ as.Nodup) ?_ ?_) (by omega)
  · refine (HT.le (HT.forN 60 15 (I := fun rest s => ∃ (i : Nat) (as bs : List (Nm × List Nm)) (us kp : List (List Nm)), rest = List.range' i (names.length - 1 - i) ∧ i ≤ names.length - 1 ∧ s = (bs.map kinT, us.map famT, as.map kinT, .lst (kp.map famT)) ∧ Mkg names (i + 1) as bs us ∧ us.length ≤ 15 + as.length ∧ (ddup famT us).length ≤ 15 ∧ (∀ f ∈ us, FamOk (names.take (i + 1)) f) ∧ (∀ f ∈ kp, f ∈ us) ∧ kp.length ≤ us.length ∧ as.Nodup) (by rw [List.length_range]; omega) ⟨0, [], [], [], [], ?_, by omega, rfl, ⟨nofun, nofun, List.nodup_nil, nofun, by simp, by simp⟩, by simp, by simp [ddup], nofun, nofun, by simp, List.nodup_nil⟩ ?_) (by omega)).mono ?_
    · rw [List.range_eq_range', Nat.sub_zero]
      congr 1
      omega
    · rintro x rest s ⟨i, as, bs, us, kp, er, hi, rfl, mk, lu, du, fu, kpu, lk, na⟩
      obtain ⟨rfl, er, hi'⟩ : x = i ∧ rest = List.range' (i + 1) (names.length - 1 - (i + 1)) ∧ i < names.length - 1 := by
        cases q : names.length - 1 - i with
        | zero => rw [q] at er; cases er
        | succ n =>
          rw [q, List.range'_succ] at er
          injection er with e1 e2
          refine ⟨e1, ?_, by omega⟩
          rw [e2]
          congr 1
          omega
      have la := mk.la
      obtain ⟨c, hc⟩ : ∃ c, names[x + 1]? = some c := ⟨_, List.getElem?_eq_getElem (by omega)⟩
      dsimp only
      rw [show (1 + (x : Int)) = ((x + 1 : Nat) : Int) by omega]
      have ec : ixT emp (.lst (names.map T.str)) (.int ((x + 1 : Nat) : Int)) = some (.str c) := by
        rw [ixT_lst, atI_natE, List.getElem?_map, hc]; rfl
      have e0 : TL.neT emp (.lst (kp.map famT)) (.lst []) = some (.bl (!kp.isEmpty)) := by
        have := neT_nilL ke_fam (xs := kp)
        exact this
      rw [ec]
      refine HT.le (HT.drawB (d := 55) (by omega) (by omega) fun j j0 j1 => ?_) (by omega)
      refine HT.le (HT.bd (d1 := 4) (d2 := 50) (drawn_family_ht (k := x + 1) (by omega) (by omega) (by omega)) ?_) (by omega)
      rintro v ⟨f0, rfl, ff0⟩
      simp_arith [e0]
      refine HT.bd (d1 := 1) (d2 := 49) (P := fun v => ∃ f : List Nm, v = famT f ∧ FamOk (names.take (x + 1)) f) ?_ ?_
      · refine HT.ite (fun z => ?_) fun _ => HT.pu ⟨f0, rfl, ff0⟩
        have kn : kp ≠ [] := fun z2 => by rw [z2] at z; simp at z
        have kl := List.length_pos_iff.mpr kn
        rw [List.length_map]
        refine HT.drawB (d := 0) (by omega) (by omega) fun i i0 i1 => ?_
        obtain ⟨f, hf, e2, _⟩ := ix_map (e := famT) (xs := kp) i0 i1
        rw [e2, ofO_some]
        exact HT.pu ⟨f, rfl, fu f (kpu f hf)⟩
      rintro v ⟨g, rfl, gg⟩
      refine HT.le (d := 49) (HT.drawB (d := 48) (by omega) (by omega) fun j6 j60 j61 => ?_) (by omega)
      simp_arith []
      refine HT.bd (d1 := 0) (d2 := 48) (P := fun r => ∃ (bs' : List (Nm × List Nm)) (us' : List (List Nm)), r = (bs'.map kinT, us'.map famT) ∧ Mkg names (x + 2) as bs' us' ∧ us'.length ≤ 15 + as.length ∧ (ddup famT us').length ≤ 15 ∧ (∀ f ∈ us', FamOk (names.take (x + 1)) f) ∧ ∀ b ∈ bs', b.1 = c → b.2 = g) ?_ ?_
      · refine HT.ite (fun z => ?_) fun _ => HT.pu ⟨bs, us, rfl, mk.more, lu, du, fu, fun b hb e => absurd e (mk.new nd hc b (List.mem_append_left _ hb))⟩
        have z15 : us.length < 15 := by
          split at z
          · have := of_decide_eq_true z
            rw [List.length_map] at this
            omega
          · cases z
        have lb := mk.lb
        simp_arith [appM_c]
        rw [gdc_b (by rw [List.length_map]; omega), gdc_b (by rw [List.length_map]; omega)]
        have dd : (ddup famT (us ++ [g])).length ≤ 15 := by
          have := ddup_len (e := famT) (us ++ [g])
          rw [List.length_append, List.length_singleton] at this
          omega
        refine HT.pu ⟨bs ++ [(c, g)], us ++ [g], by simp [kinT], mk.born nd hc gg, by simp; omega, dd, fun f hf => ?_, fun b hb e => ?_⟩
        · rcases List.mem_append.mp hf with z | z
          · exact fu f z
          · rw [List.mem_singleton.mp z]; exact gg
        · rcases List.mem_append.mp hb with z | z
          · exact absurd e (mk.new nd hc b (List.mem_append_left _ z))
          · rw [List.mem_singleton.mp z]
      rintro r ⟨bs', us', rfl, mk', lu', du', fu', hg⟩
      refine HT.le (d := 48) (HT.drawB (d := 47) (by omega) (by omega) fun j4 j40 j41 => ?_) (by omega)
      obtain ⟨n, en7, hn⟩ : ∃ n : Nat, ixT emp (.lst [.int 1, .int 1, .int 3, .int 7]) (.int j4) = some (.int n) ∧ n ≤ 7 := by
        rcases (by omega : j4 = 0 ∨ j4 = 1 ∨ j4 = 2 ∨ j4 = 3) with rfl | rfl | rfl | rfl
        · exact ⟨1, rfl, by omega⟩
        · exact ⟨1, rfl, by omega⟩
        · exact ⟨3, rfl, by omega⟩
        · exact ⟨7, rfl, by omega⟩
      rw [en7, ofO_some, pu_bd, rng1_int (by omega), pu_bd, forM_map]
      refine HT.le (d := 45) (HT.bd (d1 := 45) (d2 := 0) (P := fun r => ∃ (as' : List (Nm × List Nm)) (us2 : List (List Nm)), r = (as'.map kinT, us2.map famT) ∧ Mkg names (x + 2) as' bs' us2 ∧ us2.length ≤ 15 + as'.length ∧ (ddup famT us2).length ≤ 15 ∧ (∀ f ∈ us2, FamOk (names.take (x + 1)) f) ∧ as'.Nodup) ?_ ?_) (by omega)
      · refine (HT.le (HT.forN 6 7 (I := fun _ r => ∃ (as' : List (Nm × List Nm)) (us2 : List (List Nm)), r = (as'.map kinT, us2.map famT) ∧ Mkg names (x + 2) as' bs' us2 ∧ us2.length ≤ 15 + as'.length ∧ (ddup famT us2).length ≤ 15 ∧ (∀ f ∈ us2, FamOk (names.take (x + 1)) f) ∧ as'.Nodup) (by simpa using hn) ⟨as, us', rfl, mk', lu', du', fu', na⟩ ?_) (by omega)).mono fun r h => h
        rintro t ts r ⟨as', us2, rfl, m2, l2, d2, f2, na2⟩
        have la2 := m2.la
        refine HT.le (d := 5) (HT.bd (d1 := 4) (d2 := 1) (drawn_family_ht (k := x + 1) (by omega) (by omega) (by omega)) ?_) (by omega)
        rintro v ⟨f, rfl, ff⟩
        have ni := (ke_kin.ninT (c, f) as').2
        rw [show kinT (c, f) = T.tup [T.str c, famT f] from rfl] at ni
        have sl := (se_fam.slen (xs := us2) (fun _ => rfl) (by omega)).1
        simp_arith [ni, sl]
        refine HT.drawB (d := 0) (by omega) (by omega) fun r r0 r1 => ?_
        have nt := ke_fam.neT f g
        simp_arith [nt]
        refine HT.bd (d1 := 0) (d2 := 0) (P := fun b => b = true → f ≠ g ∧ (c, f) ∉ as' ∧ (ddup famT us2).length < 15 ∧ as'.length < 12) ?_ fun b hb => ?_
        · refine HT.ite (fun _ => HT.ite (fun w1 => ?_) fun _ => HT.pu nofun) fun _ => HT.pu nofun
          by_cases hin : (c, f) ∈ as'
          · rw [if_neg (by simpa using hin), tb_bl, pu_bd]
            exact HT.pu (by simp)
          · rw [if_pos (by simpa using hin), tb_bl, pu_bd]
            refine HT.pu fun w => ?_
            split at w
            · rename_i w2
              have w2 := of_decide_eq_true w2
              have w := of_decide_eq_true w
              rw [List.length_map] at w
              exact ⟨by simpa using w1, hin, by omega, by omega⟩
            · cases w
        refine HT.ite (fun z => ?_) fun _ => HT.pu ⟨as', us2, rfl, m2, l2, d2, f2, na2⟩
        obtain ⟨z1, z2, z3, z4⟩ := hb z
        simp_arith [appM_c]
        rw [gdc_b (by rw [List.length_map]; omega), gdc_b (by rw [List.length_map]; omega)]
        have dd : (ddup famT (us2 ++ [f])).length ≤ 15 := by
          have e1 := (ke_fam.ddup_nodup (us2 ++ [f])).length_le_of_subset (l₂ := ddup famT us2 ++ [f]) fun y hy => by
            have := ke_fam.ddup_mem.mp hy
            rcases List.mem_append.mp this with w | w
            · exact List.mem_append_left _ (ke_fam.ddup_mem.mpr w)
            · exact List.mem_append_right _ w
          rw [List.length_append, List.length_singleton] at e1
          omega
        refine HT.pu ⟨as' ++ [(c, f)], us2 ++ [f], by simp [kinT], m2.adopted nd hc (by omega) (Nat.le_refl _) ff z4 fun hb => z1 (hg (c, f) hb rfl), by simp; omega, dd, fun y hy => ?_, ?_⟩
        · rcases List.mem_append.mp hy with w | w
          · exact f2 y w
          · rw [List.mem_singleton.mp w]; exact ff
        · exact List.nodup_append.mpr ⟨na2, by simp, fun a ha b hb2 e => z2 (by rw [← List.mem_singleton.mp hb2, ← e]; exact ha)⟩
      rintro r ⟨as', us2, rfl, m2, l2, d2, f2, na2⟩
      have la2 := m2.la
      have cm : compG (κ := Cell) (fun x118 => bd (ofO (ninT emp (T.str c) x118)) fun a => bd (tb a) fun v124 => pu (if v124 = true then some x118 else none)) (us2.map famT) = pu ((us2.filter fun f => decide (c ∉ f)).map famT) := by
        rw [compG_map, gdc_b (by omega)]
        have e : ∀ f : List Nm, (bd (ofO (ninT emp (T.str c) (famT f))) fun a => bd (tb a) fun v124 => pu (if v124 = true then some (famT f) else none) : PM Cell (Option T)) = pu (if c ∉ f then some (famT f) else none) := fun f => by
          rw [ninT_fam, ofO_some, pu_bd, tb_bl, pu_bd]
          simp
        simp only [e]
        exact compA_ifo _
      dsimp only
      rw [cm, pu_bd]
      exact HT.pu ⟨x + 1, as', bs', us2, us2.filter fun f => decide (c ∉ f), er, by omega, rfl, m2, l2, d2, fun f hf => famOk_sub (f2 f hf) fun y hy => by
        rw [List.mem_take_iff_getElem] at hy ⊢
        obtain ⟨n, hn, e⟩ := hy
        exact ⟨n, by omega, e⟩, fun f hf => (List.mem_filter.mp hf).1, List.length_filter_le _ _, na2⟩
    · rintro s ⟨i, as, bs, us, kp, er, hi, rfl, mk, lu, du, _, _, _, na⟩
      have : i = names.length - 1 := by
        cases q : names.length - 1 - i with
        | zero => omega
        | succ n => rw [q] at er; cases er
      exact ⟨as, bs, us, _, rfl, by have e : i + 1 = names.length := (by omega); rw [e] at mk; exact mk, lu, du, na⟩
  rintro s ⟨as, bs, us, kp, rfl, mk, lu, du, na⟩
  have la := mk.la
  have lb := mk.lb
  dsimp only
  refine HT.le (HT.drawB (d := 300) (by omega) (by omega) fun d d0 d1 => ?_) (by omega)
  obtain ⟨r, er, hr3⟩ : ∃ r : Nat, d * (if 1 < ((1 + mo : Nat) : Int) then 1 else 0) = (r : Int) ∧ r ≤ 3 := by
    split
    · exact ⟨d.toNat, by omega, by omega⟩
    · exact ⟨0, by omega, by omega⟩
  have ml2 : mulI d (if 1 < ((1 + mo : Nat) : Int) then 1 else 0) = true := mulI_b (by omega) (by split <;> omega)
  rw [mulT2_int, if_pos ml2, ofO_some, pu_bd, er, rng1_int (by omega), pu_bd, forM_map]
  refine HT.le (HT.bd (d1 := 18) (d2 := 0) (P := fun s => ∃ us : List (List Nm), s = us.map famT ∧ Mkg names names.length as bs us ∧ us.length ≤ 40 ∧ (ddup famT us).length ≤ 16) ?_ ?_) (by omega)
  · refine (HT.le (HT.forN 6 3 (I := fun rest s => ∃ us : List (List Nm), s = us.map famT ∧ Mkg names names.length as bs us ∧ us.length + rest.length ≤ 40 ∧ (ddup famT us).length ≤ 16) (by rw [List.length_range]; omega) ⟨us, rfl, mk, by rw [List.length_range]; omega, by omega⟩ ?_) (by omega)).mono ?_
    · rintro x rest s ⟨us, rfl, mk, lu, du⟩
      rw [List.length_cons] at lu
      rw [← ln]
      refine HT.le (d := 4) (HT.bd (d1 := 4) (d2 := 0) (drawn_family_ht (k := names.length) (by omega) (Nat.le_refl _) (by omega)) ?_) (by omega)
      rintro v ⟨f, rfl, ff⟩
      rw [List.take_length] at ff
      have sl := (se_fam.slen (xs := us) (fun _ => rfl) (by omega)).1
      simp_arith [sl, appM_c]
      refine HT.ite (fun z => ?_) fun _ => HT.pu ⟨us, rfl, mk, by omega, du⟩
      rw [gdc_b (by rw [List.length_map]; omega)]
      have dd : (ddup famT (us ++ [f])).length ≤ 16 := by
        have e1 := (ke_fam.ddup_nodup (us ++ [f])).length_le_of_subset (l₂ := ddup famT us ++ [f]) fun y hy => by
          have := ke_fam.ddup_mem.mp hy
          rcases List.mem_append.mp this with w | w
          · exact List.mem_append_left _ (ke_fam.ddup_mem.mpr w)
          · exact List.mem_append_right _ w
        rw [List.length_append, List.length_singleton] at e1
        omega
      exact HT.pu ⟨us ++ [f], by simp, mk.union ff, by simp; omega, dd⟩
    · rintro s ⟨us, rfl, mk, lu, du⟩
      exact ⟨us, rfl, mk, by simpa using lu, du⟩
  rintro s ⟨us, rfl, mk, lu, du⟩
  have hp : ∀ f ∈ us, f ≠ [] := fun f hf z => by have := (mk.fu f hf).lo; subst z; cases this
  have la := mk.la
  have lb := mk.lb
  rw [(se_kin.sorted (xs := as) (fun _ _ => trivial) (by omega)).1, (se_fk.sorted (xs := folk) (fun _ _ => trivial) (by omega)).1, (se_fam.sset hp (fun _ => rfl) (by omega)).1, (se_kin.sorted (xs := bs) (fun _ _ => trivial) (by omega)).1]
  simp_arith []
  rw [gdc_b (by simp; omega)]
  have nn : ∀ x, x ∈ ((srt fkT folk).map (·.1)) ↔ x ∈ names := fun x => by
    rw [← en]
    exact ((srt_perm folk).map (·.1)).mem_iff
  have um : ∀ f, f ∈ srtU famT us ↔ f ∈ us := fun f => ke_fam.srtU_mem
  have kk : ∀ b ∈ bs ++ as, KinOk ((srt fkT folk).map (·.1)) (srtU famT us) b := fun b hb => by
    have := mk.ok nd b hb
    exact ⟨(nn _).mpr this.kid, (um _).mpr this.fam, this.own⟩
  refine HT.pu ⟨⟨srt fkT folk, srtU famT us, srt kinT bs, srt kinT as⟩, rfl, ?_, ?_, ?_, ?_⟩
  · refine ⟨fun x hx => ?_, ?_, ?_, ?_, fun f hf => famOk_sub (mk.fu f ((um f).mp hf)) fun x hx => (nn x).mpr hx, se_fam.riseU hp, ?_, fun b hb => kk b (List.mem_append_left _ (srt_mem.mp hb)), se_kin.rise (fun _ _ => trivial) (TL.nodup_of_map (f := (·.1)) mk.one), ?_, fun b hb => kk b (List.mem_append_right _ (srt_mem.mp hb)), se_kin.rise (fun _ _ => trivial) na, ?_⟩
    · have hx := srt_mem.mp hx
      exact ⟨ok _ (en ▸ List.mem_map_of_mem hx), ms x hx⟩
    · exact (((srt_perm folk).map (·.1)).nodup_iff).mpr (en ▸ nd)
    · exact se_fk.rise (fun _ _ => trivial) (TL.nodup_of_map (f := (·.1)) (by rw [en]; exact nd))
    · show (srt fkT folk).length ≤ 16
      rw [srt_len]; omega
    · show (srt famT (ddup famT us)).length ≤ 16
      rw [srt_len]; exact du
    · show (srt kinT bs).length ≤ 24
      rw [srt_len]; omega
    · show (srt kinT as).length ≤ 12
      rw [srt_len]; omega
  · refine ⟨names, ?_, ?_, ?_, ?_⟩
    · show ((srt fkT folk).map (·.1)).Perm names
      rw [← en]
      exact (srt_perm folk).map (·.1)
    · exact (((srt_perm bs).map (·.1)).nodup_iff).mpr mk.one
    · exact fun b hb hb2 => mk.dj b (srt_mem.mp hb) (srt_mem.mp hb2)
    · intro b hb
      have hb : b ∈ bs ++ as := by
        rcases List.mem_append.mp hb with z | z
        · exact List.mem_append_left _ (srt_mem.mp z)
        · exact List.mem_append_right _ (srt_mem.mp z)
      obtain ⟨_, j, _, h2, h3⟩ := mk.kin b hb
      exact ⟨j, h2, h3⟩
  · intro z
    have z : (srt fkT folk).map (·.1) = [] := z
    have := congrArg List.length z
    rw [List.length_map, srt_len, lf, List.length_nil] at this
    omega
  · show ((srt fkT folk).map (·.1)).length ≤ most
    rw [List.length_map, srt_len]
    omega
abbrev Sp := Nm × List Nm × Bool
abbrev Ed := Nm × List Nm × Nat
abbrev Tie := Nat × Nat × Nat × Bool
def stps (B : Bk) (n : Nm) : List (List Nm × Bool) := (B.births.filter fun b => decide (b.1 = n)).map (fun b => (b.2, true)) ++ (B.adopts.filter fun b => decide (b.1 = n)).map (fun b => (b.2, false))
def Fw (B : Bk) : Nm → List Sp → Prop
  | _, [] => True
  | x, s :: r => (s.2.1, s.2.2) ∈ stps B x ∧ s.1 ∈ s.2.1 ∧ Fw B s.1 r
def endN : Nm → List Sp → Nm
  | x, [] => x
  | _, s :: r => endN s.1 r
def endF : List Nm → List Sp → List Nm
  | f, [] => f
  | _, s :: r => endF s.2.1 r
def allB (sp : List Sp) : Bool := sp.all (·.2.2)
def nms (x : Nm) (sp : List Sp) : List Nm := x :: sp.map (·.1)
def halfT (f g : List Nm) : Nat := if f ≠ [] ∧ g ≠ [] ∧ f ≠ g then 1 else 0
theorem halfT_comm (f g : List Nm) : halfT f g = halfT g f := by
  unfold halfT
  by_cases h1 : f = [] <;> by_cases h2 : g = [] <;> by_cases h3 : f = g <;> simp [h1, h2, h3]
  · exact fun z => h3 z.symm
theorem stps_kin {B : Bk} {n : Nm} {f : List Nm} {bo : Bool} (h : (f, bo) ∈ stps B n) : (n, f) ∈ B.kins := by
  unfold stps at h
  unfold Bk.kins
  rcases List.mem_append.mp h with z | z
  · obtain ⟨b, hb, e⟩ := List.mem_map.mp z
    obtain ⟨h1, h2⟩ := List.mem_filter.mp hb
    injection e with e1 e2
    have h2 := of_decide_eq_true h2
    exact List.mem_append_left _ (by rw [← e1, ← h2]; exact h1)
  · obtain ⟨b, hb, e⟩ := List.mem_map.mp z
    obtain ⟨h1, h2⟩ := List.mem_filter.mp hb
    injection e with e1 e2
    have h2 := of_decide_eq_true h2
    exact List.mem_append_right _ (by rw [← e1, ← h2]; exact h1)
theorem Fw.app {B : Bk} : ∀ {sp : List Sp} {x : Nm} {s : Sp}, Fw B x sp → (s.2.1, s.2.2) ∈ stps B (endN x sp) → s.1 ∈ s.2.1 → Fw B x (sp ++ [s])
  | [], _, _, _, h1, h2 => ⟨h1, h2, trivial⟩
  | _ :: _, _, _, ⟨a, b, c⟩, h1, h2 => ⟨a, b, Fw.app c h1 h2⟩
theorem endN_app {s : Sp} : ∀ {sp : List Sp} {x : Nm}, endN x (sp ++ [s]) = s.1
  | [], _ => rfl
  | r :: _, _ => endN_app (x := r.1)
theorem endF_app {s : Sp} : ∀ {sp : List Sp} {f : List Nm}, endF f (sp ++ [s]) = s.2.1
  | [], _ => rfl
  | r :: _, _ => endF_app (f := r.2.1)
theorem allB_app {sp : List Sp} {s : Sp} : allB (sp ++ [s]) = (allB sp && s.2.2) := by
  unfold allB
  simp
theorem nms_app {sp : List Sp} {x : Nm} {s : Sp} : nms x (sp ++ [s]) = nms x sp ++ [s.1] := by simp [nms]
theorem endN_mem : ∀ {sp : List Sp} {x : Nm}, endN x sp ∈ nms x sp
  | [], _ => .head _
  | s :: _, _ => .tail _ (endN_mem (x := s.1))
/-- a number that is less for parents -/
def Lvl (B : Bk) (d : Nm → Nat) : Prop := ∀ b ∈ B.kins, ∀ x ∈ b.2, d x < d b.1
theorem Fw.le {B : Bk} {d : Nm → Nat} (L : Lvl B d) : ∀ {sp : List Sp} {x : Nm}, Fw B x sp → d (endN x sp) ≤ d x ∧ (sp ≠ [] → d (endN x sp) < d x)
  | [], _, _ => ⟨Nat.le_refl _, fun z => absurd rfl z⟩
  | s :: r, x, ⟨h1, h2, h3⟩ => by
    have a := L _ (stps_kin h1) s.1 h2
    have b := (Fw.le L h3).1
    have a : d s.1 < d x := a
    exact ⟨by show d (endN s.1 r) ≤ d x; omega, fun _ => by show d (endN s.1 r) < d x; omega⟩
/-- two that the walk comes to -/
inductive Rc (B : Bk) (d : Nm → Nat) (a c : Nm) : Ed → Ed → Bool → Prop
  | start : Rc B d a c (a, [], 0) (c, [], 0) true
  | one {x y : Ed} {b : Bool} {f : List Nm} {bo : Bool} {p : Nm} : Rc B d a c x y b → d y.1 ≤ d x.1 → (f, bo) ∈ stps B x.1 → p ∈ f → p ≠ y.1 → Rc B d a c (p, f, x.2.2 + 1) y (b && bo)
  | two {x y : Ed} {b : Bool} {f : List Nm} {bo : Bool} {p : Nm} : Rc B d a c x y b → d x.1 < d y.1 → (f, bo) ∈ stps B y.1 → p ∈ f → p ≠ x.1 → Rc B d a c x (p, f, y.2.2 + 1) (b && bo)
/-- the ties of two that the walk comes to -/
def tieOf (B : Bk) (d : Nm → Nat) (x y : Ed) (b : Bool) (t : Tie) : Prop :=
  (d y.1 ≤ d x.1 ∧ ∃ f bo, (f, bo) ∈ stps B x.1 ∧ y.1 ∈ f ∧ t = (x.2.2 + 1, y.2.2, halfT y.2.1 f, b && bo)) ∨
  (d x.1 < d y.1 ∧ ∃ f bo, (f, bo) ∈ stps B y.1 ∧ x.1 ∈ f ∧ t = (x.2.2, y.2.2 + 1, halfT x.2.1 f, b && bo))
def Td (B : Bk) (d : Nm → Nat) (a c : Nm) (t : Tie) : Prop := ∃ x y b, Rc B d a c x y b ∧ tieOf B d x y b t
/-- the ties of all pairs of ways -/
def Tl (B : Bk) (a c : Nm) (t : Tie) : Prop := ∃ sp sq, Fw B a sp ∧ Fw B c sq ∧ endN a sp = endN c sq ∧ (∀ u ∈ nms a sp, u ∈ nms c sq → u = endN a sp) ∧ t = (sp.length, sq.length, halfT (endF [] sp) (endF [] sq), allB sp && allB sq)
/-- two ways behind what the walk comes to -/
structure Two (B : Bk) (d : Nm → Nat) (a c : Nm) (x y : Ed) (b : Bool) (sp sq : List Sp) : Prop where
  fa : Fw B a sp
  fc : Fw B c sq
  ea : x = (endN a sp, endF [] sp, sp.length)
  ec : y = (endN c sq, endF [] sq, sq.length)
  eb : b = (allB sp && allB sq)
  dj : ∀ u ∈ nms a sp, u ∉ nms c sq
  i1 : ∀ u ∈ nms a sp, u = x.1 ∨ d y.1 ≤ d u
  i2 : ∀ u ∈ nms c sq, u = y.1 ∨ d x.1 ≤ d u
theorem band4 (p q r : Bool) : ((p && q) && r) = ((p && r) && q) := by cases p <;> cases q <;> cases r <;> rfl
theorem Rc.two_ways {B : Bk} {d : Nm → Nat} (L : Lvl B d) {a c : Nm} (hac : a ≠ c) {x y : Ed} {b : Bool} (h : Rc B d a c x y b) : ∃ sp sq, Two B d a c x y b sp sq := by
  induction h with
  | start => exact ⟨[], [], trivial, trivial, rfl, rfl, rfl, fun u hu hv => by
      rw [List.mem_singleton.mp hu] at hv
      exact hac (List.mem_singleton.mp hv), fun u hu => .inl (List.mem_singleton.mp hu), fun u hu => .inl (List.mem_singleton.mp hu)⟩
  | @one x y b f bo p _ hd hs hp hne ih =>
    obtain ⟨sp, sq, T⟩ := ih
    have ex : x.1 = endN a sp := by rw [T.ea]
    have hlt : d p < d x.1 := L _ (stps_kin hs) p hp
    refine ⟨sp ++ [(p, f, bo)], sq, T.fa.app (by rw [← ex]; exact hs) hp, T.fc, ?_, T.ec, ?_, fun u hu hv => ?_, fun u hu => ?_, fun u hu => ?_⟩
    · rw [endN_app, endF_app, List.length_append, T.ea]; rfl
    · rw [allB_app, T.eb, band4]
    · rw [nms_app] at hu
      rcases List.mem_append.mp hu with z | z
      · exact T.dj u z hv
      · rw [List.mem_singleton.mp z] at hv
        rcases T.i2 _ hv with w | w
        · exact hne w
        · have w : d x.1 ≤ d p := w
          omega
    · rw [nms_app] at hu
      rcases List.mem_append.mp hu with z | z
      · rcases T.i1 u z with w | w
        · right; rw [w]; exact hd
        · exact .inr w
      · exact .inl (List.mem_singleton.mp z)
    · rcases T.i2 u hu with w | w
      · exact .inl w
      · right
        show d p ≤ d u
        omega
  | @two x y b f bo p _ hd hs hp hne ih =>
    obtain ⟨sp, sq, T⟩ := ih
    have ey : y.1 = endN c sq := by rw [T.ec]
    have hlt : d p < d y.1 := L _ (stps_kin hs) p hp
    refine ⟨sp, sq ++ [(p, f, bo)], T.fa, T.fc.app (by rw [← ey]; exact hs) hp, T.ea, ?_, ?_, fun u hu hv => ?_, fun u hu => ?_, fun u hu => ?_⟩
    · rw [endN_app, endF_app, List.length_append, T.ec]; rfl
    · rw [allB_app, T.eb, Bool.and_assoc]
    · rw [nms_app] at hv
      rcases List.mem_append.mp hv with z | z
      · exact T.dj u hu z
      · rw [List.mem_singleton.mp z] at hu
        rcases T.i1 _ hu with w | w
        · exact hne w
        · have w : d y.1 ≤ d p := w
          omega
    · rcases T.i1 u hu with w | w
      · exact .inl w
      · right
        show d p ≤ d u
        omega
    · rw [nms_app] at hu
      rcases List.mem_append.mp hu with z | z
      · rcases T.i2 u z with w | w
        · right; rw [w]; omega
        · exact .inr w
      · exact .inl (List.mem_singleton.mp z)
theorem Td.tl {B : Bk} {d : Nm → Nat} (L : Lvl B d) (ne : ∀ b ∈ B.kins, b.2 ≠ []) {a c : Nm} (hac : a ≠ c) {t : Tie} (h : Td B d a c t) : Tl B a c t := by
  obtain ⟨x, y, b, hr, ht⟩ := h
  obtain ⟨sp, sq, T⟩ := hr.two_ways L hac
  have ex : x.1 = endN a sp := by rw [T.ea]
  have ey : y.1 = endN c sq := by rw [T.ec]
  have hh : ∀ {n : Nm} {f g : List Nm} {bo : Bool}, (f, bo) ∈ stps B n → halfT g f = halfT f g := fun _ => halfT_comm _ _
  rcases ht with ⟨_, f, bo, hs, hp, rfl⟩ | ⟨_, f, bo, hs, hp, rfl⟩
  · refine ⟨sp ++ [(y.1, f, bo)], sq, T.fa.app (by rw [← ex]; exact hs) hp, T.fc, by rw [endN_app, ey], fun u hu hv => ?_, ?_⟩
    · rw [nms_app] at hu
      rw [endN_app]
      rcases List.mem_append.mp hu with z | z
      · exact absurd hv (T.dj u z)
      · exact List.mem_singleton.mp z
    · rw [endF_app, allB_app, T.eb, List.length_append, band4, halfT_comm]
      rw [T.ea, T.ec]
      rfl
  · refine ⟨sp, sq ++ [(x.1, f, bo)], T.fa, T.fc.app (by rw [← ey]; exact hs) hp, by rw [endN_app, ex], fun u hu hv => ?_, ?_⟩
    · rw [nms_app] at hv
      rcases List.mem_append.mp hv with z | z
      · exact absurd z (T.dj u hu)
      · rw [List.mem_singleton.mp z, ex]
    · rw [endF_app, allB_app, T.eb, List.length_append, Bool.and_assoc]
      rw [T.ea, T.ec]
      rfl
/-- whatever is left of two ways that meet in just one is gone -/
theorem rest_td {B : Bk} {d : Nm → Nat} (L : Lvl B d) {a c : Nm} : ∀ (n : Nat) (x y : Ed) (b : Bool) (sp sq : List Sp), sp.length + sq.length ≤ n → Rc B d a c x y b → x.1 ≠ y.1 → Fw B x.1 sp → Fw B y.1 sq → endN x.1 sp = endN y.1 sq → (∀ u ∈ nms x.1 sp, u ∈ nms y.1 sq → u = endN x.1 sp) →
    Td B d a c (x.2.2 + sp.length, y.2.2 + sq.length, halfT (endF x.2.1 sp) (endF y.2.1 sq), b && (allB sp && allB sq)) := by
  intro n
  induction n with
  | zero =>
    intro x y b sp sq hl _ hne _ _ he _
    have h1 : sp = [] := List.length_eq_zero_iff.mp (by omega)
    have h2 : sq = [] := List.length_eq_zero_iff.mp (by omega)
    rw [h1, h2] at he
    exact absurd he hne
  | succ n ih =>
    intro x y b sp sq hl hr hne fa fc he hu
    by_cases hd : d y.1 ≤ d x.1
    · cases sp with
      | nil =>
        have := Fw.le L fc
        rw [← he] at this
        have e0 : endN x.1 [] = x.1 := rfl
        rw [e0] at this
        have h2 : sq = [] := by
          cases sq with
          | nil => rfl
          | cons s r => have := this.2 nofun; omega
        rw [h2] at he
        exact absurd he hne
      | cons s r =>
        obtain ⟨h1, h2, h3⟩ := fa
        by_cases hp : s.1 = y.1
        · have e1 : y.1 = endN x.1 (s :: r) := by
            rw [← hp]
            exact hu s.1 (.tail _ (.head _)) (by rw [hp]; exact .head _)
          have r0 : r = [] := by
            cases r with
            | nil => rfl
            | cons s' r' =>
              have := (Fw.le L h3).2 nofun
              have e2 : endN s.1 (s' :: r') = y.1 := e1.symm
              rw [e2, hp] at this
              omega
          have q0 : sq = [] := by
            cases sq with
            | nil => rfl
            | cons s' r' =>
              have := (Fw.le L fc).2 nofun
              rw [← he, ← e1] at this
              omega
          subst r0 q0
          refine ⟨x, y, b, hr, .inl ⟨hd, s.2.1, s.2.2, h1, by rw [← hp]; exact h2, ?_⟩⟩
          show (x.2.2 + 1, y.2.2 + 0, halfT s.2.1 y.2.1, b && (([s] : List Sp).all (·.2.2) && ([] : List Sp).all (·.2.2))) = _
          rw [halfT_comm]
          simp
        · have := ih (s.1, s.2.1, x.2.2 + 1) y (b && s.2.2) r sq (by simp at hl; omega) (.one hr hd h1 h2 hp) hp h3 fc he fun u hu1 hu2 => hu u (.tail _ hu1) hu2
          have e : (x.2.2 + (s :: r).length, y.2.2 + sq.length, halfT (endF x.2.1 (s :: r)) (endF y.2.1 sq), b && (allB (s :: r) && allB sq)) = (x.2.2 + 1 + r.length, y.2.2 + sq.length, halfT (endF s.2.1 r) (endF y.2.1 sq), (b && s.2.2) && (allB r && allB sq)) := by
            have e1 : x.2.2 + (s :: r).length = x.2.2 + 1 + r.length := by rw [List.length_cons]; omega
            have e2 : (b && (allB (s :: r) && allB sq)) = ((b && s.2.2) && (allB r && allB sq)) := by
              show (b && ((s.2.2 && allB r) && allB sq)) = _
              simp only [Bool.and_assoc]
            rw [e1, e2]
            rfl
          rw [e]
          exact this
    · have hd : d x.1 < d y.1 := by omega
      cases sq with
      | nil =>
        have := Fw.le L fa
        rw [he] at this
        have e0 : endN y.1 [] = y.1 := rfl
        rw [e0] at this
        omega
      | cons s r =>
        obtain ⟨h1, h2, h3⟩ := fc
        by_cases hp : s.1 = x.1
        · have e1 : x.1 = endN x.1 sp := hu x.1 (.head _) (by rw [← hp]; exact .tail _ (.head _))
          have q0 : sp = [] := by
            cases sp with
            | nil => rfl
            | cons s' r' =>
              have := (Fw.le L fa).2 nofun
              rw [← e1] at this
              omega
          have r0 : r = [] := by
            cases r with
            | nil => rfl
            | cons s' r' =>
              have := (Fw.le L h3).2 nofun
              have e2 : endN s.1 (s' :: r') = x.1 := he.symm.trans e1.symm
              rw [e2, hp] at this
              omega
          subst r0 q0
          refine ⟨x, y, b, hr, .inr ⟨hd, s.2.1, s.2.2, h1, by rw [← hp]; exact h2, ?_⟩⟩
          show (x.2.2 + 0, y.2.2 + 1, halfT x.2.1 s.2.1, b && (([] : List Sp).all (·.2.2) && ([s] : List Sp).all (·.2.2))) = _
          simp
        · have := ih x (s.1, s.2.1, y.2.2 + 1) (b && s.2.2) sp r (by simp at hl; omega) (.two hr hd h1 h2 hp) (fun z => hp z.symm) fa h3 he fun u hu1 hu2 => hu u hu1 (.tail _ hu2)
          have e : (x.2.2 + sp.length, y.2.2 + (s :: r).length, halfT (endF x.2.1 sp) (endF y.2.1 (s :: r)), b && (allB sp && allB (s :: r))) = (x.2.2 + sp.length, y.2.2 + 1 + r.length, halfT (endF x.2.1 sp) (endF s.2.1 r), (b && s.2.2) && (allB sp && allB r)) := by
            have e1 : y.2.2 + (s :: r).length = y.2.2 + 1 + r.length := by rw [List.length_cons]; omega
            have e2 : (b && (allB sp && allB (s :: r))) = ((b && s.2.2) && (allB sp && allB r)) := by
              show (b && (allB sp && (s.2.2 && allB r))) = _
              cases b <;> cases allB sp <;> cases s.2.2 <;> rfl
            rw [e1, e2]
            rfl
          rw [e]
          exact this
/-- what the walk tells is what all pairs of ways tell -/
theorem td_iff {B : Bk} {d : Nm → Nat} (L : Lvl B d) (ne : ∀ b ∈ B.kins, b.2 ≠ []) {a c : Nm} (hac : a ≠ c) {t : Tie} : Td B d a c t ↔ Tl B a c t := ⟨Td.tl L ne hac, fun ⟨sp, sq, fa, fc, he, hu, e⟩ => by
  have := rest_td L _ (a, [], 0) (c, [], 0) true sp sq (Nat.le_refl _) .start hac fa fc he hu
  rw [e]
  simpa using this⟩
/-- keys by tuples, one for each -/
structure NK {α : Type} (e : α → T) : Prop where
  key : ∀ a, ∃ k, tky (e a) = some k
  inj : ∀ a b, keyOf (e a) = keyOf (e b) → a = b
theorem NK.of {α : Type} {e : α → T} (h : NK e) (a : α) : ∃ k, tky (e a) = some k ∧ keyOf (e a) = some k := by
  obtain ⟨k, hk⟩ := h.key a
  exact ⟨k, hk, (tky_of hk).2.1⟩
def insS {α : Type} [DecidableEq α] (xs : List α) (a : α) : List α := if a ∈ xs then xs else xs ++ [a]
def isIn {α : Type} [DecidableEq α] (a : α) (xs : List α) : Bool := decide (a ∈ xs)
theorem isIn_pos {α : Type} [DecidableEq α] {a : α} {xs : List α} (h : a ∈ xs) : isIn a xs = true := decide_eq_true h
theorem isIn_neg {α : Type} [DecidableEq α] {a : α} {xs : List α} (h : a ∉ xs) : isIn a xs = false := decide_eq_false h
theorem mem_insS {α : Type} [DecidableEq α] {xs : List α} {a b : α} : b ∈ insS xs a ↔ b ∈ xs ∨ b = a := by
  unfold insS
  split
  · rename_i h
    exact ⟨.inl, fun z => z.elim id fun e => e ▸ h⟩
  · rw [List.mem_append, List.mem_singleton]
theorem insS_nodup {α : Type} [DecidableEq α] {xs : List α} {a : α} (h : xs.Nodup) : (insS xs a).Nodup := by
  unfold insS
  split
  · exact h
  · rename_i n
    exact List.nodup_append.mpr ⟨h, by simp, fun x hx y hy e => n (by rw [← List.mem_singleton.mp hy, ← e]; exact hx)⟩
theorem insS_len {α : Type} [DecidableEq α] {xs : List α} {a : α} : (insS xs a).length ≤ xs.length + 1 := by
  unfold insS
  split
  · omega
  · rw [List.length_append]; exact Nat.le_refl _
theorem nHs_iff {α : Type} {e : α → T} (h : NK e) {a : α} {k : NestedKey} (hk : keyOf (e a) = some k) : ∀ {xs : List α}, nHs (xs.map e) k = true ↔ a ∈ xs
  | [] => by simp [nHs]
  | x :: xs => by
    rw [List.map_cons]
    unfold nHs
    by_cases q : keyOf (e x) = some k
    · rw [if_pos q]
      have := h.inj x a (q.trans hk.symm)
      simp [this]
    · rw [if_neg q, nHs_iff h hk, List.mem_cons]
      exact ⟨.inr, fun z => z.elim (fun w => absurd (by rw [← w]; exact hk) q) id⟩
def onesV {α : Type} (xs : List α) : List T := xs.map fun _ => T.bl true
theorem nRp_ones {α : Type} {e : α → T} {k : NestedKey} : ∀ {xs : List α}, nRp (xs.map e) (onesV xs) k (.bl true) = onesV xs
  | [] => rfl
  | x :: xs => by
    unfold onesV
    rw [List.map_cons, List.map_cons]
    unfold nRp
    have := nRp_ones (e := e) (k := k) (xs := xs)
    unfold onesV at this
    rw [this]
    split <;> rfl
theorem put_set {α : Type} [DecidableEq α] {e : α → T} (h : NK e) {a : α} {k : NestedKey} (hk : keyOf (e a) = some k) {xs : List α} : nPk (xs.map e) k (e a) = (insS xs a).map e ∧ nPv (xs.map e) (onesV xs) k (.bl true) = onesV (insS xs a) := by
  unfold nPk nPv insS
  by_cases q : a ∈ xs
  · rw [if_pos ((nHs_iff h hk).mpr q), if_pos ((nHs_iff h hk).mpr q), if_pos q, nRp_ones]
    exact ⟨rfl, rfl⟩
  · have q2 : ¬ nHs (xs.map e) k = true := fun z => q ((nHs_iff h hk).mp z)
    rw [if_neg q2, if_neg q2, if_neg q]
    unfold onesV
    rw [List.map_append, List.map_append]
    exact ⟨rfl, rfl⟩
theorem nin_set {α : Type} [DecidableEq α] {e : α → T} (h : NK e) {a : α} {xs : List α} : tninT emp (e a) (.dct (dnk (xs.map e)) (xs.map e) (onesV xs)) = some (.bl (!isIn a xs)) := by
  obtain ⟨k, h1, h2⟩ := h.of a
  have v : nView emp (.dct (dnk (xs.map e)) (xs.map e) (onesV xs)) = some (xs.map e, onesV xs) := by
    cases xs with
    | nil => rfl
    | cons x xs => rfl
  unfold tninT tinQ
  rw [v, h1]
  show some (T.bl (!nHs (xs.map e) k)) = _
  congr 3
  by_cases q : a ∈ xs
  · rw [(nHs_iff h h2).mpr q, isIn_pos q]
  · rw [isIn_neg q]
    cases z : nHs (xs.map e) k with
    | false => rfl
    | true => exact absurd ((nHs_iff h h2).mp z) q
theorem skt_set {α : Type} {P : α → Prop} {e : α → T} (h : SE e P) {xs : List α} (hp : ∀ x ∈ xs, P x) (hl : xs.length ≤ sizeLine) : sktT emp (.dct (dnk (xs.map e)) (xs.map e) (onesV xs)) = some (.lst ((srt e xs).map e)) := by
  have v : nView emp (.dct (dnk (xs.map e)) (xs.map e) (onesV xs)) = some (xs.map e, onesV xs) := by
    cases xs with
    | nil => rfl
    | cons x xs => rfl
  unfold sktT
  rw [v]
  show (if (sortOk (xs.map e) && decide ((xs.map e).length ≤ sizeLine)) = true then _ else none) = _
  rw [h.srt xs hp, List.length_map, decide_eq_true hl, Bool.and_self, if_pos rfl, srt_map]
def byT (b : Bool) : Nm := if b = true then q "birth" else q "adoption"
def tieT (t : Tie) : T := .tup [.int t.1, .int t.2.1, .int t.2.2.1, .str (byT t.2.2.2)]
theorem byT_inj {a b : Bool} (h : byT a = byT b) : a = b := by
  have ne : q "birth" ≠ q "adoption" := by decide +kernel
  unfold byT at h
  cases a <;> cases b <;> first | rfl | (simp at h; first | exact absurd h ne | exact absurd h.symm ne)
theorem nk_tie : NK tieT := ⟨fun t => ⟨.tup [.num t.1, .num t.2.1, .num t.2.2.1, .text (txt (byT t.2.2.2))], by
  rfl⟩, fun a b h => by
  unfold tieT at h
  have h : some (NestedKey.tup [.num a.1, .num a.2.1, .num a.2.2.1, .text (txt (byT a.2.2.2))]) = some (NestedKey.tup [.num b.1, .num b.2.1, .num b.2.2.1, .text (txt (byT b.2.2.2))]) := h
  simp only [Option.some.injEq, NestedKey.tup.injEq, List.cons.injEq, NestedKey.num.injEq, NestedKey.text.injEq, and_true] at h
  obtain ⟨h1, h2, h3, h4⟩ := h
  obtain ⟨a1, a2, a3, a4⟩ := a
  obtain ⟨b1, b2, b3, b4⟩ := b
  have e4 := byT_inj (txt_inj h4)
  simp only at h1 h2 h3 e4
  rw [show a1 = b1 by omega, show a2 = b2 by omega, show a3 = b3 by omega, e4]⟩
abbrev Mk7 := Ed × Ed × Bool
def mkT (s : Mk7) : T := .tup [.str s.1.1, famT s.1.2.1, .int s.1.2.2, .str s.2.1.1, famT s.2.1.2.1, .int s.2.1.2.2, .bl s.2.2]
theorem keysOf_strs : ∀ xs : List Nm, keysOf (xs.map T.str) = some (xs.map fun x => NestedKey.text (txt x))
  | [] => rfl
  | x :: xs => by
    rw [List.map_cons]
    unfold keysOf
    rw [keysOf_strs xs]
    rfl
theorem keyOf_fam (f : List Nm) : keyOf (famT f) = some (.tup (f.map fun x => NestedKey.text (txt x))) := by
  show (keysOf (f.map T.str)).map NestedKey.tup = _
  rw [keysOf_strs]
  rfl
theorem dep_fam (f : List Nm) : (NestedKey.tup (f.map fun x => NestedKey.text (txt x))).depth ≤ 1 := by
  unfold NestedKey.depth
  have : ∀ xs : List Nm, NestedKey.depthAll (xs.map fun x => NestedKey.text (txt x)) = 0 := fun xs => by
    induction xs with
    | nil => rfl
    | cons x xs ih =>
      rw [List.map_cons]
      unfold NestedKey.depthAll
      rw [ih]
      rfl
  rw [this]
  exact Nat.le_refl _
theorem mk_key (s : Mk7) : keyOf (mkT s) = some (.tup [.text (txt s.1.1), .tup (s.1.2.1.map fun x => NestedKey.text (txt x)), .num s.1.2.2, .text (txt s.2.1.1), .tup (s.2.1.2.1.map fun x => NestedKey.text (txt x)), .num s.2.1.2.2, .num (if s.2.2 = true then 1 else 0)]) := by
  unfold mkT
  have e : keysOf [.str s.1.1, famT s.1.2.1, .int s.1.2.2, .str s.2.1.1, famT s.2.1.2.1, .int s.2.1.2.2, .bl s.2.2] = some [.text (txt s.1.1), .tup (s.1.2.1.map fun x => NestedKey.text (txt x)), .num s.1.2.2, .text (txt s.2.1.1), .tup (s.2.1.2.1.map fun x => NestedKey.text (txt x)), .num s.2.1.2.2, .num (if s.2.2 = true then 1 else 0)] := by
    simp only [keysOf, keyOf_fam]
    rfl
  show (keysOf _).map NestedKey.tup = _
  rw [e]
  rfl
theorem map_text_inj {xs ys : List Nm} (h : (xs.map fun x => NestedKey.text (txt x)) = ys.map fun x => NestedKey.text (txt x)) : xs = ys := by
  induction xs generalizing ys with
  | nil => cases ys with
    | nil => rfl
    | cons _ _ => cases h
  | cons x xs ih => cases ys with
    | nil => cases h
    | cons y ys =>
      rw [List.map_cons, List.map_cons] at h
      injection h with h1 h2
      injection h1 with h1
      rw [txt_inj h1, ih h2]
theorem nk_mark : NK mkT := ⟨fun s => ⟨_, by
  unfold tky mkT
  have := mk_key s
  unfold mkT at this
  simp only [this]
  rw [if_pos]
  have d1 := dep_fam s.1.2.1
  have d2 := dep_fam s.2.1.2.1
  show NestedKey.depthAll _ + 1 ≤ 8
  simp only [NestedKey.depthAll]
  have e : ∀ x, (NestedKey.text x).depth = 0 := fun _ => rfl
  have e2 : ∀ x, (NestedKey.num x).depth = 0 := fun _ => rfl
  simp only [e, e2]
  omega⟩, fun a b h => by
  rw [mk_key, mk_key] at h
  simp only [Option.some.injEq, NestedKey.tup.injEq, List.cons.injEq, NestedKey.num.injEq, NestedKey.text.injEq, and_true] at h
  obtain ⟨h1, h2, h3, h4, h5, h6, h7⟩ := h
  obtain ⟨⟨a1, a2, a3⟩, ⟨a4, a5, a6⟩, a7⟩ := a
  obtain ⟨⟨b1, b2, b3⟩, ⟨b4, b5, b6⟩, b7⟩ := b
  have e1 := txt_inj h1
  have e4 := txt_inj h4
  have e2 := map_text_inj h2
  have e5 := map_text_inj h5
  simp only at e1 e2 e4 e5 h3 h6 h7
  have e7 : a7 = b7 := by
    cases a7 <;> cases b7 <;> first | rfl | (simp at h7)
  rw [e1, e2, e4, e5, e7, show a3 = b3 by omega, show a6 = b6 by omega]⟩
def dpV (B : Bk) (d : Nm → Nat) : List T × List T := (B.names.map T.str, B.names.map fun n => T.int (d n : Nat))
def setD (d : Nm → Nat) (x : Nm) (k : Nat) : Nm → Nat := fun n => if n = x then k else d n
def mxD (d : Nm → Nat) (f : List Nm) : Nat := (maxI (f.map fun x => ((d x : Nat) : Int))).toNat
theorem maxI_geD : ∀ {ns : List Int} {x : Int}, x ∈ ns → x ≤ maxI ns
  | [], _, h => by cases h
  | n :: ns, x, h => by
    have g : ∀ (ms : List Int) (a : Int), a ≤ ms.foldl max a ∧ ∀ y ∈ ms, y ≤ ms.foldl max a := fun ms => by
      induction ms with
      | nil => exact fun a => ⟨Int.le_refl _, nofun⟩
      | cons m ms ih =>
        intro a
        obtain ⟨h1, h2⟩ := ih (max a m)
        refine ⟨by rw [List.foldl_cons]; omega, fun y hy => ?_⟩
        rw [List.foldl_cons]
        rcases List.mem_cons.mp hy with rfl | hy
        · omega
        · exact h2 y hy
    show x ≤ ns.foldl max n
    rcases List.mem_cons.mp h with rfl | h
    · exact (g ns x).1
    · exact (g ns n).2 x h
theorem mxD_int {d : Nm → Nat} {f : List Nm} (h : f ≠ []) : maxI (f.map fun x => ((d x : Nat) : Int)) = ((mxD d f : Nat) : Int) ∧ (∀ x ∈ f, d x ≤ mxD d f) ∧ ∃ x ∈ f, mxD d f = d x := by
  obtain ⟨x, hx, e⟩ := List.mem_map.mp (maxI_mem (ns := f.map fun x => ((d x : Nat) : Int)) (by simpa using h))
  have m : mxD d f = d x := by
    unfold mxD
    rw [← e]
    omega
  refine ⟨by rw [m, ← e], fun y hy => ?_, x, hx, m⟩
  have := maxI_geD (List.mem_map_of_mem (f := fun x => ((d x : Nat) : Int)) hy)
  rw [← e] at this
  rw [m]
  omega
def stepD (s : Bool × (Nm → Nat)) (b : Nm × List Nm) : Bool × (Nm → Nat) := if s.2 b.1 ≤ mxD s.2 b.2 then (true, setD s.2 b.1 (mxD s.2 b.2 + 1)) else s
theorem foldD {B : Bk} {rk : Nm → Nat} (hrk : Lvl B rk) (ne : ∀ b ∈ B.kins, b.2 ≠ []) (kid : ∀ b ∈ B.kins, b.1 ∈ B.names) : ∀ (ks : List (Nm × List Nm)) (s : Bool × (Nm → Nat)), (∀ b ∈ ks, b ∈ B.kins) → (∀ n, s.2 n ≤ rk n) →
    (∀ n, s.2 n ≤ (ks.foldl stepD s).2 n) ∧ (∀ n, (ks.foldl stepD s).2 n ≤ rk n) ∧ ((ks.foldl stepD s).1 = true → s.1 = true ∨ ∃ n ∈ B.names, s.2 n < (ks.foldl stepD s).2 n) ∧ ((ks.foldl stepD s).1 = false → s.1 = false ∧ (ks.foldl stepD s).2 = s.2 ∧ ∀ b ∈ ks, mxD s.2 b.2 < s.2 b.1)
  | [], s, _, h => ⟨fun _ => Nat.le_refl _, h, fun z => .inl z, fun z => ⟨z, rfl, nofun⟩⟩
  | b :: ks, s, hk, h => by
    have hb := hk b (.head _)
    obtain ⟨_, m1, x, hx, m2⟩ := mxD_int (d := s.2) (ne b hb)
    have up : mxD s.2 b.2 + 1 ≤ rk b.1 := by
      have := hrk b hb x hx
      have := h x
      omega
    have s1 : ∀ n, s.2 n ≤ (stepD s b).2 n := fun n => by
      unfold stepD setD
      split
      · dsimp only
        split
        · rename_i e; subst e; omega
        · exact Nat.le_refl _
      · exact Nat.le_refl _
    have s2 : ∀ n, (stepD s b).2 n ≤ rk n := fun n => by
      unfold stepD setD
      split
      · dsimp only
        split
        · rename_i e; subst e; exact up
        · exact h n
      · exact h n
    obtain ⟨i1, i2, i3, i4⟩ := foldD hrk ne kid ks (stepD s b) (fun c hc => hk c (.tail _ hc)) s2
    rw [List.foldl_cons]
    refine ⟨fun n => Nat.le_trans (s1 n) (i1 n), i2, fun z => ?_, fun z => ?_⟩
    · by_cases q : s.2 b.1 ≤ mxD s.2 b.2
      · right
        refine ⟨b.1, kid b hb, ?_⟩
        have := i1 b.1
        have e : (stepD s b).2 b.1 = mxD s.2 b.2 + 1 := by
          unfold stepD setD
          rw [if_pos q]
          exact if_pos rfl
        omega
      · have e : stepD s b = s := if_neg q
        rw [e] at i3 z ⊢
        exact i3 z
    · obtain ⟨j1, j2, j3⟩ := i4 z
      by_cases q : s.2 b.1 ≤ mxD s.2 b.2
      · have e : (stepD s b).1 = true := by
          unfold stepD
          rw [if_pos q]
        rw [e] at j1
        cases j1
      · have e : stepD s b = s := if_neg q
        rw [e] at j1 j2 j3 ⊢
        refine ⟨j1, j2, fun c hc => ?_⟩
        rcases List.mem_cons.mp hc with rfl | hc
        · omega
        · exact j3 c hc
theorem sum_le {d e : Nm → Nat} : ∀ {ns : List Nm}, (∀ n ∈ ns, d n ≤ e n) → (ns.map d).sum ≤ (ns.map e).sum
  | [], _ => Nat.le_refl _
  | n :: ns, h => by
    have := sum_le fun m hm => h m (.tail _ hm)
    have := h n (.head _)
    simp only [List.map_cons, List.sum_cons]
    omega
theorem sum_lt {d e : Nm → Nat} : ∀ {ns : List Nm}, (∀ n ∈ ns, d n ≤ e n) → (∃ n ∈ ns, d n < e n) → (ns.map d).sum < (ns.map e).sum
  | [], _, ⟨_, h, _⟩ => by cases h
  | n :: ns, h, ⟨m, hm, hlt⟩ => by
    have a := sum_le fun m hm => h m (.tail _ hm)
    have b := h n (.head _)
    simp only [List.map_cons, List.sum_cons]
    rcases List.mem_cons.mp hm with rfl | hm
    · omega
    · have := sum_lt (fun m hm => h m (.tail _ hm)) ⟨m, hm, hlt⟩
      omega
theorem whM_dn {κ σ : Type} {c : σ → PM κ Bool} {b : σ → PM κ σ} (I : Nat → σ → Prop) (h : ∀ n s, I n s → c s = pu false ∨ (c s = pu true ∧ ∃ s' m, b s = pu s' ∧ I m s' ∧ m < n)) : ∀ (k n : Nat) (s : σ), I n s → n < k → ∃ s' m, whM c b k s = pu s' ∧ I m s' ∧ c s' = pu false
  | 0, n, s, _, hk => absurd hk (Nat.not_lt_zero _)
  | k + 1, n, s, hi, hk => by
    unfold whM
    rcases h n s hi with e | ⟨e, s', m, e2, hi', hlt⟩
    · rw [e, pu_bd, if_neg (by simp)]
      exact ⟨s, n, rfl, hi, e⟩
    · rw [e, pu_bd, if_pos rfl, e2, pu_bd]
      exact whM_dn I h k m s' hi' (by omega)
theorem depths_eq {B : Bk} (hB : BkOk B) {rk : Nm → Nat} (hrk : Lvl B rk) (hr : ∀ n, rk n ≤ 1000) : ∃ d : Nm → Nat, m_depths (bkT B) = pu (.dct false (B.names.map T.str) (B.names.map fun n => .int (d n : Nat))) ∧ Lvl B d ∧ ∀ n, d n ≤ rk n := by
  have hs := sizeLine_eq
  have l1 := hB.lf; have l3 := hB.lb; have l4 := hB.la
  have nl : B.names.length ≤ 16 := by unfold Bk.names; rw [List.length_map]; exact hB.lf
  have kk : ∀ b ∈ B.kins, KinOk B.names B.unions b := fun b hb => hB.kin hb
  have ne : ∀ b ∈ B.kins, b.2 ≠ [] := fun b hb z => by have := (hB.un _ (kk b hb).fam).lo; rw [z] at this; cases this
  have i0 : ixT emp (bkT B) (.int 0) = some (.tup (B.folk.map fkT)) := rfl
  have i2 : ixT emp (bkT B) (.int 2) = some (.tup (B.births.map kinT)) := rfl
  have i3 : ixT emp (bkT B) (.int 3) = some (.tup (B.adopts.map kinT)) := rfl
  have cm : compG (κ := Unit) (fun x3 => bd (ofO (un2 x3)) fun b4 => pu (some (T.tup [b4.1, T.int 0]))) (B.folk.map fkT) = pu (B.names.map fun n => .tup [.str n, .int 0]) := by
    rw [compG_map, gdc_b (by omega)]
    have e : ∀ p : Nm × Nm, (bd (ofO (un2 (fkT p))) fun b4 => pu (some (T.tup [b4.1, T.int 0])) : PM Unit (Option T)) = pu (some (.tup [.str p.1, .int 0])) := fun _ => rfl
    simp only [e]
    rw [compA_pu]
    unfold Bk.names
    rw [List.map_map]
    rfl
  have one : ∀ b ∈ B.kins, ∀ s : Bool × (Nm → Nat), (bd (ofO (un2 (kinT b))) fun b25 => bd (itemsM b25.2) fun a => bd (compG (fun x26 => bd (ofO (dgT emp (T.dct false (dpV B s.2).1 (dpV B s.2).2) x26)) fun v7 => pu (some v7)) a) fun a => bd (ofO (max1F emp [T.lst a])) fun v33 => bd (ofO (dgT emp (T.dct false (dpV B s.2).1 (dpV B s.2).2) b25.1)) fun a => bd (ofO (leT emp a v33)) fun a => bd (tb a) fun v39 => if v39 = true then bd (ofO (addT emp v33 (T.int 1))) fun v43 => bd (dputM (dpV B s.2) b25.1 v43) fun ys42 => pu (T.bl true, ys42) else pu (T.bl s.1, dpV B s.2) : PM Unit (T × (List T × List T))) = pu (T.bl (stepD s b).1, dpV B (stepD s b).2) := fun b hb s => by
    have k := kk b hb
    have fo := hB.un _ k.fam
    have u : un2 (kinT b) = some (.str b.1, famT b.2) := rfl
    have it : itemsM (κ := Unit) (famT b.2) = pu (b.2.map T.str) := rfl
    have g : ∀ x ∈ B.names, dgT emp (T.dct false (dpV B s.2).1 (dpV B s.2).2) (.str x) = some (.int (s.2 x : Nat)) := fun x hx => dgT_strs (F := fun n => T.int (s.2 n : Nat)) hx
    have hi := fo.hi
    rw [u, ofO_some, pu_bd]
    dsimp only
    rw [it, pu_bd, compG_map, gdc_b (by omega), compA_congr (g := fun x => pu (some (T.int (s.2 x : Nat)))) fun x hx => by rw [g x (fo.mem x hx), ofO_some, pu_bd]]
    rw [compA_pu, pu_bd, show (b.2.map fun x => T.int (s.2 x : Nat)) = (b.2.map fun x => ((s.2 x : Nat) : Int)).map T.int from by rw [List.map_map]; rfl, max1F_l (by simpa using ne b hb), ofO_some, pu_bd, g b.1 k.kid, ofO_some, pu_bd, (mxD_int (ne b hb)).1, leT_int, ofO_some, pu_bd, tb_bl, pu_bd]
    by_cases q : s.2 b.1 ≤ mxD s.2 b.2
    · have e : stepD s b = (true, setD s.2 b.1 (mxD s.2 b.2 + 1)) := if_pos q
      rw [if_pos (decide_eq_true (by omega)), addT_int, ofO_some, pu_bd, e]
      have dp : dputM (κ := Unit) (dpV B s.2) (.str b.1) (.int ((mxD s.2 b.2 : Nat) + 1)) = pu (dpV B (setD s.2 b.1 (mxD s.2 b.2 + 1))) := by
        unfold dpV
        rw [dput_old (F := fun n => T.int (s.2 n : Nat)) k.kid (by omega)]
        congr 2
        refine List.map_congr_left fun n _ => ?_
        unfold setD
        split <;> rfl
      rw [dp, pu_bd]
    · have e : stepD s b = s := if_neg q
      rw [if_neg (by simpa using q), e]
  have loop : ∀ s : Bool × (Nm → Nat), forA (fun (b : Nm × List Nm) (s17 : T × (List T × List T)) => bd (ofO (un2 (kinT b))) fun b25 => bd (itemsM b25.2) fun a => bd (compG (fun x26 => bd (ofO (dgT emp (T.dct false s17.2.1 s17.2.2) x26)) fun v7 => pu (some v7)) a) fun a => bd (ofO (max1F emp [T.lst a])) fun v33 => bd (ofO (dgT emp (T.dct false s17.2.1 s17.2.2) b25.1)) fun a => bd (ofO (leT emp a v33)) fun a => bd (tb a) fun v39 => if v39 = true then bd (ofO (addT emp v33 (T.int 1))) fun v43 => bd (dputM s17.2 b25.1 v43) fun ys42 => pu (T.bl true, ys42) else pu (s17.1, s17.2)) (B.births ++ B.adopts) (T.bl s.1, dpV B s.2) = (pu (T.bl (B.kins.foldl stepD s).1, dpV B (B.kins.foldl stepD s).2) : PM Unit _) := fun s =>
    forA_pure (τ := Bool × (Nm → Nat)) (E := fun s => (T.bl s.1, dpV B s.2)) (g := fun b s => stepD s b) (fun rest _ => ∀ b ∈ rest, b ∈ B.kins) (B.births ++ B.adopts) s (fun _ h => h) fun b xs s h => ⟨one b (h b (.head _)) s, fun c hc => h c (.tail _ hc)⟩
  have cm2 : compA (κ := Unit) (fun a => bd (ofO (un2 (fkT a))) fun b4 => pu (some (T.tup [b4.1, T.int 0]))) B.folk = pu (B.names.map fun n => .tup [.str n, .int 0]) := by
    rw [compG_map, gdc_b (by omega)] at cm
    exact cm
  unfold m_depths
  simp_arith [i0, i2, i3]
  rw [gdc_b (by omega), cm2, pu_bd, mrgM_strs (F := fun _ => T.int 0) hB.nd, pu_bd]
  have wh := whM_dn (κ := Unit) (c := fun (s14 : T × (List T × List T)) => tb s14.1) (b := fun s14 => bd (gdc ((B.births.map kinT).length + (B.adopts.map kinT).length ≤ sizeLine)) fun _ => bd (TL.forM (fun x24 (s17 : T × (List T × List T)) => bd (ofO (un2 x24)) fun b25 => bd (itemsM b25.2) fun a => bd (compG (fun x26 => bd (ofO (dgT emp (T.dct false s17.2.1 s17.2.2) x26)) fun v7 => pu (some v7)) a) fun a => bd (ofO (max1F emp [T.lst a])) fun v33 => bd (ofO (dgT emp (T.dct false s17.2.1 s17.2.2) b25.1)) fun a => bd (ofO (leT emp a v33)) fun a => bd (tb a) fun v39 => if v39 = true then bd (ofO (addT emp v33 (T.int 1))) fun v43 => bd (dputM s17.2 b25.1 v43) fun ys42 => pu (T.bl true, ys42) else pu (s17.1, s17.2)) (B.births.map kinT ++ B.adopts.map kinT) (T.bl false, s14.2)) fun s17 => pu (s17.1, s17.2))
    (fun n s => ∃ ch d, s = (T.bl ch, dpV B d) ∧ (∀ n, d n ≤ rk n) ∧ (ch = false → Lvl B d) ∧ n = if ch = true then 1 + ((B.names.map rk).sum - (B.names.map d).sum) else 0) ?_ fuel (1 + ((B.names.map rk).sum - (B.names.map fun _ => 0).sum)) (T.bl true, B.names.map T.str, B.names.map fun _ => T.int 0) ⟨true, fun _ => 0, rfl, fun _ => Nat.zero_le _, nofun, rfl⟩ ?_
  · obtain ⟨s', m, e1, ⟨ch, d, rfl, h1, h2, _⟩, e2⟩ := wh
    rw [e1, pu_bd]
    refine ⟨d, rfl, h2 ?_, h1⟩
    have e2 : (tb (T.bl ch) : PM Unit Bool) = pu false := e2
    rw [tb_bl] at e2
    have := congrFun e2 ()
    injection this
  · rintro n s ⟨ch, d, rfl, h1, h2, rfl⟩
    cases ch with
    | false => exact .inl rfl
    | true =>
      refine .inr ⟨rfl, ?_⟩
      obtain ⟨f1, f2, f3, f4⟩ := foldD hrk ne (fun b hb => (kk b hb).kid) B.kins (false, d) (fun _ h => h) h1
      refine ⟨_, _, ?_, ⟨(B.kins.foldl stepD (false, d)).1, (B.kins.foldl stepD (false, d)).2, rfl, f2, fun z => ?_, rfl⟩, ?_⟩
      · rw [gdc_b (by rw [List.length_map, List.length_map]; omega), ← List.map_append, forM_map]
        have := loop (false, d)
        rw [this, pu_bd]
      · obtain ⟨_, e, g⟩ := f4 z
        rw [e]
        intro b hb x hx
        have := (mxD_int (d := d) (ne b hb)).2.1 x hx
        have := g b hb
        show d x < d b.1
        have g2 : mxD d b.2 < d b.1 := this
        omega
      · rw [if_pos rfl]
        split
        · rename_i z
          rcases f3 z with w | w
          · cases w
          · have := sum_lt (fun n _ => f1 n) w
            have u : (B.names.map (B.kins.foldl stepD (false, d)).2).sum ≤ (B.names.map rk).sum := sum_le fun n _ => f2 n
            have this : (B.names.map d).sum < (B.names.map (B.kins.foldl stepD (false, d)).2).sum := this
            omega
        · omega
  · have : ∀ ns : List Nm, (ns.map rk).sum ≤ ns.length * 1000 := fun ns => by
      induction ns with
      | nil => exact Nat.zero_le _
      | cons n ns ih =>
        have := hr n
        rw [List.map_cons, List.sum_cons, List.length_cons, Nat.add_mul]
        omega
    have := this B.names
    show _ < fuel
    unfold fuel
    have : B.names.length * 1000 ≤ 16 * 1000 := Nat.mul_le_mul_right _ nl
    omega
def stpT (s : List Nm × Bool) : T := .tup [famT s.1, .bl s.2]
theorem families_of_eq {B : Bk} (hB : BkOk B) {n : Nm} : m_families_of (bkT B) (.str n) = pu (.lst ((stps B n).map stpT)) := by
  have hs := sizeLine_eq
  have l3 := hB.lb; have l4 := hB.la
  unfold m_families_of bkT
  simp_all_arith []
  rw [gdc_b (by omega), gdc_b (by omega), gdc_b (by
    simp only [List.length_map]
    exact Nat.le_trans (Nat.add_le_add (List.length_filter_le _ _) (List.length_filter_le _ _)) (by omega))]
  unfold stps
  rw [List.map_append, List.map_map, List.map_map]
  rfl
def depT (B : Bk) (d : Nm → Nat) : T := .dct false (B.names.map T.str) (B.names.map fun n => .int (d n : Nat))
def fmsT (B : Bk) : T := .dct false (B.names.map T.str) (B.names.map fun n => .lst ((stps B n).map stpT))
theorem init_eq {B : Bk} (hB : BkOk B) {d : Nm → Nat} (hd : m_depths (bkT B) = pu (depT B d)) : m_Walk___init__ (bkT B) = pu (depT B d, fmsT B) := by
  have hs := sizeLine_eq
  have l1 := hB.lf
  have i0 : ixT emp (bkT B) (.int 0) = some (.tup (B.folk.map fkT)) := rfl
  have e : ∀ p : Nm × Nm, (bd (ofO (un2 (fkT p))) fun b5 => bd (lft (m_families_of (bkT B) b5.1)) fun v9 => pu (some (T.tup [b5.1, v9])) : PM Unit (Option T)) = pu (some (.tup [.str p.1, .lst ((stps B p.1).map stpT)])) := fun p => by
    have u : un2 (fkT p) = some (.str p.1, .str p.2) := rfl
    rw [u, ofO_some, pu_bd]
    dsimp only
    rw [families_of_eq hB, lft_pu, pu_bd]
  unfold m_Walk___init__
  simp_arith [i0, hd, e]
  rw [gdc_b (by omega), show (B.folk.map fun a => T.tup [.str a.1, .lst ((stps B a.1).map stpT)]) = B.names.map fun n => T.tup [.str n, .lst ((stps B n).map stpT)] from by unfold Bk.names; rw [List.map_map]; rfl]
  rw [dict_strs (F := fun n => T.lst ((stps B n).map stpT)) hB.nd]
  rfl
def edT (x : Ed) : T := .obj "End" nsE [.str x.1, famT x.2.1, .int (x.2.2 : Nat)]
def pairT (s : Mk7) : T := .tup [edT s.1, edT s.2.1, .bl s.2.2]
def KS (ms : List Mk7) (ts : List Tie) : DD × DD := ((ms.map mkT, onesV ms), (ts.map tieT, onesV ts))
theorem ed_name {x : Ed} : fldT "name" (okL fc_name) emp (edT x) = some (.str x.1) := rfl
theorem ed_fam {x : Ed} : fldT "family" (okL fc_family) emp (edT x) = some (famT x.2.1) := rfl
theorem ed_steps {x : Ed} : fldT "steps" (okL fc_steps) emp (edT x) = some (.int (x.2.2 : Nat)) := rfl
theorem lput_found {ms : List Mk7} {ts : List Tie} {t : Tie} (hl : ts.length < sizeLine) : lputM Prod.snd (fun k r => (k.1, r)) (tieT t) (.bl true) (KS ms ts) = .ok () (KS ms (insS ts t)) := by
  obtain ⟨k, h1, h2⟩ := nk_tie.of t
  unfold lputM
  rw [h1]
  show (if (ts.map tieT).length < sizeLine then _ else _) = _
  rw [if_pos (by rw [List.length_map]; exact hl)]
  show Res.ok () ((ms.map mkT, onesV ms), (nPk (ts.map tieT) k (tieT t), nPv (ts.map tieT) (onesV ts) k (.bl true))) = _
  rw [(put_set nk_tie h2).1, (put_set nk_tie h2).2]
  rfl
theorem lput_met {ms : List Mk7} {ts : List Tie} {s : Mk7} (hl : ms.length < sizeLine) : lputM Prod.fst (fun k r => (r, k.2)) (mkT s) (.bl true) (KS ms ts) = .ok () (KS (insS ms s) ts) := by
  obtain ⟨k, h1, h2⟩ := nk_mark.of s
  unfold lputM
  rw [h1]
  show (if (ms.map mkT).length < sizeLine then _ else _) = _
  rw [if_pos (by rw [List.length_map]; exact hl)]
  show Res.ok () ((nPk (ms.map mkT) k (mkT s), nPv (ms.map mkT) (onesV ms) k (.bl true)), (ts.map tieT, onesV ts)) = _
  rw [(put_set nk_mark h2).1, (put_set nk_mark h2).2]
  rfl
def cnt2 (x y : Ed) (tu : Bool) : Nat × Nat := if tu = true then (y.2.2, x.2.2 + 1) else (x.2.2 + 1, y.2.2)
def tieW (x y : Ed) (f : List Nm) (b tu : Bool) : Tie := ((cnt2 x y tu).1, (cnt2 x y tu).2, halfT y.2.1 f, b)
theorem meets_eq {D F : T} {x y : Ed} {f : List Nm} {b tu : Bool} {ms : List Mk7} {ts : List Tie} (hf : f ≠ []) (hl : ts.length < sizeLine) : m_Walk_meets D F (edT x) (edT y) (famT f) (.bl b) (.bl tu) (KS ms ts) = .ok .non (KS ms (insS ts (tieW x y f b tu))) := by
  have n1 : TL.neT emp (famT y.2.1) (.tup []) = some (.bl (!decide (y.2.1 = []))) := ke_fam.neT y.2.1 []
  have n2 := ke_fam.neT y.2.1 f
  have h2 : sizeLine = 16777216 := sizeLine_eq
  have hA : intF emp [if decide (y.2.1 = []) = false then T.bl (!decide (y.2.1 = f)) else T.bl false] = some (.int (halfT y.2.1 f : Nat)) := by
    unfold halfT
    by_cases z1 : y.2.1 = [] <;> by_cases z2 : y.2.1 = f <;> simp [z1, z2, hf, intF_bl]
    all_goals (first | (subst z2; simp [intF_bl, hf]) | skip)
  have hB : L2.atI [T.str (q "adoption"), T.str (q "birth")] (if b = true then 1 else 0) = some (.str (byT b)) := by cases b <;> rfl
  have hC : (if tu = true then T.tup [T.int (y.2.2 : Nat), T.int ((x.2.2 : Nat) + 1)] else T.tup [T.int ((x.2.2 : Nat) + 1), T.int (y.2.2 : Nat)]) = .tup [.int ((cnt2 x y tu).1 : Nat), .int ((cnt2 x y tu).2 : Nat)] := by
    unfold cnt2
    cases tu <;> rfl
  unfold m_Walk_meets b_Walk_meets
  simp_arith [ed_fam, ed_steps, n1, n2]
  rw [hA, ofO_some, pu_bd, hB, ofO_some, pu_bd, hC, addT_tup, if_pos (by simp; omega), ofO_some, pu_bd]
  show bd (lputM Prod.snd (fun k r => (k.1, r)) (tieT (tieW x y f b tu)) (T.bl true)) (fun _ => pu T.non) (KS ms ts) = _
  unfold TL.bd
  rw [lput_found hl]
  rfl
/-- pairs and ties behind a step of x, y staying -/
def pairW (x y : Ed) (b tu : Bool) (p : Nm) (f : List Nm) (bo : Bool) : Mk7 := if tu = true then (y, (p, f, x.2.2 + 1), b && bo) else ((p, f, x.2.2 + 1), y, b && bo)
def psF (x y : Ed) (b tu : Bool) (f : List Nm) (bo : Bool) (ps : List Nm) : List Mk7 := (ps.filter fun p => decide (p ≠ y.1)).map fun p => pairW x y b tu p f bo
def tsF (x y : Ed) (b tu : Bool) (f : List Nm) (bo : Bool) (ps : List Nm) : List Tie := (ps.filter fun p => decide (p = y.1)).map fun _ => tieW x y f (b && bo) tu
theorem foldl_ins_len {ts us : List Tie} : (us.foldl insS ts).length ≤ ts.length + us.length := by
  induction us generalizing ts with
  | nil => exact Nat.le_refl _
  | cons u us ih =>
    rw [List.foldl_cons, List.length_cons]
    have := @ih (insS ts u)
    have := insS_len (xs := ts) (a := u)
    omega
theorem go_inner {D F : T} {x y : Ed} {f : List Nm} {bo b tu : Bool} (hf : f ≠ []) {body : Nm → List T → PM (DD × DD) (List T)}
    (h1 : ∀ p us ts ms, p = y.1 → ts.length < sizeLine → body p us (KS ms ts) = .ok us (KS ms (insS ts (tieW x y f (b && bo) tu))))
    (h2 : ∀ p us ts ms, p ≠ y.1 → us.length < 1000 → body p (us.map pairT) (KS ms ts) = .ok ((us ++ [pairW x y b tu p f bo]).map pairT) (KS ms ts)) : ∀ (ps : List Nm) (us : List Mk7) (ts : List Tie) (ms : List Mk7), us.length + ps.length ≤ 1000 → ts.length + ps.length ≤ sizeLine →
    forA body ps (us.map pairT) (KS ms ts) = .ok ((us ++ psF x y b tu f bo ps).map pairT) (KS ms ((tsF x y b tu f bo ps).foldl insS ts))
  | [], us, ts, ms, _, _ => by
    show Res.ok _ _ = _
    unfold psF tsF
    simp
  | p :: ps, us, ts, ms, l1, l2 => by
    rw [List.length_cons] at l1 l2
    show bd (body p (us.map pairT)) (forA body ps) (KS ms ts) = _
    unfold TL.bd
    by_cases e : p = y.1
    · rw [h1 p _ ts ms e (by omega)]
      have il := insS_len (xs := ts) (a := tieW x y f (b && bo) tu)
      have := go_inner (D := D) (F := F) hf h1 h2 ps us (insS ts (tieW x y f (b && bo) tu)) ms (by omega) (by omega)
      show forA body ps (us.map pairT) (KS ms (insS ts (tieW x y f (b && bo) tu))) = _
      rw [this]
      unfold psF tsF
      rw [List.filter_cons_of_neg (by simpa using e), List.filter_cons_of_pos (by simpa using e)]
      rfl
    · rw [h2 p us ts ms e (by omega)]
      have := go_inner (D := D) (F := F) hf h1 h2 ps (us ++ [pairW x y b tu p f bo]) ts ms (by rw [List.length_append]; simp; omega) (by omega)
      show forA body ps ((us ++ [pairW x y b tu p f bo]).map pairT) (KS ms ts) = _
      rw [this]
      unfold psF tsF
      rw [List.filter_cons_of_pos (by simpa using e), List.filter_cons_of_neg (by simpa using e), List.map_cons, List.append_assoc]
      rfl
def sucP (B : Bk) (x y : Ed) (b tu : Bool) : List Mk7 := (stps B x.1).flatMap fun s => psF x y b tu s.1 s.2 s.1
def sucT (B : Bk) (x y : Ed) (b tu : Bool) : List Tie := (stps B x.1).flatMap fun s => tsF x y b tu s.1 s.2 s.1
theorem go_outer {x y : Ed} {b tu : Bool} {body : List Nm × Bool → List T → PM (DD × DD) (List T)} {w : List (List Nm × Bool)} (hw : ∀ s ∈ w, s.1.length ≤ 2)
    (h : ∀ s ∈ w, ∀ us ts ms, us.length + s.1.length ≤ 1000 → ts.length + s.1.length ≤ sizeLine → body s (us.map pairT) (KS ms ts) = .ok ((us ++ psF x y b tu s.1 s.2 s.1).map pairT) (KS ms ((tsF x y b tu s.1 s.2 s.1).foldl insS ts))) (us : List Mk7) (ts : List Tie) (ms : List Mk7) (l1 : us.length + 2 * w.length ≤ 1000) (l2 : ts.length + 2 * w.length ≤ sizeLine) :
    forA body w (us.map pairT) (KS ms ts) = .ok ((us ++ w.flatMap fun s => psF x y b tu s.1 s.2 s.1).map pairT) (KS ms ((w.flatMap fun s => tsF x y b tu s.1 s.2 s.1).foldl insS ts)) := by
  induction w generalizing us ts with
  | nil =>
    show Res.ok _ _ = _
    simp
  | cons s w ih =>
    have hs := hw s (.head _)
    rw [List.length_cons] at l1 l2
    show bd (body s (us.map pairT)) (forA body w) (KS ms ts) = _
    unfold TL.bd
    rw [h s (.head _) us ts ms (by omega) (by omega)]
    have lp : (psF x y b tu s.1 s.2 s.1).length ≤ s.1.length := by
      unfold psF
      rw [List.length_map]
      exact List.length_filter_le _ _
    have lt : (tsF x y b tu s.1 s.2 s.1).length ≤ s.1.length := by
      unfold tsF
      rw [List.length_map]
      exact List.length_filter_le _ _
    have fl := foldl_ins_len (ts := ts) (us := tsF x y b tu s.1 s.2 s.1)
    have := ih (fun s hs => hw s (.tail _ hs)) (fun s hs => h s (.tail _ hs)) (us ++ psF x y b tu s.1 s.2 s.1) ((tsF x y b tu s.1 s.2 s.1).foldl insS ts) (by rw [List.length_append]; omega) (by omega)
    show forA body w ((us ++ psF x y b tu s.1 s.2 s.1).map pairT) (KS ms ((tsF x y b tu s.1 s.2 s.1).foldl insS ts)) = _
    rw [this, List.flatMap_cons, List.flatMap_cons, List.append_assoc, List.foldl_append]
theorem bd_okE {κ α β : Type} {m : PM κ α} {f : α → PM κ β} {k k' : κ} {a : α} (h : m k = .ok a k') : bd m f k = f a k' := by
  show (match m k with | .ok a k' => f a k' | .exc x k' => .exc x k' | .bad => .bad) = _
  rw [h]
theorem go_eq {B : Bk} {D : T} {x y : Ed} {b tu : Bool} (hx : x.1 ∈ B.names) (hw : ∀ s ∈ stps B x.1, s.1 ≠ [] ∧ s.1.length ≤ 2) (lw : (stps B x.1).length ≤ 36) {ms : List Mk7} {ts : List Tie} (hl : ts.length + 72 ≤ sizeLine) :
    m_Walk_go D (fmsT B) (edT x) (edT y) (.bl b) (.bl tu) (KS ms ts) = .ok (.lst ((sucP B x y b tu).map pairT)) (KS ms ((sucT B x y b tu).foldl insS ts)) := by
  have hs := sizeLine_eq
  have dg : dgT emp (fmsT B) (.str x.1) = some (.lst ((stps B x.1).map stpT)) := dgT_strs (F := fun n => T.lst ((stps B n).map stpT)) hx
  unfold m_Walk_go
  simp_arith [ed_name, ed_steps, dg]
  refine (bd_okE (k' := KS ms ((sucT B x y b tu).foldl insS ts)) (a := (sucP B x y b tu).map pairT) (go_outer (x := x) (y := y) (b := b) (tu := tu) (w := stps B x.1) (fun s hs => (hw s hs).2) (fun s hs us ts ms l1 l2 => ?_) [] ts ms (by simp; omega) (by omega))).trans rfl
  have u : un2 (stpT s) = some (famT s.1, .bl s.2) := rfl
  have it : itemsM (κ := DD × DD) (famT s.1) = pu (s.1.map T.str) := rfl
  rw [u, ofO_some, pu_bd]
  dsimp only
  rw [it, pu_bd, forM_map]
  have bb : (if b = true then T.bl s.2 else T.bl false) = T.bl (b && s.2) := by cases b <;> rfl
  refine go_inner (D := D) (F := fmsT B) (x := x) (y := y) (f := s.1) (bo := s.2) (b := b) (tu := tu) (hw s hs).1 (fun p us ts ms e l => ?_) (fun p us ts ms e l => ?_) s.1 us ts ms l1 l2
  · rw [eqT_str, ofO_some, pu_bd, tb_bl, pu_bd, if_pos (decide_eq_true e), bb]
    exact (bd_okE (meets_eq (hw s hs).1 l)).trans rfl
  · rw [eqT_str, ofO_some, pu_bd, tb_bl, pu_bd, if_neg (by simpa using e), bb]
    have c1 : ((x.2.2 : Nat) : Int) + 1 = ((x.2.2 + 1 : Nat) : Int) := by omega
    have e1 : T.obj "End" nsE [.str p, famT s.1, T.int (((x.2.2 : Nat) : Int) + 1)] = edT (p, s.1, x.2.2 + 1) := by rw [c1]; rfl
    rw [e1]
    have hs' := sizeLine_eq
    have i0 : ∀ a c : T, ixT emp (.tup [a, c]) (.int 0) = some a := fun _ _ => rfl
    have i1 : ∀ a c : T, ixT emp (.tup [a, c]) (.int 1) = some c := fun _ _ => rfl
    unfold pairW
    cases tu with
    | true =>
      rw [if_pos rfl, if_pos rfl, i0, ofO_some, pu_bd, i1, ofO_some, pu_bd, appM_c, gdc_b (by rw [List.length_map]; omega), List.map_append]
      rfl
    | false =>
      rw [if_neg nofun, if_neg nofun, i0, ofO_some, pu_bd, i1, ofO_some, pu_bd, appM_c, gdc_b (by rw [List.length_map]; omega), List.map_append]
      rfl
/-- all that is behind two -/
def sucA (B : Bk) (d : Nm → Nat) (s : Mk7) : List Mk7 := if d s.2.1.1 ≤ d s.1.1 then sucP B s.1 s.2.1 s.2.2 false else sucP B s.2.1 s.1 s.2.2 true
def tieA (B : Bk) (d : Nm → Nat) (s : Mk7) : List Tie := if d s.2.1.1 ≤ d s.1.1 then sucT B s.1 s.2.1 s.2.2 false else sucT B s.2.1 s.1 s.2.2 true
theorem go_on_eq {B : Bk} {d : Nm → Nat} {s : Mk7} (hx : s.1.1 ∈ B.names) (hy : s.2.1.1 ∈ B.names) (hw : ∀ n, ∀ s ∈ stps B n, s.1 ≠ [] ∧ s.1.length ≤ 2) (lw : ∀ n, (stps B n).length ≤ 36) {ms : List Mk7} {ts : List Tie} (hl : ts.length + 72 ≤ sizeLine) :
    m_Walk_go_on (depT B d) (fmsT B) (edT s.1) (edT s.2.1) (.bl s.2.2) (KS ms ts) = .ok (.lst ((sucA B d s).map pairT)) (KS ms ((tieA B d s).foldl insS ts)) := by
  have g : ∀ n ∈ B.names, dgT emp (depT B d) (.str n) = some (.int (d n : Nat)) := fun n hn => dgT_strs (F := fun n => T.int (d n : Nat)) hn
  unfold m_Walk_go_on
  simp_arith [ed_name, g _ hx, g _ hy]
  unfold sucA tieA
  by_cases h : d s.2.1.1 ≤ d s.1.1
  · rw [if_pos (by omega), if_pos h, if_pos h]
    exact go_eq hx (hw _) (lw _) hl
  · rw [if_neg (by omega), if_neg h, if_neg h]
    exact go_eq hy (hw _) (lw _) hl
theorem mem_sucP {B : Bk} {x y : Ed} {b tu : Bool} {s : Mk7} : s ∈ sucP B x y b tu ↔ ∃ f bo p, (f, bo) ∈ stps B x.1 ∧ p ∈ f ∧ p ≠ y.1 ∧ s = pairW x y b tu p f bo := by
  unfold sucP psF
  rw [List.mem_flatMap]
  constructor
  · rintro ⟨⟨f, bo⟩, h1, h2⟩
    obtain ⟨p, h3, rfl⟩ := List.mem_map.mp h2
    obtain ⟨h4, h5⟩ := List.mem_filter.mp h3
    exact ⟨f, bo, p, h1, h4, of_decide_eq_true h5, rfl⟩
  · rintro ⟨f, bo, p, h1, h2, h3, rfl⟩
    exact ⟨(f, bo), h1, List.mem_map.mpr ⟨p, List.mem_filter.mpr ⟨h2, decide_eq_true h3⟩, rfl⟩⟩
theorem mem_sucT {B : Bk} {x y : Ed} {b tu : Bool} {t : Tie} : t ∈ sucT B x y b tu ↔ ∃ f bo, (f, bo) ∈ stps B x.1 ∧ y.1 ∈ f ∧ t = tieW x y f (b && bo) tu := by
  unfold sucT tsF
  rw [List.mem_flatMap]
  constructor
  · rintro ⟨⟨f, bo⟩, h1, h2⟩
    obtain ⟨p, h3, rfl⟩ := List.mem_map.mp h2
    obtain ⟨h4, h5⟩ := List.mem_filter.mp h3
    exact ⟨f, bo, h1, of_decide_eq_true h5 ▸ h4, rfl⟩
  · rintro ⟨f, bo, h1, h2, rfl⟩
    exact ⟨(f, bo), h1, List.mem_map.mpr ⟨y.1, List.mem_filter.mpr ⟨h2, decide_eq_true rfl⟩, rfl⟩⟩
abbrev RcS (B : Bk) (d : Nm → Nat) (a c : Nm) (s : Mk7) : Prop := Rc B d a c s.1 s.2.1 s.2.2
theorem suc_rc {B : Bk} {d : Nm → Nat} {a c : Nm} {s s' : Mk7} (h : RcS B d a c s) (hs : s' ∈ sucA B d s) : RcS B d a c s' := by
  unfold sucA at hs
  split at hs
  · rename_i hd
    obtain ⟨f, bo, p, h1, h2, h3, rfl⟩ := mem_sucP.mp hs
    exact .one h hd h1 h2 h3
  · rename_i hd
    obtain ⟨f, bo, p, h1, h2, h3, rfl⟩ := mem_sucP.mp hs
    exact Rc.two h (Nat.lt_of_not_le hd) h1 h2 h3
theorem rc_all {B : Bk} {d : Nm → Nat} {a c : Nm} {M : Mk7 → Prop} (h0 : M ((a, [], 0), (c, [], 0), true)) (hm : ∀ s, M s → ∀ s' ∈ sucA B d s, M s') : ∀ {x y : Ed} {b : Bool}, Rc B d a c x y b → M (x, y, b) := by
  intro x y b h
  induction h with
  | start => exact h0
  | @one x y b f bo p _ hd hs hp hne ih =>
    refine hm _ ih _ ?_
    unfold sucA
    rw [if_pos hd]
    exact mem_sucP.mpr ⟨f, bo, p, hs, hp, hne, rfl⟩
  | @two x y b f bo p _ hd hs hp hne ih =>
    refine hm _ ih _ ?_
    unfold sucA
    rw [if_neg (by show ¬ d y.1 ≤ d x.1; omega)]
    exact mem_sucP.mpr ⟨f, bo, p, hs, hp, hne, rfl⟩
theorem tieA_iff {B : Bk} {d : Nm → Nat} {s : Mk7} {t : Tie} : t ∈ tieA B d s ↔ tieOf B d s.1 s.2.1 s.2.2 t := by
  unfold tieA tieOf
  by_cases hd : d s.2.1.1 ≤ d s.1.1
  · rw [if_pos hd, mem_sucT]
    constructor
    · rintro ⟨f, bo, h1, h2, rfl⟩
      exact .inl ⟨hd, f, bo, h1, h2, rfl⟩
    · rintro (⟨_, f, bo, h1, h2, rfl⟩ | ⟨h, _⟩)
      · exact ⟨f, bo, h1, h2, rfl⟩
      · omega
  · rw [if_neg hd, mem_sucT]
    constructor
    · rintro ⟨f, bo, h1, h2, rfl⟩
      exact .inr ⟨by omega, f, bo, h1, h2, rfl⟩
    · rintro (⟨h, _⟩ | ⟨_, f, bo, h1, h2, rfl⟩)
      · omega
      · exact ⟨f, bo, h1, h2, rfl⟩
theorem flat_le {α β : Type} {f : α → List β} {k : Nat} : ∀ {xs : List α}, (∀ x ∈ xs, (f x).length ≤ k) → (xs.flatMap f).length ≤ xs.length * k
  | [], _ => Nat.zero_le _
  | x :: xs, h => by
    have := flat_le fun y hy => h y (.tail _ hy)
    have := h x (.head _)
    rw [List.flatMap_cons, List.length_append, List.length_cons, Nat.succ_mul]
    omega
/-- where walks go: few enough -/
structure Walks (B : Bk) (d : Nm → Nat) : Prop where
  ok : BkOk B
  lvl : Lvl B d
  low : ∀ n, d n ≤ 16
  few : ∀ n, (stps B n).length ≤ 13
theorem Walks.kin {B : Bk} {d : Nm → Nat} (W : Walks B d) {n : Nm} {s : List Nm × Bool} (h : s ∈ stps B n) : FamOk B.names s.1 ∧ s.1 ∈ B.unions := by
  have k := W.ok.kin (stps_kin (f := s.1) (bo := s.2) h)
  exact ⟨W.ok.un _ k.fam, k.fam⟩
theorem Walks.two {B : Bk} {d : Nm → Nat} (W : Walks B d) : ∀ n, ∀ s ∈ stps B n, s.1 ≠ [] ∧ s.1.length ≤ 2 := fun n s h => by
  have f := (W.kin h).1
  exact ⟨fun z => (by have := f.lo; rw [z] at this; cases this), f.hi⟩
theorem Walks.lens {B : Bk} {d : Nm → Nat} (W : Walks B d) (s : Mk7) : (sucA B d s).length ≤ 26 ∧ (tieA B d s).length ≤ 26 := by
  have h1 : ∀ x y b tu, (sucP B x y b tu).length ≤ 26 := fun x y b tu => by
    have := flat_le (f := fun s : List Nm × Bool => psF x y b tu s.1 s.2 s.1) (xs := stps B x.1) (k := 2) fun s hs => by
      unfold psF
      rw [List.length_map]
      exact Nat.le_trans (List.length_filter_le _ _) (W.two _ s hs).2
    have f := W.few x.1
    have : (sucP B x y b tu).length ≤ (stps B x.1).length * 2 := this
    omega
  have h2 : ∀ x y b tu, (sucT B x y b tu).length ≤ 26 := fun x y b tu => by
    have := flat_le (f := fun s : List Nm × Bool => tsF x y b tu s.1 s.2 s.1) (xs := stps B x.1) (k := 2) fun s hs => by
      unfold tsF
      rw [List.length_map]
      exact Nat.le_trans (List.length_filter_le _ _) (W.two _ s hs).2
    have f := W.few x.1
    have : (sucT B x y b tu).length ≤ (stps B x.1).length * 2 := this
    omega
  unfold sucA tieA
  constructor
  · split
    · exact h1 _ _ _ _
    · exact h1 _ _ _ _
  · split
    · exact h2 _ _ _ _
    · exact h2 _ _ _ _
theorem Fw.short {B : Bk} {d : Nm → Nat} (L : Lvl B d) : ∀ {sp : List Sp} {x : Nm}, Fw B x sp → sp.length + d (endN x sp) ≤ d x
  | [], x, _ => by show 0 + d x ≤ d x; omega
  | s :: r, x, ⟨h1, h2, h3⟩ => by
    have a : d s.1 < d x := L _ (stps_kin h1) s.1 h2
    have b := Fw.short L h3
    show (s :: r).length + d (endN s.1 r) ≤ d x
    rw [List.length_cons]
    omega
def side (B : Bk) (a : Nm) : List Ed := (a, [], 0) :: B.unions.flatMap fun f => f.flatMap fun p => (List.range 17).map fun n => (p, f, n)
theorem side_len {B : Bk} (hB : BkOk B) (a : Nm) : (side B a).length ≤ 545 := by
  unfold side
  rw [List.length_cons]
  have := flat_le (f := fun f : List Nm => f.flatMap fun p => (List.range 17).map fun n => ((p, f, n) : Ed)) (xs := B.unions) (k := 34) fun f hf => by
    have := flat_le (f := fun p : Nm => (List.range 17).map fun n => ((p, f, n) : Ed)) (xs := f) (k := 17) fun p _ => by simp
    have h := (hB.un f hf).hi
    omega
  have := hB.lu
  omega
theorem Fw.side {B : Bk} {d : Nm → Nat} (W : Walks B d) {a : Nm} : ∀ {sp : List Sp}, Fw B a sp → (endN a sp, endF [] sp, sp.length) ∈ side B a := by
  intro sp h
  have sh := Fw.short W.lvl h
  have lo := W.low a
  have key : ∀ (sp : List Sp) (x : Nm) (f : List Nm), Fw B x sp → sp ≠ [] → endF f sp ∈ B.unions ∧ endN x sp ∈ endF f sp := fun sp => by
    induction sp with
    | nil => exact fun _ _ _ z => absurd rfl z
    | cons s r ih =>
      intro x f ⟨h1, h2, h3⟩ _
      cases r with
      | nil => exact ⟨(W.kin h1).2, h2⟩
      | cons s' r' => exact ih s.1 s.2.1 h3 nofun
  cases sp with
  | nil => exact .head _
  | cons s r =>
    obtain ⟨k1, k2⟩ := key (s :: r) a [] h nofun
    refine .tail _ (List.mem_flatMap.mpr ⟨_, k1, List.mem_flatMap.mpr ⟨_, k2, List.mem_map.mpr ⟨(s :: r).length, List.mem_range.mpr (by omega), rfl⟩⟩⟩)
def allS (B : Bk) (a c : Nm) : List Mk7 := (side B a).flatMap fun x => (side B c).flatMap fun y => [(x, y, true), (x, y, false)]
theorem allS_len {B : Bk} (hB : BkOk B) (a c : Nm) : (allS B a c).length ≤ 594050 := by
  unfold allS
  have h2 := side_len hB c
  have h1 := side_len hB a
  have := flat_le (f := fun x => (side B c).flatMap fun y => [((x, y, true) : Mk7), (x, y, false)]) (xs := side B a) (k := 1090) fun x _ => by
    have := flat_le (f := fun y => [((x, y, true) : Mk7), (x, y, false)]) (xs := side B c) (k := 2) fun y _ => by simp
    omega
  omega
theorem rc_in {B : Bk} {d : Nm → Nat} (W : Walks B d) {a c : Nm} (hac : a ≠ c) {s : Mk7} (h : RcS B d a c s) : s ∈ allS B a c := by
  obtain ⟨sp, sq, T⟩ := h.two_ways W.lvl hac
  obtain ⟨x, y, b⟩ := s
  have h1 : x ∈ side B a := by
    have := T.ea
    simp only at this
    rw [this]
    exact T.fa.side W
  have h2 : y ∈ side B c := by
    have := T.ec
    simp only at this
    rw [this]
    exact T.fc.side W
  refine List.mem_flatMap.mpr ⟨x, h1, List.mem_flatMap.mpr ⟨y, h2, ?_⟩⟩
  cases b <;> simp
theorem rc_names {B : Bk} {d : Nm → Nat} (W : Walks B d) {a c : Nm} (ha : a ∈ B.names) (hc : c ∈ B.names) {x y : Ed} {b : Bool} (h : Rc B d a c x y b) : x.1 ∈ B.names ∧ y.1 ∈ B.names := by
  induction h with
  | start => exact ⟨ha, hc⟩
  | one _ _ hs hp _ ih => exact ⟨(W.kin hs).1.mem _ hp, ih.2⟩
  | two _ _ hs hp _ ih => exact ⟨ih.1, (W.kin hs).1.mem _ hp⟩
/-- what holds at each turn -/
structure Trn (B : Bk) (d : Nm → Nat) (a c : Nm) (L ms : List Mk7) (ts : List Tie) : Prop where
  nm : ms.Nodup
  nt : ts.Nodup
  rl : ∀ s ∈ L, RcS B d a c s
  rm : ∀ s ∈ ms, RcS B d a c s
  st : ((a, [], 0), (c, [], 0), true) ∈ ms ∨ ((a, [], 0), (c, [], 0), true) ∈ L
  cl : ∀ s ∈ ms, ∀ s' ∈ sucA B d s, s' ∈ ms ∨ s' ∈ L
  ti : ∀ t, t ∈ ts ↔ ∃ s ∈ ms, t ∈ tieA B d s
  ll : L.length ≤ 1 + 26 * ms.length
  lt : ts.length ≤ 26 * ms.length
theorem mem_foldl_ins {us : List Tie} : ∀ {ts : List Tie} {t : Tie}, t ∈ us.foldl insS ts ↔ t ∈ ts ∨ t ∈ us := by
  induction us with
  | nil => intro ts t; simp
  | cons u us ih =>
    intro ts t
    rw [List.foldl_cons, ih, mem_insS, List.mem_cons, or_assoc]
theorem foldl_ins_nodup {us : List Tie} : ∀ {ts : List Tie}, ts.Nodup → (us.foldl insS ts).Nodup := by
  induction us with
  | nil => exact fun h => h
  | cons u us ih => exact fun h => ih (insS_nodup h)
theorem Trn.skip {B : Bk} {d : Nm → Nat} {a c : Nm} {L ms : List Mk7} {ts : List Tie} {s : Mk7} (h : Trn B d a c (L ++ [s]) ms ts) (hs : s ∈ ms) : Trn B d a c L ms ts := by
  have g : ∀ {z : Mk7}, z ∈ ms ∨ z ∈ L ++ [s] → z ∈ ms ∨ z ∈ L := fun {z} w => by
    rcases w with w | w
    · exact .inl w
    · rcases List.mem_append.mp w with w | w
      · exact .inr w
      · exact .inl (by rw [List.mem_singleton.mp w]; exact hs)
  have l := h.ll
  rw [List.length_append, List.length_singleton] at l
  exact ⟨h.nm, h.nt, fun z hz => h.rl z (List.mem_append_left _ hz), h.rm, g h.st, fun z hz z' hz' => g (h.cl z hz z' hz'), h.ti, by omega, h.lt⟩
theorem Trn.take {B : Bk} {d : Nm → Nat} (W : Walks B d) {a c : Nm} {L ms : List Mk7} {ts : List Tie} {s : Mk7} (h : Trn B d a c (L ++ [s]) ms ts) (hs : s ∉ ms) : Trn B d a c (L ++ sucA B d s) (insS ms s) ((tieA B d s).foldl insS ts) := by
  obtain ⟨l1, l2⟩ := W.lens s
  have rs : RcS B d a c s := h.rl s (by simp)
  have e : insS ms s = ms ++ [s] := if_neg hs
  have l := h.ll
  have lt := h.lt
  have fl := foldl_ins_len (ts := ts) (us := tieA B d s)
  rw [List.length_append, List.length_singleton] at l
  have g : ∀ {z : Mk7}, z ∈ ms ∨ z ∈ L ++ [s] → z ∈ insS ms s ∨ z ∈ L ++ sucA B d s := fun {z} w => by
    rcases w with w | w
    · exact .inl (mem_insS.mpr (.inl w))
    · rcases List.mem_append.mp w with w | w
      · exact .inr (List.mem_append_left _ w)
      · exact .inl (mem_insS.mpr (.inr (List.mem_singleton.mp w)))
  refine ⟨insS_nodup h.nm, foldl_ins_nodup h.nt, fun z hz => ?_, fun z hz => ?_, g h.st, fun z hz z' hz' => ?_, fun t => ?_, ?_, ?_⟩
  · rcases List.mem_append.mp hz with w | w
    · exact h.rl z (List.mem_append_left _ w)
    · exact suc_rc rs w
  · rcases mem_insS.mp hz with w | w
    · exact h.rm z w
    · rw [w]; exact rs
  · rcases mem_insS.mp hz with w | w
    · exact g (h.cl z w z' hz')
    · rw [w] at hz'
      exact .inr (List.mem_append_right _ hz')
  · rw [mem_foldl_ins, h.ti]
    constructor
    · rintro (⟨z, hz, w⟩ | w)
      · exact ⟨z, mem_insS.mpr (.inl hz), w⟩
      · exact ⟨s, mem_insS.mpr (.inr rfl), w⟩
    · rintro ⟨z, hz, w⟩
      rcases mem_insS.mp hz with y | y
      · exact .inl ⟨z, y, w⟩
      · rw [y] at w; exact .inr w
  · rw [e, List.length_append, List.length_append, List.length_singleton]
    omega
  · rw [e, List.length_append, List.length_singleton]
    omega
theorem Trn.td {B : Bk} {d : Nm → Nat} {a c : Nm} {ms : List Mk7} {ts : List Tie} (h : Trn B d a c [] ms ts) (t : Tie) : t ∈ ts ↔ Td B d a c t := by
  rw [h.ti]
  constructor
  · rintro ⟨s, hs, w⟩
    exact ⟨s.1, s.2.1, s.2.2, h.rm s hs, tieA_iff.mp w⟩
  · rintro ⟨x, y, b, hr, w⟩
    refine ⟨(x, y, b), rc_all (M := fun s => s ∈ ms) (h.st.resolve_right (by simp)) (fun s hs s' hs' => (h.cl s hs s' hs').resolve_right (by simp)) hr, tieA_iff.mpr w⟩
theorem wh_run {κ σ : Type} {c : σ → PM κ Bool} {b : σ → PM κ σ} (I : Nat → σ → κ → Prop) (h : ∀ n s k, I n s k → c s k = .ok false k ∨ (c s k = .ok true k ∧ ∃ s' k' m, b s k = .ok s' k' ∧ I m s' k' ∧ m < n)) : ∀ (fu n : Nat) (s : σ) (k : κ), I n s k → n < fu → ∃ s' k' m, whM c b fu s k = .ok s' k' ∧ I m s' k' ∧ c s' k' = .ok false k'
  | 0, n, s, k, _, hk => absurd hk (Nat.not_lt_zero _)
  | fu + 1, n, s, k, hi, hk => by
    rcases h n s k hi with e | ⟨e, s', k', m, e2, hi', hlt⟩
    · refine ⟨s, k, n, ?_, hi, e⟩
      unfold whM
      rw [bd_okE e, if_neg (by simp)]
      rfl
    · obtain ⟨s2, k2, m2, e3, hi2, e4⟩ := wh_run I h fu m s' k' hi' (by omega)
      refine ⟨s2, k2, m2, ?_, hi2, e4⟩
      unfold whM
      rw [bd_okE e, if_pos rfl, bd_okE e2]
      exact e3
theorem ke_tie : KE tieT := ⟨fun a b h => nk_tie.inj a b (by rw [h]), fun _ => rfl, fun _ => Nat.le_of_ble_eq_true rfl, fun _ _ => rfl⟩
theorem se_tie : SE tieT fun _ => True := ⟨ke_tie, fun xs _ => sortOk_of_tups (fun f _ => ke_tie.okd f) (fun f _ g _ => rfl) fun f _ => ⟨_, _, rfl⟩⟩
theorem told_eq {B : Bk} {d : Nm → Nat} (W : Walks B d) {a c : Nm} (hac : a ≠ c) (ha : a ∈ B.names) (hc : c ∈ B.names) : ∃ ts k, m_Walk_told (depT B d) (fmsT B) (.str a) (.str c) (([], []), ([], [])) = .ok (.tup ((srt tieT ts).map tieT)) k ∧ ts.Nodup ∧ ∀ t, t ∈ ts ↔ Td B d a c t := by
  have hs := sizeLine_eq
  unfold m_Walk_told
  simp_arith [neE_nil]
  have wh := wh_run (κ := DD × DD) (c := fun (s13 : List T) => pu !s13.isEmpty) (b := fun s13 => bd (popL s13) fun b16 => bd (ofO (un3 b16.1)) fun b17 => bd (ofO (fldT "name" (okL fc_name) emp b17.1)) fun a => bd (ofO (fldT "family" (okL fc_family) emp b17.1)) fun a_1 => bd (ofO (fldT "steps" (okL fc_steps) emp b17.1)) fun a_2 => bd (ofO (fldT "name" (okL fc_name) emp b17.2.1)) fun a_3 => bd (ofO (fldT "family" (okL fc_family) emp b17.2.1)) fun a_4 => bd (ofO (fldT "steps" (okL fc_steps) emp b17.2.1)) fun a_5 => bd (linM tninT Prod.fst (T.tup [a, a_1, a_2, a_3, a_4, a_5, b17.2.2])) fun a_6 => bd (tb a_6) fun v35 => if v35 = true then bd (lputM Prod.fst (fun k r => (r, k.2)) (T.tup [a, a_1, a_2, a_3, a_4, a_5, b17.2.2]) (T.bl true)) fun _ => bd (m_Walk_go_on (depT B d) (fmsT B) b17.1 b17.2.1 b17.2.2) fun v39 => extM b16.2 v39 else pu b16.2)
    (fun n s k => ∃ L ms ts, s = L.map pairT ∧ k = KS ms ts ∧ Trn B d a c L ms ts ∧ n = 27 * (594050 - ms.length) + L.length) ?_ fuel (27 * (594050 - 0) + 1) [pairT ((a, [], 0), (c, [], 0), true)] (KS [] []) ⟨[((a, [], 0), (c, [], 0), true)], [], [], rfl, rfl, ⟨List.nodup_nil, List.nodup_nil, fun s hs => by rw [List.mem_singleton.mp hs]; exact .start, nofun, .inr (.head _), nofun, fun t => by simp, by simp, by simp⟩, rfl⟩ (by unfold fuel; omega)
  · obtain ⟨s', k', m, e1, ⟨L, ms, ts, rfl, rfl, tr, _⟩, e2⟩ := wh
    have L0 : L = [] := by
      have e2 : Res.ok (!(L.map pairT).isEmpty) (KS ms ts) = Res.ok false (KS ms ts) := e2
      injection e2 with e2
      cases L with
      | nil => rfl
      | cons _ _ => cases e2
    subst L0
    refine ⟨ts, KS ms ts, ?_, tr.nt, tr.td⟩
    refine (bd_okE e1).trans ?_
    have lm : ms.length ≤ 594050 := Nat.le_trans (tr.nm.length_le_of_subset fun s hs => rc_in W hac (tr.rm s hs)) (allS_len W.ok a c)
    have lt := tr.lt
    have lu : lunM sktT Prod.snd (KS ms ts) = .ok (.lst ((srt tieT ts).map tieT)) (KS ms ts) := by
      unfold lunM
      have := skt_set se_tie (xs := ts) (fun _ _ => trivial) (by omega)
      show (match sktT emp (.dct (dnk (ts.map tieT)) (ts.map tieT) (onesV ts)) with | some r => Res.ok r (KS ms ts) | none => .bad) = _
      rw [this]
    refine (bd_okE lu).trans ?_
    rfl
  · rintro n s k ⟨L, ms, ts, rfl, rfl, tr, rfl⟩
    rcases List.eq_nil_or_concat L with rfl | ⟨L', s, rfl⟩
    · exact .inl rfl
    rw [List.concat_eq_append] at tr ⊢
    right
    have ne : ((L' ++ [s]).map pairT).isEmpty = false := by cases L' <;> rfl
    refine ⟨by show pu (!((L' ++ [s]).map pairT).isEmpty) (KS ms ts) = _; rw [ne]; rfl, ?_⟩
    have lm : ms.length ≤ 594050 := Nat.le_trans (tr.nm.length_le_of_subset fun s hs => rc_in W hac (tr.rm s hs)) (allS_len W.ok a c)
    have lt := tr.lt
    have ll := tr.ll
    rw [List.length_append, List.length_singleton] at ll
    have pop : popL (κ := DD × DD) ((L' ++ [s]).map pairT) = pu (pairT s, L'.map pairT) := by
      unfold popL
      rw [List.map_append]
      simp
    have u3 : un3 (pairT s) = some (edT s.1, edT s.2.1, .bl s.2.2) := rfl
    have ni : linM tninT Prod.fst (mkT s) (KS ms ts) = .ok (.bl (!isIn s ms)) (KS ms ts) := by
      unfold linM
      have := nin_set nk_mark (a := s) (xs := ms)
      show (match tninT emp (mkT s) (.dct (dnk (ms.map mkT)) (ms.map mkT) (onesV ms)) with | some r => Res.ok r (KS ms ts) | none => .bad) = _
      rw [this]
    obtain ⟨l1, l2⟩ := W.lens s
    rw [pop, pu_bd, u3, ofO_some, pu_bd]
    dsimp only
    rw [ed_name, ofO_some, pu_bd, ed_fam, ofO_some, pu_bd, ed_steps, ofO_some, pu_bd, ed_name, ofO_some, pu_bd, ed_fam, ofO_some, pu_bd, ed_steps, ofO_some, pu_bd]
    by_cases hm : s ∈ ms
    · refine ⟨L'.map pairT, KS ms ts, _, ?_, ⟨L', ms, ts, rfl, rfl, tr.skip hm, rfl⟩, by rw [List.length_append, List.length_singleton]; omega⟩
      refine (bd_okE ni).trans ?_
      rw [isIn_pos hm]
      rfl
    · have tk := tr.take W hm
      have lm2 : (insS ms s).length ≤ 594050 := Nat.le_trans (tk.nm.length_le_of_subset fun s hs => rc_in W hac (tk.rm s hs)) (allS_len W.ok a c)
      have e : insS ms s = ms ++ [s] := if_neg hm
      have lms : (insS ms s).length = ms.length + 1 := by rw [e, List.length_append]; rfl
      refine ⟨(L' ++ sucA B d s).map pairT, KS (insS ms s) ((tieA B d s).foldl insS ts), _, ?_, ⟨_, _, _, rfl, rfl, tk, rfl⟩, by rw [List.length_append, List.length_append, List.length_singleton, lms]; omega⟩
      refine (bd_okE ni).trans ?_
      rw [isIn_neg hm]
      obtain ⟨nx, ny⟩ := rc_names W ha hc (tr.rl s (by simp))
      refine (bd_okE (lput_met (ms := ms) (ts := ts) (s := s) (by omega))).trans ?_
      refine (bd_okE (go_on_eq (d := d) (s := s) nx ny W.two (fun n => by have := W.few n; omega) (by omega))).trans ?_
      rw [extM_l, gdc_b (by rw [List.length_map, List.length_map]; omega), List.map_append]
      rfl
/-- the ties of two -/
theorem ties_eq {B : Bk} {d : Nm → Nat} (W : Walks B d) (hd : m_depths (bkT B) = pu (depT B d)) {a c : Nm} (hac : a ≠ c) (ha : a ∈ B.names) (hc : c ∈ B.names) : ∃ ts, m_ties (bkT B) (.str a) (.str c) = pu (.tup ((srt tieT ts).map tieT)) ∧ ts.Nodup ∧ ∀ t, t ∈ ts ↔ Tl B a c t := by
  obtain ⟨ts, k, e, nd, h⟩ := told_eq W hac ha hc
  refine ⟨ts, ?_, nd, fun t => (h t).trans (td_iff W.lvl (fun b hb z => by have := (W.ok.un _ (W.ok.kin hb).fam).lo; rw [z] at this; cases this) hac)⟩
  unfold m_ties
  simp_arith [init_eq W.ok hd, nox_pu]
  funext u
  unfold runW
  rw [e]
  rfl
theorem plc_lt : ∀ {names : List Nm} {x : Nm} {j : Nat}, plc x names = some j → j < names.length
  | [], x, j, h => by cases h
  | y :: ys, x, j, h => by
    unfold plc at h
    split at h
    · cases h; simp
    · obtain ⟨i, hi, rfl⟩ := Option.map_eq_some_iff.mp h
      have := plc_lt hi
      rw [List.length_cons]
      omega
theorem plc_nth : ∀ {names : List Nm} {x : Nm} {j : Nat}, names.Nodup → names[j]? = some x → plc x names = some j
  | [], x, j, _, h => by simp at h
  | y :: ys, x, j, nd, h => by
    obtain ⟨n1, n2⟩ := List.nodup_cons.mp nd
    unfold plc
    cases j with
    | zero =>
      rw [List.getElem?_cons_zero] at h
      rw [if_pos (Option.some.inj h)]
    | succ j =>
      rw [List.getElem?_cons_succ] at h
      have : y ≠ x := fun e => n1 (e ▸ List.mem_of_getElem? h)
      rw [if_neg this, plc_nth n2 h]
      rfl
theorem walks_of {B : Bk} (hB : BkOk B) (hp : PlnB B) : ∃ d, Walks B d ∧ m_depths (bkT B) = pu (depT B d) := by
  obtain ⟨names, pm, one, dj, h⟩ := hp
  have nd : names.Nodup := pm.nodup_iff.mp hB.nd
  have ln : names.length ≤ 16 := by
    have := pm.length_eq
    have l : B.names.length ≤ 16 := by unfold Bk.names; rw [List.length_map]; exact hB.lf
    omega
  have rk16 : ∀ n, (plc n names).getD 0 ≤ 15 := fun n => by
    cases q : plc n names with
    | none => exact Nat.zero_le _
    | some j =>
      have := plc_lt q
      show j ≤ 15
      omega
  have hr : Lvl B fun n => (plc n names).getD 0 := fun b hb x hx => by
    obtain ⟨j, h1, h2⟩ := h b hb
    have e1 := plc_nth nd h1
    obtain ⟨i, e2, hi, _⟩ := plc_take (h2 x hx)
    show (plc x names).getD 0 < (plc b.1 names).getD 0
    rw [e1, e2]
    exact hi
  obtain ⟨d, e, L, le⟩ := depths_eq hB hr fun n => by have := rk16 n; omega
  refine ⟨d, ⟨hB, L, fun n => by have := le n; have := rk16 n; omega, fun n => ?_⟩, e⟩
  unfold stps
  rw [List.length_append, List.length_map, List.length_map]
  have a : (B.adopts.filter fun b => decide (b.1 = n)).length ≤ 12 := Nat.le_trans (List.length_filter_le _ _) hB.la
  have b : (B.births.filter fun b => decide (b.1 = n)).length ≤ 1 := by
    have nd2 : ((B.births.filter fun b => decide (b.1 = n)).map (·.1)).Nodup := one.sublist (List.filter_sublist.map _)
    have := nd2.length_le_of_subset (l₂ := [n]) fun z hz => by
      obtain ⟨c, hc, rfl⟩ := List.mem_map.mp hz
      rw [of_decide_eq_true (List.mem_filter.mp hc).2]
      exact .head _
    rw [List.length_map] at this
    exact this
  omega
theorem far_of {n : Nat} {i j : Int} (i0 : 0 ≤ i) (i1 : i < n) (j0 : 0 ≤ j) (j1 : j < (n : Int) - 1) : modI (i + 1 + j) (n : Nat) = true ∧ 0 ≤ (i + 1 + j).fmod (n : Nat) ∧ (i + 1 + j).fmod (n : Nat) < (n : Nat) ∧ (i + 1 + j).fmod (n : Nat) ≠ i := by
  refine ⟨by unfold modI; simp; omega, Int.fmod_nonneg_of_pos _ (by omega), Int.fmod_lt_of_pos _ (by omega), fun z => ?_⟩
  rw [Int.fmod_eq_emod_of_nonneg _ (by omega)] at z
  have t := Int.emod_add_mul_ediv (i + 1 + j) (n : Nat)
  rw [z] at t
  generalize (i + 1 + j) / (n : Int) = k at t
  by_cases hk : k ≤ 0
  · have := Int.mul_le_mul_of_nonneg_left (c := (n : Int)) hk (by omega)
    omega
  · have := Int.mul_le_mul_of_nonneg_left (c := (n : Int)) (show 1 ≤ k by omega) (by omega)
    omega
theorem two_names {xs : List Nm} (nd : xs.Nodup) {i k : Int} (i0 : 0 ≤ i) (i1 : i < xs.length) (k0 : 0 ≤ k) (k1 : k < xs.length) (ne : k ≠ i) : ∃ a c, a ∈ xs ∧ c ∈ xs ∧ a ≠ c ∧ L2.atI (xs.map T.str) i = some (.str a) ∧ L2.atI (xs.map T.str) k = some (.str c) := by
  obtain ⟨m, rfl⟩ : ∃ m : Nat, i = m := ⟨i.toNat, by omega⟩
  obtain ⟨n, rfl⟩ : ∃ n : Nat, k = n := ⟨k.toNat, by omega⟩
  have l1 : m < xs.length := by omega
  have l2 : n < xs.length := by omega
  refine ⟨xs[m], xs[n], List.getElem_mem _, List.getElem_mem _, fun z => ?_, ?_, ?_⟩
  · have nd := List.pairwise_iff_getElem.mp nd
    rcases Nat.lt_or_gt_of_ne (show m ≠ n by omega) with w | w
    · exact nd m n l1 l2 w z
    · exact nd n m l2 l1 w z.symm
  · rw [atI_natE]; simp [l1]
  · rw [atI_natE]; simp [l2]
theorem tl_len {B : Bk} {d : Nm → Nat} (W : Walks B d) {a c : Nm} {us : List Tie} (nd : us.Nodup) (h : ∀ t, t ∈ us ↔ Tl B a c t) : us.length ≤ 1156 := by
  have sh : ∀ {x : Nm} {sp : List Sp}, Fw B x sp → sp.length ≤ 16 := fun {x sp} hf => by
    have := hf.short W.lvl
    have := W.low x
    omega
  let all : List Tie := (List.range 17).flatMap fun i => (List.range 17).flatMap fun j => [(i, j, 0, true), (i, j, 0, false), (i, j, 1, true), (i, j, 1, false)]
  have l : all.length ≤ 1156 := by decide
  refine Nat.le_trans (nd.length_le_of_subset fun t ht => ?_) l
  obtain ⟨sp, sq, h1, h2, _, _, rfl⟩ := (h t).mp ht
  refine List.mem_flatMap.mpr ⟨sp.length, List.mem_range.mpr (by have := sh h1; omega), List.mem_flatMap.mpr ⟨sq.length, List.mem_range.mpr (by have := sh h2; omega), ?_⟩⟩
  have hh : halfT (endF [] sp) (endF [] sq) = 0 ∨ halfT (endF [] sp) (endF [] sq) = 1 := by
    unfold halfT
    split
    · exact .inr rfl
    · exact .inl rfl
  rcases hh with e | e <;> rw [e] <;> cases (allB sp && allB sq) <;> simp
theorem srt_same {us ts : List Tie} (n1 : us.Nodup) (n2 : ts.Nodup) (h : ∀ t, t ∈ us ↔ t ∈ ts) : srt tieT us = srt tieT ts :=
  ke_tie.rise_ext nofun (se_tie.rise (fun _ _ => trivial) n1) (se_tie.rise (fun _ _ => trivial) n2) fun t => srt_mem.trans ((h t).trans srt_mem.symm)
def swQ (t : Tie) : Tie := (t.2.1, t.1, t.2.2.1, t.2.2.2)
theorem neT_tup {α : Type} {e : α → T} (h : KE e) (xs : List α) : TL.neT emp (.tup (xs.map e)) (.tup (xs.map e)) = some (.bl false) ∧ TL.eqT emp (.tup (xs.map e)) (.tup (xs.map e)) = some (.bl true) := by
  have o := (h.okds xs).2
  have k : kx (.tup (xs.map e)) = true := kx_row _ fun x hx => by
    obtain ⟨a, _, rfl⟩ := List.mem_map.mp hx
    exact h.kx a
  have oo : (okd (res emp (.tup (xs.map e))) && okd (res emp (.tup (xs.map e)))) = true := by
    show (okd (.tup (xs.map e)) && okd (.tup (xs.map e))) = true
    rw [o]; rfl
  unfold TL.eqT TL.neT
  rw [if_pos oo, if_pos oo]
  show some (T.bl (!(eqt (.tup (xs.map e)) (.tup (xs.map e))))) = _ ∧ some (T.bl (eqt (.tup (xs.map e)) (.tup (xs.map e)))) = _
  rw [(eqt_kx _ _ k k).mpr rfl]
  exact ⟨rfl, rfl⟩
section
variable {B : Bk} {F : Nm → Nm} (h : BkOk B) (inj : ∀ a ∈ B.names, ∀ b ∈ B.names, F a = F b → a = b) (hC : BkOk (B.ren F))
theorem ren_births {c : Nm} {f : List Nm} : (c, f) ∈ (B.ren F).births ↔ ∃ b ∈ B.births, F b.1 = c ∧ renF F b.2 = f := by
  show (c, f) ∈ srt kinT (B.births.map fun b => (F b.1, renF F b.2)) ↔ _
  rw [srt_mem, List.mem_map]
  constructor
  · rintro ⟨b, hb, e⟩
    injection e with e1 e2
    exact ⟨b, hb, e1, e2⟩
  · rintro ⟨b, hb, e1, e2⟩
    exact ⟨b, hb, by rw [e1, e2]⟩
theorem ren_adopts {c : Nm} {f : List Nm} : (c, f) ∈ (B.ren F).adopts ↔ ∃ b ∈ B.adopts, F b.1 = c ∧ renF F b.2 = f := by
  show (c, f) ∈ srt kinT (B.adopts.map fun b => (F b.1, renF F b.2)) ↔ _
  rw [srt_mem, List.mem_map]
  constructor
  · rintro ⟨b, hb, e⟩
    injection e with e1 e2
    exact ⟨b, hb, e1, e2⟩
  · rintro ⟨b, hb, e1, e2⟩
    exact ⟨b, hb, by rw [e1, e2]⟩
theorem ren_kins {c : Nm} {f : List Nm} : (c, f) ∈ (B.ren F).births ++ (B.ren F).adopts ↔ ∃ b ∈ B.births ++ B.adopts, F b.1 = c ∧ renF F b.2 = f := by
  rw [List.mem_append, ren_births, ren_adopts]
  constructor
  · rintro (⟨b, hb, e⟩ | ⟨b, hb, e⟩)
    · exact ⟨b, List.mem_append_left _ hb, e⟩
    · exact ⟨b, List.mem_append_right _ hb, e⟩
  · rintro ⟨b, hb, e⟩
    rcases List.mem_append.mp hb with z | z
    · exact .inl ⟨b, z, e⟩
    · exact .inr ⟨b, z, e⟩
include h inj
end
theorem famby_eq {D : T} {F : Nm → Nm} {ns f : List Nm} (dg : ∀ {n}, n ∈ ns → dgT emp D (.str n) = some (.str (F n))) (k : FamOk ns f) : m_law_renamed__law_family_by D (famT f) = pu (famT (renF F f)) := by
  have hs := sizeLine_eq
  have := k.hi
  have i1 : itemsM (κ := Unit) (famT f) = pu (f.map T.str) := rfl
  have e : (f.map fun n => T.str (F n)) = (f.map F).map T.str := by rw [List.map_map]; rfl
  unfold m_law_renamed__law_family_by
  simp_arith [i1, compG_map]
  rw [gdc_b (by omega), compA_congr (g := fun n => pu (some (T.str (F n)))) (fun n hn => by rw [dg (k.mem n hn)]; rfl), compA_pu, pu_bd, e, (se_str.sorted (fun _ _ => trivial) (by rw [List.length_map]; omega)).1, ofO_some, pu_bd, tupleF_lst]
  rfl
theorem renamed_eq {B : Bk} (h : BkOk B) {F : Nm → Nm} : m_law_renamed (bkT B) (.dct false (B.names.map T.str) (B.names.map fun n => T.str (F n))) = pu (bkT (B.ren F)) := by
  have hs := sizeLine_eq
  have lf := h.lf
  have lu := h.lu
  have lb := h.lb
  have la := h.la
  have memf : ∀ p ∈ B.folk, p.1 ∈ B.names := fun p hp => List.mem_map_of_mem hp
  have dg : ∀ {n}, n ∈ B.names → dgT emp (.dct false (B.names.map T.str) (B.names.map fun n => T.str (F n))) (.str n) = some (.str (F n)) := fun hn => dgT_strs (F := fun n => T.str (F n)) hn
  generalize hD : T.dct false (B.names.map T.str) (B.names.map fun n => T.str (F n)) = D at dg ⊢
  have i0 : ixT emp (bkT B) (.int 0) = some (.tup (B.folk.map fkT)) := rfl
  have i1 : ixT emp (bkT B) (.int 1) = some (.tup (B.unions.map famT)) := rfl
  have i2 : ixT emp (bkT B) (.int 2) = some (.tup (B.births.map kinT)) := rfl
  have i3 : ixT emp (bkT B) (.int 3) = some (.tup (B.adopts.map kinT)) := rfl
  have u0 : ∀ a : Nm × Nm, un2 (fkT a) = some (.str a.1, .str a.2) := fun _ => rfl
  have u1 : ∀ b : Nm × List Nm, un2 (kinT b) = some (.str b.1, famT b.2) := fun _ => rfl
  unfold m_law_renamed
  simp_arith [i0, i1, i2, i3, u0, u1, compG_map]
  have kin1 : ∀ xs : List (Nm × List Nm), (∀ b ∈ xs, KinOk B.names B.unions b) → compA (κ := Unit) (fun a => bd (ofO (dgT emp D (T.str a.fst))) fun a_1 => bd (lft (m_law_renamed__law_family_by D (famT a.snd))) fun a => pu (some (T.tup [a_1, a]))) xs = pu ((xs.map fun b => (F b.1, renF F b.2)).map kinT) := by
    intro xs hx
    rw [compA_congr (g := fun b => pu (some (kinT (F b.1, renF F b.2)))) (fun b hb => by
      rw [dg (hx b hb).kid, famby_eq dg (h.un _ (hx b hb).fam)]
      rfl), compA_pu, List.map_map]
    rfl
  rw [gdc_b (by omega), compA_congr (g := fun p => pu (some (fkT (F p.1, p.2)))) (fun p hp => by rw [dg (memf p hp)]; rfl), compA_pu, pu_bd]
  rw [show B.folk.map (fun p => fkT (F p.1, p.2)) = (B.folk.map fun p => (F p.1, p.2)).map fkT by rw [List.map_map]; rfl]
  rw [(se_fk.sorted (fun _ _ => trivial) (by rw [List.length_map]; omega)).1, ofO_some, pu_bd]
  rw [gdc_b (by omega), kin1 _ h.bi, pu_bd, (se_kin.sorted (fun _ _ => trivial) (by rw [List.length_map]; omega)).1, ofO_some, pu_bd]
  rw [gdc_b (by omega), kin1 _ h.ad, pu_bd, (se_kin.sorted (fun _ _ => trivial) (by rw [List.length_map]; omega)).1, ofO_some, pu_bd]
  rw [gdc_b (by omega), compA_congr (g := fun f => pu (some (famT (renF F f)))) (fun f hf => by
    rw [famby_eq dg (h.un f hf)]
    rfl), compA_pu, pu_bd]
  rw [show B.unions.map (fun f => famT (renF F f)) = (B.unions.map (renF F)).map famT by rw [List.map_map]; rfl]
  rw [(se_fam.sorted (fun f hf => by
    obtain ⟨g, hg, rfl⟩ := List.mem_map.mp hf
    have l1 := (h.un g hg).lo
    intro z
    have l : (renF F g).length = 0 := by rw [z]; rfl
    rw [renF_len] at l
    omega) (by rw [List.length_map]; omega)).1, ofO_some, pu_bd]
  rfl
theorem mem_stps {B : Bk} {n : Nm} {f : List Nm} {bo : Bool} : (f, bo) ∈ stps B n ↔ (bo = true ∧ (n, f) ∈ B.births) ∨ (bo = false ∧ (n, f) ∈ B.adopts) := by
  unfold stps
  rw [List.mem_append, List.mem_map, List.mem_map]
  constructor
  · rintro (⟨b, hb, e⟩ | ⟨b, hb, e⟩)
    · obtain ⟨h1, h2⟩ := List.mem_filter.mp hb
      have h2 := of_decide_eq_true h2
      injection e with e1 e2
      subst h2 e1
      exact .inl ⟨e2.symm, h1⟩
    · obtain ⟨h1, h2⟩ := List.mem_filter.mp hb
      have h2 := of_decide_eq_true h2
      injection e with e1 e2
      subst h2 e1
      exact .inr ⟨e2.symm, h1⟩
  · rintro (⟨rfl, hb⟩ | ⟨rfl, hb⟩)
    · exact .inl ⟨(n, f), List.mem_filter.mpr ⟨hb, decide_eq_true rfl⟩, rfl⟩
    · exact .inr ⟨(n, f), List.mem_filter.mpr ⟨hb, decide_eq_true rfl⟩, rfl⟩
theorem stps_fam {B : Bk} (h : BkOk B) {n : Nm} {s : List Nm × Bool} (hs : s ∈ stps B n) : s.1 ∈ B.unions := by
  rcases mem_stps.mp (show (s.1, s.2) ∈ stps B n from hs) with ⟨_, k⟩ | ⟨_, k⟩
  · exact (h.bi _ k).fam
  · exact (h.ad _ k).fam
theorem endF_un {B : Bk} (h : BkOk B) : ∀ {sp : List Sp} {a : Nm} {f : List Nm}, Fw B a sp → endF f sp = f ∨ endF f sp ∈ B.unions
  | [], _, _, _ => .inl rfl
  | s :: sp, a, f, ⟨h1, _, h3⟩ => by
    rcases endF_un h (f := s.2.1) h3 with e | e
    · exact .inr (by show endF s.2.1 sp ∈ _; rw [e]; exact stps_fam h h1)
    · exact .inr e
section
variable {B : Bk} {F : Nm → Nm} (h : BkOk B) (inj : ∀ a ∈ B.names, ∀ b ∈ B.names, F a = F b → a = b)
def renS (F : Nm → Nm) (s : Sp) : Sp := (F s.1, renF F s.2.1, s.2.2)
theorem renF_nil : renF F [] = [] := List.length_eq_zero_iff.mp (by rw [renF_len]; rfl)
theorem endN_ren : ∀ (sp : List Sp) (a : Nm), endN (F a) (sp.map (renS F)) = F (endN a sp)
  | [], _ => rfl
  | s :: sp, _ => endN_ren sp s.1
theorem endF_ren : ∀ (sp : List Sp) (f : List Nm), endF (renF F f) (sp.map (renS F)) = renF F (endF f sp)
  | [], _ => rfl
  | s :: sp, _ => endF_ren sp s.2.1
theorem nms_ren (sp : List Sp) (a : Nm) : nms (F a) (sp.map (renS F)) = (nms a sp).map F := by
  unfold nms
  rw [List.map_cons, List.map_map, List.map_map]
  rfl
theorem allB_ren (sp : List Sp) : allB (sp.map (renS F)) = allB sp := by
  unfold allB
  rw [List.all_map]
  rfl
include h inj
theorem ren_stps {n : Nm} (hn : n ∈ B.names) {g : List Nm} {bo : Bool} : (g, bo) ∈ stps (B.ren F) (F n) ↔ ∃ f, (f, bo) ∈ stps B n ∧ renF F f = g := by
  have one : ∀ {xs : List (Nm × List Nm)}, (∀ b ∈ xs, KinOk B.names B.unions b) → ((∃ b ∈ xs, F b.1 = F n ∧ renF F b.2 = g) ↔ ∃ f, (n, f) ∈ xs ∧ renF F f = g) := fun hx => by
    constructor
    · rintro ⟨⟨c, f⟩, hb, e1, e2⟩
      have e : c = n := inj _ (hx _ hb).kid _ hn e1
      subst e
      exact ⟨f, hb, e2⟩
    · rintro ⟨f, hb, e⟩
      exact ⟨(n, f), hb, rfl, e⟩
  rw [mem_stps, ren_births, ren_adopts, one h.bi, one h.ad]
  constructor
  · rintro (⟨e, f, hf, rfl⟩ | ⟨e, f, hf, rfl⟩)
    · exact ⟨f, mem_stps.mpr (.inl ⟨e, hf⟩), rfl⟩
    · exact ⟨f, mem_stps.mpr (.inr ⟨e, hf⟩), rfl⟩
  · rintro ⟨f, hf, rfl⟩
    rcases mem_stps.mp hf with ⟨e, k⟩ | ⟨e, k⟩
    · exact .inl ⟨e, f, k, rfl⟩
    · exact .inr ⟨e, f, k, rfl⟩
omit inj in
theorem fw_names : ∀ {sp : List Sp} {a : Nm}, a ∈ B.names → Fw B a sp → ∀ u ∈ nms a sp, u ∈ B.names
  | [], a, ha, _, u, hu => by rw [List.mem_singleton.mp hu]; exact ha
  | s :: sp, a, ha, ⟨h1, h2, h3⟩, u, hu => by
    rcases List.mem_cons.mp hu with rfl | hu
    · exact ha
    · exact fw_names ((h.un _ (stps_fam h h1)).mem _ h2) h3 u hu
theorem ren_fw : ∀ {sq : List Sp} {a : Nm}, a ∈ B.names → (Fw (B.ren F) (F a) sq ↔ ∃ sp, Fw B a sp ∧ sq = sp.map (renS F))
  | [], a, ha => ⟨fun _ => ⟨[], trivial, rfl⟩, fun _ => trivial⟩
  | (z, g, bo) :: sq, a, ha => by
    constructor
    · rintro ⟨h1, h2, h3⟩
      obtain ⟨f, hf, e⟩ := (ren_stps h inj ha).mp h1
      have e : renF F f = g := e
      subst e
      obtain ⟨y, hy, e⟩ := renF_mem.mp (show z ∈ renF F f from h2)
      subst e
      obtain ⟨sp, h4, rfl⟩ := (ren_fw ((h.un _ (stps_fam h hf)).mem _ hy)).mp h3
      exact ⟨(y, f, bo) :: sp, ⟨hf, hy, h4⟩, rfl⟩
    · rintro ⟨sp, h1, e⟩
      cases sp with
      | nil => cases e
      | cons s sp =>
        obtain ⟨h2, h3, h4⟩ := h1
        injection e with e1 e2
        have e3 : z = F s.1 := congrArg Prod.fst e1
        have e4 : g = renF F s.2.1 := congrArg (fun x : Sp => x.2.1) e1
        have e5 : bo = s.2.2 := congrArg (fun x : Sp => x.2.2) e1
        subst e3 e4 e5
        exact ⟨(ren_stps h inj ha).mpr ⟨_, h2, rfl⟩, renF_mem.mpr ⟨_, h3, rfl⟩, (ren_fw ((h.un _ (stps_fam h h2)).mem _ h3)).mpr ⟨sp, h4, e2⟩⟩
theorem ren_half {f g : List Nm} (hf : f = [] ∨ f ∈ B.unions) (hg : g = [] ∨ g ∈ B.unions) : halfT (renF F f) (renF F g) = halfT f g := by
  have z : renF F [] = [] := renF_nil
  have nn : ∀ {f : List Nm}, renF F f = [] ↔ f = [] := fun {f} => by
    rw [← List.length_eq_zero_iff, renF_len, List.length_eq_zero_iff]
  unfold halfT
  rcases hf with rfl | hf
  · rw [z, if_neg (fun k => k.1 rfl), if_neg (fun k => k.1 rfl)]
  rcases hg with rfl | hg
  · rw [z, if_neg (fun k => k.2.1 rfl), if_neg (fun k => k.2.1 rfl)]
  have k : (renF F f = renF F g) ↔ f = g := ⟨renF_inj h inj (h.un _ hf) (h.un _ hg), fun e => by rw [e]⟩
  by_cases c : f ≠ [] ∧ g ≠ [] ∧ f ≠ g
  · rw [if_pos c, if_pos ⟨fun e => c.1 (nn.mp e), fun e => c.2.1 (nn.mp e), fun e => c.2.2 (k.mp e)⟩]
  · rw [if_neg c, if_neg fun d => c ⟨fun e => d.1 (nn.mpr e), fun e => d.2.1 (nn.mpr e), fun e => d.2.2 (k.mpr e)⟩]
theorem ren_tl {a c : Nm} (ha : a ∈ B.names) (hc : c ∈ B.names) {t : Tie} : Tl (B.ren F) (F a) (F c) t ↔ Tl B a c t := by
  have he : ∀ {sp : List Sp} {a : Nm}, endF [] (sp.map (renS F)) = renF F (endF [] sp) := fun {sp a} => by
    have := endF_ren (F := F) sp []
    rw [renF_nil] at this
    exact this
  have tie : ∀ {sp sq : List Sp}, Fw B a sp → Fw B c sq → ((sp.map (renS F)).length, (sq.map (renS F)).length, halfT (endF [] (sp.map (renS F))) (endF [] (sq.map (renS F))), allB (sp.map (renS F)) && allB (sq.map (renS F))) = (sp.length, sq.length, halfT (endF [] sp) (endF [] sq), allB sp && allB sq) := fun {sp sq} f1 f2 => by
    rw [List.length_map, List.length_map, he (a := a), he (a := a), allB_ren, allB_ren, ren_half h inj (endF_un h f1) (endF_un h f2)]
  have meet : ∀ {sp sq : List Sp}, Fw B a sp → Fw B c sq → ((endN (F a) (sp.map (renS F)) = endN (F c) (sq.map (renS F)) ∧ (∀ u ∈ nms (F a) (sp.map (renS F)), u ∈ nms (F c) (sq.map (renS F)) → u = endN (F a) (sp.map (renS F)))) ↔ (endN a sp = endN c sq ∧ ∀ u ∈ nms a sp, u ∈ nms c sq → u = endN a sp)) := fun {sp sq} f1 f2 => by
    rw [endN_ren, endN_ren, nms_ren, nms_ren]
    have n1 := fw_names h ha f1
    have n2 := fw_names h hc f2
    have m1 := n1 _ endN_mem
    have m2 := n2 _ endN_mem
    constructor
    · rintro ⟨e, k⟩
      refine ⟨inj _ m1 _ m2 e, fun u hu hv => inj _ (n1 u hu) _ m1 (k _ (List.mem_map_of_mem hu) (List.mem_map_of_mem hv))⟩
    · rintro ⟨e, k⟩
      refine ⟨by rw [e], fun z hz hw => ?_⟩
      obtain ⟨u, hu, rfl⟩ := List.mem_map.mp hz
      obtain ⟨v, hv, e'⟩ := List.mem_map.mp hw
      have := inj _ (n2 v hv) _ (n1 u hu) e'
      subst this
      rw [k v hu hv]
  constructor
  · rintro ⟨sp', sq', h1, h2, h3, h4, rfl⟩
    obtain ⟨sp, f1, rfl⟩ := (ren_fw h inj ha).mp h1
    obtain ⟨sq, f2, rfl⟩ := (ren_fw h inj hc).mp h2
    obtain ⟨e, k⟩ := (meet f1 f2).mp ⟨h3, h4⟩
    exact ⟨sp, sq, f1, f2, e, k, tie f1 f2⟩
  · rintro ⟨sp, sq, f1, f2, e, k, rfl⟩
    obtain ⟨e', k'⟩ := (meet f1 f2).mpr ⟨e, k⟩
    exact ⟨_, _, (ren_fw h inj ha).mpr ⟨sp, f1, rfl⟩, (ren_fw h inj hc).mpr ⟨sq, f2, rfl⟩, e', k', (tie f1 f2).symm⟩
end
theorem tl_comm {B : Bk} {a c : Nm} {t : Tie} : Tl B c a (swQ t) ↔ Tl B a c t := by
  have one : ∀ {a c : Nm} {t : Tie}, Tl B a c t → Tl B c a (swQ t) := fun ⟨sp, sq, h1, h2, h3, h4, e⟩ => ⟨sq, sp, h2, h1, h3.symm, fun u hu hv => (h4 u hv hu).trans h3, by
    subst e
    show (sq.length, sp.length, halfT (endF [] sp) (endF [] sq), allB sp && allB sq) = _
    rw [halfT_comm, Bool.and_comm]⟩
  exact ⟨fun k => one k, fun k => one k⟩
def wo (B : Bk) (x : Nm) : Bk := ⟨B.folk.filter fun p => decide (p.1 ≠ x), B.unions, B.births.filter fun b => decide (b.1 ≠ x), B.adopts.filter fun b => decide (b.1 ≠ x)⟩
section
variable {B : Bk} {x : Nm}
theorem wo_names {n : Nm} : n ∈ (wo B x).names ↔ n ∈ B.names ∧ n ≠ x := by
  constructor
  · intro h
    obtain ⟨p, hp, rfl⟩ := List.mem_map.mp h
    obtain ⟨h1, h2⟩ := List.mem_filter.mp hp
    exact ⟨List.mem_map_of_mem h1, of_decide_eq_true h2⟩
  · rintro ⟨h, k⟩
    obtain ⟨p, hp, rfl⟩ := List.mem_map.mp h
    exact List.mem_map_of_mem (List.mem_filter.mpr ⟨hp, decide_eq_true k⟩)
theorem wo_ok (h : BkOk B) (hx : ∀ f ∈ B.unions, x ∉ f) : BkOk (wo B x) := by
  have fam : ∀ f ∈ B.unions, FamOk (wo B x).names f := fun f hf => by
    have k := h.un f hf
    exact { k with mem := fun n hn => wo_names.mpr ⟨k.mem n hn, fun e => hx f hf (e ▸ hn)⟩ }
  have kin : ∀ {xs : List (Nm × List Nm)}, (∀ b ∈ xs, KinOk B.names B.unions b) → ∀ b ∈ xs.filter fun b => decide (b.1 ≠ x), KinOk (wo B x).names (wo B x).unions b := fun hk b hb => by
    obtain ⟨h1, h2⟩ := List.mem_filter.mp hb
    have k := hk b h1
    exact { k with kid := wo_names.mpr ⟨k.kid, of_decide_eq_true h2⟩ }
  exact ⟨fun p hp => h.name p (List.mem_filter.mp hp).1, h.nd.sublist (List.filter_sublist.map _), h.rf.sublist (List.filter_sublist.map _), Nat.le_trans (List.length_filter_le _ _) h.lf, fam, h.ru, h.lu, kin h.bi, h.rb.sublist (List.filter_sublist.map _), Nat.le_trans (List.length_filter_le _ _) h.lb, kin h.ad, h.ra.sublist (List.filter_sublist.map _), Nat.le_trans (List.length_filter_le _ _) h.la⟩
theorem wo_stps {n : Nm} (hn : n ≠ x) : stps (wo B x) n = stps B n := by
  have f : ∀ xs : List (Nm × List Nm), (xs.filter fun b => decide (b.1 ≠ x)).filter (fun b => decide (b.1 = n)) = xs.filter fun b => decide (b.1 = n) := fun xs => by
    rw [List.filter_filter]
    refine List.filter_congr fun b _ => ?_
    by_cases e : b.1 = n
    · rw [decide_eq_true e, decide_eq_true (by rw [e]; exact hn)]; rfl
    · rw [decide_eq_false e]; rfl
  show ((B.births.filter _).filter _).map _ ++ ((B.adopts.filter _).filter _).map _ = _
  rw [f, f]
  rfl
theorem wo_fw (h : BkOk B) (hx : ∀ f ∈ B.unions, x ∉ f) : ∀ {sp : List Sp} {a : Nm}, a ≠ x → (Fw (wo B x) a sp ↔ Fw B a sp)
  | [], _, _ => Iff.rfl
  | s :: sp, a, ha => by
    show (_ ∧ _ ∧ _) ↔ (_ ∧ _ ∧ _)
    rw [wo_stps ha]
    constructor
    · rintro ⟨h1, h2, h3⟩
      have k : s.1 ≠ x := fun e => hx _ (stps_fam h h1) (e ▸ h2)
      exact ⟨h1, h2, (wo_fw h hx k).mp h3⟩
    · rintro ⟨h1, h2, h3⟩
      have k : s.1 ≠ x := fun e => hx _ (stps_fam h h1) (e ▸ h2)
      exact ⟨h1, h2, (wo_fw h hx k).mpr h3⟩
theorem wo_tl (h : BkOk B) (hx : ∀ f ∈ B.unions, x ∉ f) {a c : Nm} (ha : a ≠ x) (hc : c ≠ x) {t : Tie} : Tl (wo B x) a c t ↔ Tl B a c t := by
  constructor
  · rintro ⟨sp, sq, h1, h2, r⟩
    exact ⟨sp, sq, (wo_fw h hx ha).mp h1, (wo_fw h hx hc).mp h2, r⟩
  · rintro ⟨sp, sq, h1, h2, r⟩
    exact ⟨sp, sq, (wo_fw h hx ha).mpr h1, (wo_fw h hx hc).mpr h2, r⟩
theorem wo_walks (h : BkOk B) (p : PlnB B) (hx : ∀ f ∈ B.unions, x ∉ f) : ∃ d, Walks (wo B x) d ∧ m_depths (bkT (wo B x)) = pu (depT (wo B x) d) := by
  obtain ⟨names, pm, one, dj, hh⟩ := p
  have hw := wo_ok h hx
  refine walks_of hw ⟨names.filter fun n => decide (n ≠ x), ?_, one.sublist (List.filter_sublist.map _), fun b hb hc => dj b (List.mem_filter.mp hb).1 (List.mem_filter.mp hc).1, fun b hb => ?_⟩
  · have e : (wo B x).names = B.names.filter fun n => decide (n ≠ x) := by
      show (B.folk.filter _).map _ = (B.folk.map _).filter _
      rw [List.filter_map]
      rfl
    rw [e]
    exact pm.filter _
  · obtain ⟨hb', ne⟩ : b ∈ B.births ++ B.adopts ∧ b.1 ≠ x := by
      rcases List.mem_append.mp hb with k | k
      · exact ⟨List.mem_append_left _ (List.mem_filter.mp k).1, of_decide_eq_true (List.mem_filter.mp k).2⟩
      · exact ⟨List.mem_append_right _ (List.mem_filter.mp k).1, of_decide_eq_true (List.mem_filter.mp k).2⟩
    obtain ⟨j, h1, h2⟩ := hh b hb'
    have nx : x ∉ b.2 := hx _ (by
      rcases List.mem_append.mp hb' with k | k
      · exact (h.bi _ k).fam
      · exact (h.ad _ k).fam)
    have hs : names = names.take j ++ b.1 :: names.drop (j + 1) := by
      obtain ⟨hj, e⟩ := List.getElem?_eq_some_iff.mp h1
      rw [← e, ← List.drop_eq_getElem_cons hj, List.take_append_drop]
    have e : (names.filter fun n => decide (n ≠ x)) = ((names.take j).filter fun n => decide (n ≠ x)) ++ b.1 :: ((names.drop (j + 1)).filter fun n => decide (n ≠ x)) := by
      conv => lhs; rw [hs]
      rw [List.filter_append, List.filter_cons, if_pos (decide_eq_true ne)]
    refine ⟨((names.take j).filter fun n => decide (n ≠ x)).length, ?_, fun y hy => ?_⟩
    · rw [e, List.getElem?_append_right (Nat.le_refl _), Nat.sub_self]
      rfl
    · rw [e, List.take_left]
      exact List.mem_filter.mpr ⟨h2 y hy, decide_eq_true fun k => nx (k ▸ hy)⟩
theorem without_eq (h : BkOk B) (hx : ∀ f ∈ B.unions, x ∉ f) : m_law_without (bkT B) (.str x) = pu (bkT (wo B x)) := by
  have hs := sizeLine_eq
  have lf := h.lf
  have lu := h.lu
  have lb := h.lb
  have la := h.la
  have i0 : ixT emp (bkT B) (.int 0) = some (.tup (B.folk.map fkT)) := rfl
  have i1 : ixT emp (bkT B) (.int 1) = some (.tup (B.unions.map famT)) := rfl
  have i2 : ixT emp (bkT B) (.int 2) = some (.tup (B.births.map kinT)) := rfl
  have i3 : ixT emp (bkT B) (.int 3) = some (.tup (B.adopts.map kinT)) := rfl
  have j0 : ∀ a : Nm × Nm, ixT emp (fkT a) (.int 0) = some (.str a.1) := fun _ => rfl
  have j1 : ∀ b : Nm × List Nm, ixT emp (kinT b) (.int 0) = some (.str b.1) := fun _ => rfl
  have nn : ∀ f ∈ B.unions, ninT emp (.str x) (famT f) = some (.bl true) := fun f hf => by
    rw [ninT_fam, decide_eq_false (hx f hf)]
    rfl
  unfold m_law_without
  simp_arith [i0, i1, i2, i3, j0, j1, compG_map]
  have c1 : ∀ a : Nm, (decide (a = x) = false) = (a ≠ x) := fun a => propext decide_eq_false_iff_not
  rw [gdc_b (by omega), compA_congr (g := fun f => pu (some (famT f))) (fun f hf => by rw [nn f hf]; rfl), compA_pu, pu_bd]
  simp only [c1, compA_ifo, pu_bd]
  rw [gdc_b (by omega), gdc_b (by omega), gdc_b (by omega)]
  rfl
end
theorem walks_ren {B : Bk} {F : Nm → Nm} (h : BkOk B) (inj : ∀ a ∈ B.names, ∀ b ∈ B.names, F a = F b → a = b) (hC : BkOk (B.ren F)) (p : PlnB B) : ∃ d, Walks (B.ren F) d ∧ m_depths (bkT (B.ren F)) = pu (depT (B.ren F) d) := by
  obtain ⟨names, pm, one, dj, hh⟩ := p
  have kf : ∀ {b}, b ∈ B.births ++ B.adopts → KinOk B.names B.unions b := fun hb => by
    rcases List.mem_append.mp hb with z | z
    · exact h.bi _ z
    · exact h.ad _ z
  refine walks_of hC ⟨names.map F, ?_, ?_, ?_, ?_⟩
  · have e : (B.ren F).names.Perm (B.names.map F) := by
      show ((srt fkT (B.folk.map fun p => (F p.1, p.2))).map (·.1)).Perm _
      refine ((srt_perm _).map _).trans ?_
      show (List.map _ (List.map _ B.folk)).Perm (List.map _ (List.map _ B.folk))
      rw [List.map_map, List.map_map]
      exact .refl _
    exact e.trans (pm.map F)
  · have e : ((B.ren F).births.map (·.1)).Perm ((B.births.map (·.1)).map F) := by
      show ((srt kinT (B.births.map fun b => (F b.1, renF F b.2))).map (·.1)).Perm _
      refine ((srt_perm _).map _).trans ?_
      rw [List.map_map, List.map_map]
      exact .refl _
    exact e.nodup_iff.mpr (nodup_mapOn (fun a ha b hb => by
      obtain ⟨x, hx, rfl⟩ := List.mem_map.mp ha
      obtain ⟨y, hy, rfl⟩ := List.mem_map.mp hb
      exact inj _ (h.bi _ hx).kid _ (h.bi _ hy).kid) one)
  · rintro ⟨c, f⟩ hb hc
    obtain ⟨b, hb, e1, e2⟩ := ren_births.mp hb
    obtain ⟨a, ha, e3, e4⟩ := ren_adopts.mp hc
    have e5 : a = b := Prod.ext (inj _ (h.ad _ ha).kid _ (h.bi _ hb).kid (e3.trans e1.symm)) (renF_inj h inj (h.un _ (h.ad _ ha).fam) (h.un _ (h.bi _ hb).fam) (e4.trans e2.symm))
    exact dj b hb (e5 ▸ ha)
  · rintro ⟨c, f⟩ hb
    obtain ⟨b, hb', e1, e2⟩ := ren_kins.mp hb
    subst e1 e2
    obtain ⟨j, h1, h2⟩ := hh b hb'
    refine ⟨j, by rw [List.getElem?_map, h1]; rfl, fun x hx => ?_⟩
    obtain ⟨y, hy, rfl⟩ := renF_mem.mp hx
    rw [← List.map_take]
    exact List.mem_map_of_mem (h2 y hy)
theorem compA_of {κ α : Type} {f : α → PM κ (Option T)} {p : α → Bool} {g : α → T} : ∀ (xs : List α), (∀ x ∈ xs, f x = pu (if p x = true then some (g x) else none)) → TL.compA f xs = pu ((xs.filter p).map g)
  | [], _ => rfl
  | x :: xs, h => by
    rw [compA_cons, h x (.head _), nox_pu, pu_bd, compA_of xs fun y hy => h y (.tail _ hy), pu_bd, List.filter_cons]
    by_cases z : p x = true
    · rw [if_pos z, if_pos z]; rfl
    · rw [if_neg z, if_neg z]; rfl
theorem fn_of : ∀ {xs ys : List Nm}, xs.Nodup → xs.length = ys.length → ∃ F : Nm → Nm, ys = xs.map F
  | [], [], _, _ => ⟨id, rfl⟩
  | [], _ :: _, _, l => by simp at l
  | _ :: _, [], _, l => by simp at l
  | x :: xs, y :: ys, nd, l => by
    obtain ⟨h1, h2⟩ := List.nodup_cons.mp nd
    obtain ⟨F, e⟩ := fn_of h2 (by simpa using l)
    refine ⟨fun n => if n = x then y else F n, ?_⟩
    rw [List.map_cons, if_pos rfl, e]
    congr 1
    refine List.map_congr_left fun n hn => ?_
    rw [if_neg fun z : n = x => h1 (z ▸ hn)]
theorem ix_last {ys : List T} {z : T} : ixT emp (.tup (ys ++ [z])) (.int (-1)) = some z := by
  rw [ixT_tup]
  unfold L2.atI L2.ixN
  rw [List.length_append, List.length_singleton, if_neg (by omega), if_pos (by omega), Option.bind_some]
  rw [show (-1 + ((ys.length + 1 : Nat) : Int)).toNat = ys.length by omega]
  simp
theorem elders_eq {κ : Type} : ∀ (fs : List (List Nm)) (acc : List Nm), (∀ f ∈ fs, f.length ≤ 2) → acc.length + 2 * fs.length ≤ 1000 → forA (κ := κ) (fun f s => bd (ofO (listF emp [famT f])) fun v => ofO (addT emp s v)) fs (.lst (acc.map T.str)) = pu (.lst ((acc ++ fs.flatten).map T.str))
  | [], acc, _, _ => by rw [List.flatten_nil, List.append_nil]; rfl
  | f :: fs, acc, h2, l => by
    have hs := sizeLine_eq
    have l2 := h2 f (.head _)
    rw [List.length_cons] at l
    have e : listF emp [famT f] = some (.lst (f.map T.str)) := rfl
    show bd (bd (ofO (listF emp [famT f])) fun v => ofO (addT emp _ v)) _ = _
    rw [e, ofO_some, pu_bd, addT_lst, if_pos (by rw [List.length_map, List.length_map]; omega), ofO_some, pu_bd, ← List.map_append]
    rw [elders_eq fs (acc ++ f) (fun g hg => h2 g (.tail _ hg)) (by rw [List.length_append]; omega), List.append_assoc]
    rfl
theorem elders0 {κ : Type} {fs : List (List Nm)} (h2 : ∀ f ∈ fs, f.length ≤ 2) (l : fs.length ≤ 16) : forA (κ := κ) (fun f s => bd (ofO (listF emp [famT f])) fun v => ofO (addT emp s v)) fs (.lst []) = pu (.lst (fs.flatten.map T.str)) := elders_eq fs [] h2 (by rw [List.length_nil]; omega)
theorem ke_ii : KE fun p : Nat × Nat => T.tup [.int (p.1 : Nat), .int (p.2 : Nat)] := ⟨fun a b h => by
  injection h with h
  injection h with h1 h2
  injection h2 with h2 _
  injection h1 with h1
  injection h2 with h2
  exact Prod.ext (Int.ofNat.inj h1) (Int.ofNat.inj h2), fun _ => rfl, fun _ => by show 1 ≤ 8; omega, fun _ _ => rfl⟩
/-- one tie among those told of a child and a parent -/
theorem one_up {B : Bk} {d : Nm → Nat} (W : Walks B d) (hd : m_depths (bkT B) = pu (depT B d)) {b : Nm × List Nm} (hb : b ∈ B.births ++ B.adopts) {p : Nm} (hp : p ∈ b.2) : ∃ ts : List Tie, m_ties (bkT B) (.str b.1) (.str p) = pu (.tup (ts.map tieT)) ∧ ts.length ≤ 1156 ∧ ∃ h x, ((1, 0, h, x) : Tie) ∈ ts := by
  have h := W.ok
  obtain ⟨k, bo, hs⟩ : KinOk B.names B.unions b ∧ ∃ bo, (b.2, bo) ∈ stps B b.1 := by
    rcases List.mem_append.mp hb with z | z
    · exact ⟨h.bi _ z, true, mem_stps.mpr (.inl ⟨rfl, z⟩)⟩
    · exact ⟨h.ad _ z, false, mem_stps.mpr (.inr ⟨rfl, z⟩)⟩
  have hpn := (h.un _ k.fam).mem _ hp
  have ne : b.1 ≠ p := fun e => k.own (e ▸ hp)
  obtain ⟨ts, t1, t2, t3⟩ := ties_eq W hd ne k.kid hpn
  refine ⟨_, t1, by rw [srt_len]; exact tl_len W t2 t3, _, _, srt_mem.mpr ((t3 _).mpr ⟨[(p, b.2, bo)], [], ⟨hs, hp, trivial⟩, trivial, rfl, fun u hu hv => ?_, rfl⟩)⟩
  exact List.mem_singleton.mp hv
theorem un4_tie (t : Tie) : un4 (tieT t) = some (.int (t.1 : Nat), .int (t.2.1 : Nat), .int (t.2.2.1 : Nat), .str (byT t.2.2.2)) := rfl
theorem law_true : ∀ c, PenC 0 c → ∃ k, m_the_law c = .ok (.bl true) k := HT.law (d := 900000000) (by
  have hs := sizeLine_eq
  unfold m_the_law
  simp_arith []
  refine HT.le (HT.bd (d1 := 2000) (d2 := 800000) (drawn_book_ht (most := 16) (rate := 2) (by omega) (by omega) (by omega)) ?_) (by omega)
  rintro v ⟨B, rfl, hB, pl, ne, ln⟩
  have lf := hB.lf
  have lu := hB.lu
  have nl : B.names.length ≤ 16 := by unfold Bk.names; rw [List.length_map]; exact hB.lf
  have i0 : ixT emp (bkT B) (.int 0) = some (.tup (B.folk.map fkT)) := rfl
  have i1 : ixT emp (bkT B) (.int 1) = some (.tup (B.unions.map famT)) := rfl
  have i2 : ixT emp (bkT B) (.int 2) = some (.tup (B.births.map kinT)) := rfl
  have i3 : ixT emp (bkT B) (.int 3) = some (.tup (B.adopts.map kinT)) := rfl
  have un : ∀ a : Nm × Nm, un2 (fkT a) = some (.str a.1, .str a.2) := fun _ => rfl
  have uk : ∀ a : Nm × List Nm, un2 (kinT a) = some (.str a.1, famT a.2) := fun _ => rfl
  obtain ⟨d, W, hd⟩ := walks_of hB pl
  simp_arith [i0, un]
  rw [gdc_b (by omega), show (B.folk.map fun a => T.str a.1) = B.names.map T.str by show _ = (B.folk.map (·.1)).map T.str; rw [List.map_map]; rfl]
  rw [List.length_map]
  refine HT.le (HT.bd (d1 := 100) (d2 := 100000) (drawn_names_ht (many := B.names.length) (by omega)) ?_) (by omega)
  rintro v ⟨ns, rfl, nd, ok, lns⟩
  obtain ⟨F, eF⟩ := fn_of hB.nd lns.symm
  subst eF
  have inj : ∀ a ∈ B.names, ∀ b ∈ B.names, F a = F b → a = b := inj_of_nodup nd
  have hC : BkOk (B.ren F) := hB.ren inj fun n hn => ok _ (List.mem_map_of_mem hn)
  have z1 := dzip_strs (F := fun n => T.str (F n)) hB.nd
  have dg : ∀ {n}, n ∈ B.names → dgT emp (.dct false (B.names.map T.str) (B.names.map fun n => T.str (F n))) (.str n) = some (.str (F n)) := fun hn => dgT_strs (F := fun n => T.str (F n)) hn
  rw [List.map_map, show (T.str ∘ F) = fun n => T.str (F n) from rfl, z1, ofO_some, pu_bd, renamed_eq hB, lft_pu, pu_bd]
  generalize hD : T.dct false (B.names.map T.str) (B.names.map fun n => T.str (F n)) = D at dg ⊢
  obtain ⟨dC, WC, hdC⟩ : ∃ d, Walks (B.ren F) d ∧ m_depths (bkT (B.ren F)) = pu (depT (B.ren F) d) := walks_ren hB inj hC pl
  simp_arith [i1, i2, i3]
  rw [elders0 (fun f hf => (hB.un f hf).hi) (by omega), pu_bd, gdc_b (by omega)]
  simp_arith [ninT_strs]
  obtain ⟨L, hL⟩ : ∃ L : List Nm, L = (B.folk.filter fun a => decide (decide (a.1 ∈ B.unions.flatten) = false)).map (·.1) := ⟨_, rfl⟩
  have hLm : ∀ x ∈ L, x ∈ B.names ∧ ∀ f ∈ B.unions, x ∉ f := fun x hx => by
    rw [hL] at hx
    obtain ⟨p, hp, rfl⟩ := List.mem_map.mp hx
    obtain ⟨h1, h2⟩ := List.mem_filter.mp hp
    exact ⟨List.mem_map_of_mem h1, fun f hf hz => (of_decide_eq_false (of_decide_eq_true h2)) (List.mem_flatten.mpr ⟨f, hf, hz⟩)⟩
  have lL : L.length ≤ 16 := by rw [hL, List.length_map]; exact Nat.le_trans (List.length_filter_le _ _) hB.lf
  have lb := hB.lb
  have la := hB.la
  rw [compA_ifo, pu_bd, gdc_b (by rw [List.length_map, List.length_map]; omega), show cutT (List.map kinT B.births ++ List.map kinT B.adopts) none (some 8) = _ from cut_to _ 8]
  rw [show (List.map (fun a : Nm × Nm => T.str a.fst) (B.folk.filter fun a => decide (decide (a.1 ∈ B.unions.flatten) = false))) = L.map T.str by rw [hL, List.map_map]; rfl]
  rw [forR_all fun x hx => ?_, pu_bd, sum_inl]
  rotate_left
  · have hx := List.mem_of_mem_take hx
    rw [← List.map_append] at hx
    obtain ⟨b, hb, rfl⟩ := List.mem_map.mp hx
    have hk := hB.kin hb
    have hf := hB.un _ hk.fam
    obtain ⟨ys, z, e⟩ : ∃ ys z, b.2 = ys ++ [z] := by
      rcases List.eq_nil_or_concat b.2 with e | ⟨ys, z, e⟩
      · have := hf.lo
        rw [e] at this
        cases this
      · exact ⟨ys, z, by rw [e]; simp⟩
    obtain ⟨ts, t1, t2, hh, xx, t3⟩ := one_up W hd hb (p := z) (by rw [e]; simp)
    have il : ixT emp (famT b.2) (.int (-1)) = some (.str z) := by
      unfold famT
      rw [e, List.map_append]
      exact ix_last
    have s2 : ∀ t : Tie, slT emp (tieT t) none (some 2) = some (.tup [.int (t.1 : Nat), .int (t.2.1 : Nat)]) := fun _ => rfl
    have q2 : ∀ t : Tie, TL.eqT emp (.tup [.int (t.1 : Nat), .int (t.2.1 : Nat)]) (.tup [.int 1, .int 0]) = some (.bl (decide ((t.1, t.2.1) = (1, 0)))) := fun t => ke_ii.eqT (t.1, t.2.1) (1, 0)
    simp_arith [uk, il, t1, s2, q2, compG_map]
    rw [gdc_b (by omega), compA_ifo, pu_bd]
    have ne : (ts.filter fun t => decide ((t.1, t.2.1) = (1, 0))) ≠ [] := fun z => by
      have : ((1, 0, hh, xx) : Tie) ∈ ts.filter fun t => decide ((t.1, t.2.1) = (1, 0)) := List.mem_filter.mpr ⟨t3, decide_eq_true rfl⟩
      rw [z] at this
      cases this
    have en : ∀ us : List Tie, TL.eqT emp (.lst (us.map tieT)) (.lst []) = some (.bl us.isEmpty) := fun us => eqT_nilL ke_tie
    rw [en, ofO_some, pu_bd, tb_bl, pu_bd, if_neg (fun z => ne (List.isEmpty_iff.mp z))]
  by_cases q : 1 < B.names.length
  · rw [if_pos (by omega), gdc_b (by decide), rng1_int (by omega)]
    simp_arith []
    refine HT.le (d := 0 + 4 * 100) (HT.bd (d1 := 4 * 100) (d2 := 0) (P := fun r => ∃ s' : Unit, r = .inl s' ∧ True) ((HT.forRN 100 4 (fun _ _ => True) (by rw [List.length_range]; omega) trivial ?_).mono fun r ⟨s', e, _⟩ => ⟨s', e, trivial⟩) ?_) (by omega)
    · rintro x xs s _
      refine HT.le (d := 80 + 1) (HT.drawB (by omega) (by omega) fun i j0 j1 => ?_) (by omega)
      simp_arith []
      refine HT.le (d := 70 + 1) (HT.drawB (by omega) (by omega) fun j k0 k1 => ?_) (by omega)
      simp_arith []
      obtain ⟨mo, m0, m1, m2⟩ := far_of j0 j1 k0 k1
      obtain ⟨a, c, ha, hc, hac, e1, e2⟩ := two_names hB.nd j0 j1 m0 m1 m2
      obtain ⟨ts, t1, t2, t3⟩ := ties_eq W hd hac ha hc
      obtain ⟨us, u1, u2, u3⟩ := ties_eq W hd (fun z => hac z.symm) hc ha
      obtain ⟨vs, v1, v2, v3⟩ := ties_eq WC hdC (fun z => hac (inj _ ha _ hc z)) (ren_mem ha) (ren_mem hc)
      have lts := tl_len W t2 t3
      have ev : srt tieT vs = srt tieT ts := srt_same v2 t2 fun t => (v3 t).trans ((ren_tl hB inj ha hc).trans (t3 t).symm)
      have sw2 : ∀ t, swQ (swQ t) = t := fun _ => rfl
      have eu : srt tieT us = srt tieT ((srt tieT ts).map swQ) := by
        refine srt_same u2 (nodup_mapOn (fun a _ b _ e => by rw [← sw2 a, e, sw2]) ((srt_perm ts).nodup_iff.mpr t2)) fun t => ?_
        rw [u3, List.mem_map]
        constructor
        · intro h
          exact ⟨swQ t, srt_mem.mpr ((t3 _).mpr (tl_comm.mp h)), rfl⟩
        · rintro ⟨s, hs, rfl⟩
          exact tl_comm.mpr ((t3 _).mp (srt_mem.mp hs))
      have so := (se_tie.sorted (xs := (srt tieT ts).map swQ) (fun _ _ => trivial) (by rw [List.length_map, srt_len]; omega)).1
      have ce : compG (κ := Cell) (fun x125 => bd (ofO (un4 x125)) fun b126 => pu (some (T.tup [b126.snd.fst, b126.fst, b126.snd.snd.fst, b126.snd.snd.snd]))) ((srt tieT ts).map tieT) = pu (((srt tieT ts).map swQ).map tieT) := by
        rw [compG_map, gdc_b (by rw [srt_len]; omega), compA_congr (g := fun t => pu (some (tieT (swQ t)))) (fun t _ => by rw [un4_tie, ofO_some, pu_bd]; rfl), compA_pu, List.map_map]
        rfl
      rw [e1, ofO_some, pu_bd, gdc_b mo, e2, ofO_some, pu_bd, t1, lft_pu, pu_bd, u1, lft_pu, pu_bd, itemsM_tup, pu_bd, ce, pu_bd, so, ofO_some, pu_bd, tupleF_lst, ofO_some, pu_bd, eu, (neT_tup ke_tie _).1, ofO_some, pu_bd, tb_bl, pu_bd, if_neg (by simp), dg ha, ofO_some, pu_bd, dg hc, ofO_some, pu_bd, v1, lft_pu, pu_bd, ev, (neT_tup ke_tie _).1, ofO_some, pu_bd, tb_bl, pu_bd, if_neg (by simp)]
      have nn : ∀ x, ninT emp (.str x) (.tup [.str a, .str c]) = some (.bl (!decide (x ∈ [a, c]))) := fun x => ninT_strsT (xs := [a, c])
      rw [gdc_b (by omega), compA_of (p := fun x => !decide (x ∈ [a, c])) (g := T.str) L fun x _ => by rw [nn, ofO_some, pu_bd, tb_bl, pu_bd], pu_bd]
      obtain ⟨M, hM⟩ : ∃ M, M = L.filter fun x => !decide (x ∈ [a, c]) := ⟨_, rfl⟩
      have hMm : ∀ x ∈ M, x ∈ L ∧ a ≠ x ∧ c ≠ x := fun x hx => by
        rw [hM] at hx
        obtain ⟨h1, h2⟩ := List.mem_filter.mp hx
        have h2 : x ∉ [a, c] := by simpa using h2
        exact ⟨h1, fun e => h2 (e ▸ .head _), fun e => h2 (e ▸ .tail _ (.head _))⟩
      have lM : M.length ≤ 16 := by rw [hM]; exact Nat.le_trans (List.length_filter_le _ _) lL
      rw [← hM, neT_nilL ke_str, ofO_some, pu_bd, tb_bl, pu_bd]
      by_cases z : M = []
      · rw [if_neg (by rw [z]; simp)]
        refine HT.le (d := 0) (HT.pu ⟨(), rfl, trivial⟩) (by omega)
      · have lp : 0 < M.length := List.length_pos_iff.mpr z
        rw [if_pos (by cases M with | nil => exact absurd rfl z | cons _ _ => rfl), List.length_map]
        refine HT.le (d := 10 + 1) (HT.drawB (by omega) (by omega) fun i i0 i1 => ?_) (by omega)
        obtain ⟨n, rfl⟩ := Int.eq_ofNat_of_zero_le i0
        have hn : n < M.length := by omega
        have hx := hMm _ (List.getElem_mem hn)
        have e3 : ixT emp (.lst (M.map T.str)) (.int (n : Nat)) = some (.str M[n]) := by
          rw [ixT_lst, atI_natE]
          simp [hn]
        obtain ⟨_, hu⟩ := hLm _ hx.1
        obtain ⟨dw, Ww, hdw⟩ := wo_walks (x := M[n]) hB pl hu
        obtain ⟨ws, w1, w2, w3⟩ := ties_eq Ww hdw hac (wo_names.mpr ⟨ha, hx.2.1⟩) (wo_names.mpr ⟨hc, hx.2.2⟩)
        have ew : srt tieT ws = srt tieT ts := srt_same w2 t2 fun t => (w3 t).trans ((wo_tl hB hu hx.2.1 hx.2.2).trans (t3 t).symm)
        rw [e3, ofO_some, pu_bd, without_eq hB hu, lft_pu, pu_bd, w1, lft_pu, pu_bd, ew, (neT_tup ke_tie _).1, ofO_some, pu_bd, tb_bl, pu_bd, if_neg (by simp)]
        exact HT.le (d := 0) (HT.pu ⟨(), rfl, trivial⟩) (by omega)
    · rintro r ⟨s', rfl, _⟩
      simp_arith []
      exact HT.pu rfl
  · rw [if_neg (by omega), gdc_b (by decide), rng1_int (by omega)]
    simp_arith []
    exact HT.le (d := 0) (HT.pu rfl) (by omega)) (by omega)

end K31
namespace K31
open PySem PySem.Spec PyProof.Rows TL
open L2 hiding putF
/-- what the head tells -/
structure Zx (K : PySem.W.Frag) (mg : Str → Option Value) : Prop where
  b_abs : mg "abs" = none
  b_dict : mg "dict" = none
  b_enumerate : mg "enumerate" = none
  b_int : mg "int" = none
  b_len : mg "len" = none
  b_list : mg "list" = none
  b_max : mg "max" = none
  b_range : mg "range" = none
  b_set : mg "set" = none
  b_sorted : mg "sorted" = none
  b_tuple : mg "tuple" = none
  b_zip : mg "zip" = none
  f_families_of : ∃ fd, FunD K "families_of" "families_of" (defArgs s_families_of) (defBody s_families_of) (defScope s_families_of) [] [] (He.ga K "families_of") fd
  g_families_of : mg "families_of" = some (.ref (He.ga K "families_of"))
  f_depths : ∃ fd, FunD K "depths" "depths" (defArgs s_depths) (defBody s_depths) (defScope s_depths) [] [] (He.ga K "depths") fd
  g_depths : mg "depths" = some (.ref (He.ga K "depths"))
  f_End___init__ : ∃ fd, FunD K "__init__" "End.__init__" (defArgs s_End___init__) (defBody s_End___init__) (defScope s_End___init__) [] [] (He.ma K (He.ga K "End") "__init__") fd
  f_Walk_meets : ∃ fd, FunD K "meets" "Walk.meets" (defArgs s_Walk_meets) (defBody s_Walk_meets) (defScope s_Walk_meets) [] [] (He.ma K (He.ga K "Walk") "meets") fd
  f_Walk_go : ∃ fd, FunD K "go" "Walk.go" (defArgs s_Walk_go) (defBody s_Walk_go) (defScope s_Walk_go) [] [] (He.ma K (He.ga K "Walk") "go") fd
  f_Walk_go_on : ∃ fd, FunD K "go_on" "Walk.go_on" (defArgs s_Walk_go_on) (defBody s_Walk_go_on) (defScope s_Walk_go_on) [] [] (He.ma K (He.ga K "Walk") "go_on") fd
  f_Walk_told : ∃ fd, FunD K "told" "Walk.told" (defArgs s_Walk_told) (defBody s_Walk_told) (defScope s_Walk_told) [] [] (He.ma K (He.ga K "Walk") "told") fd
  f_Walk___init__ : ∃ fd, FunD K "__init__" "Walk.__init__" (defArgs s_Walk___init__) (defBody s_Walk___init__) (defScope s_Walk___init__) [] [] (He.ma K (He.ga K "Walk") "__init__") fd
  f_ties : ∃ fd, FunD K "ties" "ties" (defArgs s_ties) (defBody s_ties) (defScope s_ties) [] [] (He.ga K "ties") fd
  g_ties : mg "ties" = some (.ref (He.ga K "ties"))
  f_law_pen_of : ∃ fd, FunD K "_law_pen_of" "_law_pen_of" (defArgs s_law_pen_of) (defBody s_law_pen_of) (defScope s_law_pen_of) [] [] (He.ga K "_law_pen_of") fd
  g_law_pen_of : mg "_law_pen_of" = some (.ref (He.ga K "_law_pen_of"))
  f_law_draw : ∃ fd, FunD K "_law_draw" "_law_draw" (defArgs s_law_draw) (defBody s_law_draw) (defScope s_law_draw) [] [] (He.ga K "_law_draw") fd
  g_law_draw : mg "_law_draw" = some (.ref (He.ga K "_law_draw"))
  f_law_drawn_names : ∃ fd, FunD K "_law_drawn_names" "_law_drawn_names" (defArgs s_law_drawn_names) (defBody s_law_drawn_names) (defScope s_law_drawn_names) [] [] (He.ga K "_law_drawn_names") fd
  g_law_drawn_names : mg "_law_drawn_names" = some (.ref (He.ga K "_law_drawn_names"))
  f_law_drawn_family : ∃ fd, FunD K "_law_drawn_family" "_law_drawn_family" (defArgs s_law_drawn_family) (defBody s_law_drawn_family) (defScope s_law_drawn_family) [] [] (He.ga K "_law_drawn_family") fd
  g_law_drawn_family : mg "_law_drawn_family" = some (.ref (He.ga K "_law_drawn_family"))
  f_law_drawn_book : ∃ fd, FunD K "_law_drawn_book" "_law_drawn_book" (defArgs s_law_drawn_book) (defBody s_law_drawn_book) (defScope s_law_drawn_book) [] [] (He.ga K "_law_drawn_book") fd
  g_law_drawn_book : mg "_law_drawn_book" = some (.ref (He.ga K "_law_drawn_book"))
  f_law_without : ∃ fd, FunD K "_law_without" "_law_without" (defArgs s_law_without) (defBody s_law_without) (defScope s_law_without) [] [] (He.ga K "_law_without") fd
  g_law_without : mg "_law_without" = some (.ref (He.ga K "_law_without"))
  f_law_renamed : ∃ fd, FunD K "_law_renamed" "_law_renamed" (defArgs s_law_renamed) (defBody s_law_renamed) (defScope s_law_renamed) [] [] (He.ga K "_law_renamed") fd
  g_law_renamed : mg "_law_renamed" = some (.ref (He.ga K "_law_renamed"))
  f_the_law : ∃ fd, FunD K "law" "law" (defArgs s_the_law) (defBody s_the_law) (defScope s_the_law) [] [] (He.ga K "law") fd
  g_the_law : mg "law" = some (.ref (He.ga K "law"))
  c_End : Cls K (He.ga K "End")
  na_End_name : NoAttr K (He.ga K "End") "name"
  na_End_family : NoAttr K (He.ga K "End") "family"
  na_End_steps : NoAttr K (He.ga K "End") "steps"
  mk_End : Mk K (He.ga K "End") (He.ma K (He.ga K "End") "__init__")
  gm_End : mg "End" = some (.ref (He.ga K "End"))
  c_Walk : Cls K (He.ga K "Walk")
  na_Walk_depth : NoAttr K (He.ga K "Walk") "depth"
  na_Walk_families : NoAttr K (He.ga K "Walk") "families"
  na_Walk_met : NoAttr K (He.ga K "Walk") "met"
  na_Walk_found : NoAttr K (He.ga K "Walk") "found"
  mk_Walk : Mk K (He.ga K "Walk") (He.ma K (He.ga K "Walk") "__init__")
  gm_Walk : mg "Walk" = some (.ref (He.ga K "Walk"))
  me_Walk_meets : Meth K (He.ga K "Walk") "meets" (He.ma K (He.ga K "Walk") "meets")
  me_Walk_go : Meth K (He.ga K "Walk") "go" (He.ma K (He.ga K "Walk") "go")
  me_Walk_go_on : Meth K (He.ga K "Walk") "go_on" (He.ma K (He.ga K "Walk") "go_on")
  me_Walk_told : Meth K (He.ga K "Walk") "told" (He.ma K (He.ga K "Walk") "told")
  tb : tblB K "_law_renamed" = true
theorem vc_the_law (Pt : Addr) (cells : List (Str × Addr)) : VC N_the_law (sp_the_law Pt) (c_the_law Pt cells) := vc_lawT (fun S pa a hP hn => x_the_law S pa a Pt cells hP hn) law_true
section
variable {P : Program} {w : World} {K : PySem.W.Frag} {mg : Str → Option Value} {base : Heap}
theorem sc_families_of : FnScope N_families_of (["book", "name"] : List Str) (defScope s_families_of) := ⟨rfl, rfl, rfl, by decide +kernel, rfl, by decide +kernel, by decide +kernel⟩
theorem ok_families_of (Z : Zx K mg) : Okf P w K mg base 1 "families_of" (["book", "name"] : List Str) sp_families_of := by
  obtain ⟨fd, F⟩ := Z.f_families_of
  have hb : ∀ (cdv : Value) (A : Around) (outer : List Env) (s : Shared) (H : Hp) (E : XK), Room 0 (A.deeper (envOfC "families_of" (defScope s_families_of) s.heap.objs.size (He.ga K "families_of") cdv)) → TSs (cxOf (L2N.CX P w) P w K mg base N_families_of "families_of" (defScope s_families_of) (He.ga K "families_of") cdv A outer s H E) (defBody s_families_of) c_families_of := fun cdv A outer s H E hr =>
    (tss_cons (ts_setComp (i := 2) rfl sc_families_of.nd rfl rfl rfl (ti_seq (te_ix (te_var (i := 0) rfl (.inl rfl)) te_int)) (ow := [("child", 3), ("family", 4)]) (blkOk_by (by kernel_rfl)) (fun _ _ _ _ _ => (tg_tup rfl (n := 2) (tgs_cons (tg_name (i := 3) (by decide) sc_families_of.nd rfl (.inl rfl)) (tgs_cons (tg_name (i := 4) (by decide) sc_families_of.nd rfl (.inl rfl)) tgs_nil)) rfl rfl (takes_c (takes_c takes_z)))) (fun _ _ _ _ _ => (tbs_one (tb_cmp (op_eqT (u64 hr)) (te_var (i := 3) rfl (.inl rfl)) (te_var (i := 1) rfl (.inr (.inl rfl))) rfl))) (fun _ _ _ _ _ => (te_tup (ta_cons (te_var (i := 4) rfl (.inl rfl)) (ta_cons te_bl ta_nil)))))
      (tss_cons (ts_ret (te_bin op_addT (te_var (i := 2) rfl (.inl rfl)) (te_comp rfl sc_families_of.nd (ti_seq (te_ix (te_var (i := 0) rfl (.inl rfl)) te_int)) (ow := [("child", 3), ("family", 4)]) (blkOk_by (by kernel_rfl)) (fun _ _ _ _ _ => (tg_tup rfl (n := 2) (tgs_cons (tg_name (i := 3) (by decide) sc_families_of.nd rfl (.inl rfl)) (tgs_cons (tg_name (i := 4) (by decide) sc_families_of.nd rfl (.inl rfl)) tgs_nil)) rfl rfl (takes_c (takes_c takes_z)))) (fun _ _ _ _ _ => (tbs_one (tb_cmp (op_eqT (u64 hr)) (te_var (i := 3) rfl (.inl rfl)) (te_var (i := 1) rfl (.inr (.inl rfl))) rfl))) (fun _ _ _ _ _ => (te_tup (ta_cons (te_var (i := 4) rfl (.inl rfl)) (ta_cons te_bl ta_nil)))))))
      tss_nil))
  exact ⟨fd, fn_t F sc_families_of len_families_of hb vc_families_of, Z.g_families_of, F.kp, F.bindsN fun _ _ _ _ _ _ us hl => match us, hl with | [_, _], _ => rfl⟩
theorem sc_depths : FnScope N_depths (["book"] : List Str) (defScope s_depths) := ⟨rfl, rfl, rfl, by decide +kernel, rfl, by decide +kernel, by decide +kernel⟩
theorem ok_depths (Z : Zx K mg) : Okf P w K mg base 1 "depths" (["book"] : List Str) sp_depths := by
  obtain ⟨fd, F⟩ := Z.f_depths
  have hb : ∀ (cdv : Value) (A : Around) (outer : List Env) (s : Shared) (H : Hp) (E : XK), Room 0 (A.deeper (envOfC "depths" (defScope s_depths) s.heap.objs.size (He.ga K "depths") cdv)) → TSs (cxOf (L2N.CX P w) P w K mg base N_depths "depths" (defScope s_depths) (He.ga K "depths") cdv A outer s H E) (defBody s_depths) c_depths := fun cdv A outer s H E hr =>
    (tss_cons (ts_set (i := 1) sc_depths.nd rfl (.inr rfl) (te_dictM rfl (te_comp rfl sc_depths.nd (ti_seq (te_ix (te_var (i := 0) rfl (.inl rfl)) te_int)) (ow := [("name", 6), ("mark", 7)]) (blkOk_by (by kernel_rfl)) (fun _ _ _ _ _ => (tg_tup rfl (n := 2) (tgs_cons (tg_name (i := 6) (by decide) sc_depths.nd rfl (.inl rfl)) (tgs_cons (tg_name (i := 7) (by decide) sc_depths.nd rfl (.inl rfl)) tgs_nil)) rfl rfl (takes_c (takes_c takes_z)))) (fun _ _ _ _ _ => tbs_nil) (fun _ _ _ _ _ => (te_tup (ta_cons (te_var (i := 6) rfl (.inl rfl)) (ta_cons te_int ta_nil))))) rfl Z.b_dict))
      (tss_cons (ts_set (i := 2) sc_depths.nd rfl (.inl rfl) te_bl)
      (tss_cons (ts_while (passes_of rfl) (tb_val (te_var (i := 2) rfl (.inl rfl))) (tss_cons (ts_set (i := 2) sc_depths.nd rfl (.inl rfl) te_bl)
      (tss_cons (ts_for (vs := [3, 4]) (passes_of rfl) rfl (ti_seq (te_bin op_addT (te_ix (te_var (i := 0) rfl (.inl rfl)) te_int) (te_ix (te_var (i := 0) rfl (.inl rfl)) te_int))) (tg_tup rfl (n := 2) (tgs_cons (tg_name (i := 3) (by decide) sc_depths.nd rfl (.inl rfl)) (tgs_cons (tg_name (i := 4) (by decide) sc_depths.nd rfl (.inl rfl)) tgs_nil)) rfl rfl (takes_c (takes_c takes_z))) (tss_cons (ts_set (i := 5) sc_depths.nd rfl (.inl rfl) (te_fnB (fn_max1 rfl) rfl Z.b_max boot_max (ta_cons (te_comp rfl sc_depths.nd (ti_seq (te_var (i := 4) rfl (.inl rfl))) (ow := [("parent", 8)]) (blkOk_by (by kernel_rfl)) (fun _ _ _ _ _ => (tg_name (i := 8) (by decide) sc_depths.nd rfl (.inl rfl))) (fun _ _ _ _ _ => tbs_nil) (fun _ _ _ _ _ => (te_dg (u64 hr) (te_var (i := 1) rfl (.inr (.inl rfl))) (te_var (i := 8) rfl (.inl rfl))))) ta_nil)))
      (tss_cons (ts_if (tb_cmp (op_leT (u64 hr)) (te_dg (u64 hr) (te_var (i := 1) rfl (.inr (.inl rfl))) (te_var (i := 3) rfl (.inl rfl))) (te_var (i := 5) rfl (.inl rfl)) rfl) (tss_cons (ts_dput (u64 hr) (te_var (i := 1) rfl (.inr (.inl rfl))) (te_var (i := 3) rfl (.inl rfl)) (te_bin op_addT (te_var (i := 5) rfl (.inl rfl)) te_int))
      (tss_cons (ts_set (i := 2) sc_depths.nd rfl (.inl rfl) te_bl)
      tss_nil)) tss_nil)
      tss_nil)))
      tss_nil)))
      (tss_cons (ts_ret (te_var (i := 1) rfl (.inr (.inl rfl))))
      tss_nil))))
  exact ⟨fd, fn_t F sc_depths len_depths hb vc_depths, Z.g_depths, F.kp, F.bindsN fun _ _ _ _ _ _ us hl => match us, hl with | [_], _ => rfl⟩
theorem sc_End___init__ : FnScope N_End___init__ (["self", "name", "family", "steps"] : List Str) (defScope s_End___init__) := ⟨rfl, rfl, rfl, by decide +kernel, rfl, by decide +kernel, by decide +kernel⟩
theorem ok_End___init__ (Z : Zx K mg) : Okc P w K mg base 1 "End" (["self", "name", "family", "steps"] : List Str) sp_End___init__ := by
  obtain ⟨fd, F⟩ := Z.f_End___init__
  have hb : ∀ (cdv : Value) (A : Around) (outer : List Env) (s : Shared) (H : Hp) (E : XK), Room 0 (A.deeper (envOfC "End.__init__" (defScope s_End___init__) s.heap.objs.size (He.ma K (He.ga K "End") "__init__") cdv)) → TSs (cxOf (L2N.CX P w) P w K mg base N_End___init__ "End.__init__" (defScope s_End___init__) (He.ma K (He.ga K "End") "__init__") cdv A outer s H E) (defBody s_End___init__) c_End___init__ := fun cdv A outer s H E hr =>
    (tss_cons (ts_fput (fld_ok (.cons ⟨Z.c_End, Z.na_End_name⟩ .nil)) (te_var (i := 0) rfl (.inl rfl)) (te_var (i := 1) rfl (.inl rfl)))
      (tss_cons (ts_fput (fld_ok (.cons ⟨Z.c_End, Z.na_End_family⟩ .nil)) (te_var (i := 0) rfl (.inl rfl)) (te_var (i := 2) rfl (.inl rfl)))
      (tss_cons (ts_fput (fld_ok (.cons ⟨Z.c_End, Z.na_End_steps⟩ .nil)) (te_var (i := 0) rfl (.inl rfl)) (te_var (i := 3) rfl (.inl rfl)))
      tss_nil)))
  exact ⟨fd, fn_t F sc_End___init__ len_End___init__ hb vc_End___init__, Z.mk_End, Z.gm_End, F.bindsN fun _ _ _ _ _ _ us hl => match us, hl with | [_, _, _, _], _ => rfl⟩
theorem sc_Walk_meets : FnScope N_Walk_meets (["self", "one", "other", "step", "by_birth", "turned"] : List Str) (defScope s_Walk_meets) := ⟨rfl, rfl, rfl, by decide +kernel, rfl, by decide +kernel, by decide +kernel⟩
theorem ok_Walk_meets (Z : Zx K mg) : Okm P w K mg base 1 "Walk" "meets" (["self", "one", "other", "step", "by_birth", "turned"] : List Str) sp_Walk_meets := by
  obtain ⟨fd, F⟩ := Z.f_Walk_meets
  have hb : ∀ (cdv : Value) (A : Around) (outer : List Env) (s : Shared) (H : Hp) (E : XK), Room 0 (A.deeper (envOfC "Walk.meets" (defScope s_Walk_meets) s.heap.objs.size (He.ma K (He.ga K "Walk") "meets") cdv)) → TSs (cxOf (L2N.CX P w) P w K mg base N_Walk_meets "Walk.meets" (defScope s_Walk_meets) (He.ma K (He.ga K "Walk") "meets") cdv A outer s H E) (defBody s_Walk_meets) c_Walk_meets := fun cdv A outer s H E hr =>
    (tss_cons (ts_set (i := 6) sc_Walk_meets.nd rfl (.inl rfl) (te_fnT fn_int rfl Z.b_int boot_int (ta_cons (te_and (te_cmp (op_neT (u64 hr)) (te_fld (fld_ok (.cons ⟨Z.c_End, Z.na_End_family⟩ .nil)) (te_var (i := 2) rfl (.inl rfl))) (te_tup ta_nil) rfl) (te_one (te_cmp (op_neT (u64 hr)) (te_fld (fld_ok (.cons ⟨Z.c_End, Z.na_End_family⟩ .nil)) (te_var (i := 2) rfl (.inl rfl))) (te_var (i := 3) rfl (.inl rfl)) rfl))) ta_nil)))
      (tss_cons (ts_set (i := 7) sc_Walk_meets.nd rfl (.inl rfl) (te_tup (ta_cons (te_bin op_addT (te_fld (fld_ok (.cons ⟨Z.c_End, Z.na_End_steps⟩ .nil)) (te_var (i := 1) rfl (.inl rfl))) te_int) (ta_cons (te_fld (fld_ok (.cons ⟨Z.c_End, Z.na_End_steps⟩ .nil)) (te_var (i := 2) rfl (.inl rfl))) ta_nil))))
      (tss_cons (ts_if (tb_val (te_var (i := 5) rfl (.inl rfl))) (tss_cons (ts_set (i := 7) sc_Walk_meets.nd rfl (.inl rfl) (te_tup (ta_cons (te_fld (fld_ok (.cons ⟨Z.c_End, Z.na_End_steps⟩ .nil)) (te_var (i := 2) rfl (.inl rfl))) (ta_cons (te_bin op_addT (te_fld (fld_ok (.cons ⟨Z.c_End, Z.na_End_steps⟩ .nil)) (te_var (i := 1) rfl (.inl rfl))) te_int) ta_nil))))
      tss_nil) tss_nil)
      (tss_cons (ts_tput (u64 hr) (te_fld (fld_ok (.cons ⟨Z.c_Walk, Z.na_Walk_found⟩ .nil)) (te_var (i := 0) rfl (.inl rfl))) (te_bin op_addT (te_var (i := 7) rfl (.inl rfl)) (te_tup (ta_cons (te_var (i := 6) rfl (.inl rfl)) (ta_cons (te_ix (te_lst (ta_cons te_str (ta_cons te_str ta_nil))) (te_fnT fn_int rfl Z.b_int boot_int (ta_cons (te_var (i := 4) rfl (.inl rfl)) ta_nil))) ta_nil)))) te_bl)
      tss_nil))))
  exact ⟨fd, fn_t F sc_Walk_meets len_Walk_meets hb vc_Walk_meets, Z.c_Walk, Z.me_Walk_meets, F.bindsN fun _ _ _ _ _ _ us hl => match us, hl with | [_, _, _, _, _, _], _ => rfl⟩
theorem sc_Walk_go : FnScope N_Walk_go (["self", "one", "other", "by_birth", "turned"] : List Str) (defScope s_Walk_go) := ⟨rfl, rfl, rfl, by decide +kernel, rfl, by decide +kernel, by decide +kernel⟩
theorem ok_Walk_go (Z : Zx K mg) : Okm P w K mg base 3 "Walk" "go" (["self", "one", "other", "by_birth", "turned"] : List Str) sp_Walk_go := by
  have O_Walk_meets : Okm P w K mg base 1 "Walk" "meets" (["self", "one", "other", "step", "by_birth", "turned"] : List Str) sp_Walk_meets := ok_Walk_meets Z
  have O_End___init__ : Okc P w K mg base 1 "End" (["self", "name", "family", "steps"] : List Str) sp_End___init__ := ok_End___init__ Z
  obtain ⟨fd, F⟩ := Z.f_Walk_go
  have hb : ∀ (cdv : Value) (A : Around) (outer : List Env) (s : Shared) (H : Hp) (E : XK), Room 2 (A.deeper (envOfC "Walk.go" (defScope s_Walk_go) s.heap.objs.size (He.ma K (He.ga K "Walk") "go") cdv)) → TSs (cxOf (L2N.CX P w) P w K mg base N_Walk_go "Walk.go" (defScope s_Walk_go) (He.ma K (He.ga K "Walk") "go") cdv A outer s H E) (defBody s_Walk_go) c_Walk_go := fun cdv A outer s H E hr =>
    (tss_cons (ts_set (i := 5) sc_Walk_go.nd rfl (.inl rfl) (te_lstM ta_nil))
      (tss_cons (ts_for (vs := [6, 7]) (passes_of rfl) rfl (ti_seq (te_dg (u64 hr) (te_fld (fld_ok (.cons ⟨Z.c_Walk, Z.na_Walk_families⟩ .nil)) (te_var (i := 0) rfl (.inl rfl))) (te_fld (fld_ok (.cons ⟨Z.c_End, Z.na_End_name⟩ .nil)) (te_var (i := 1) rfl (.inl rfl))))) (tg_tup rfl (n := 2) (tgs_cons (tg_name (i := 6) (by decide) sc_Walk_go.nd rfl (.inl rfl)) (tgs_cons (tg_name (i := 7) (by decide) sc_Walk_go.nd rfl (.inl rfl)) tgs_nil)) rfl rfl (takes_c (takes_c takes_z))) (tss_cons (ts_for (vs := [8]) (passes_of rfl) rfl (ti_seq (te_var (i := 6) rfl (.inl rfl))) (tg_name (i := 8) (by decide) sc_Walk_go.nd rfl (.inl rfl)) (tss_cons (ts_if (tb_cmp (op_eqT (u64 hr)) (te_var (i := 8) rfl (.inl rfl)) (te_fld (fld_ok (.cons ⟨Z.c_End, Z.na_End_name⟩ .nil)) (te_var (i := 2) rfl (.inl rfl))) rfl) (tss_cons (ts_do (te_meth O_Walk_meets hr (by decide) (te_var (i := 0) rfl (.inl rfl)) (ta_cons (te_var (i := 1) rfl (.inl rfl)) (ta_cons (te_var (i := 2) rfl (.inl rfl)) (ta_cons (te_var (i := 6) rfl (.inl rfl)) (ta_cons (te_and (te_var (i := 3) rfl (.inl rfl)) (te_one (te_var (i := 7) rfl (.inl rfl)))) (ta_cons (te_var (i := 4) rfl (.inl rfl)) ta_nil)))))))
      tss_nil) (tss_cons (ts_set (i := 9) sc_Walk_go.nd rfl (.inl rfl) (te_tup (ta_cons (te_make O_End___init__ hr (by decide) rfl (ta_cons (te_var (i := 8) rfl (.inl rfl)) (ta_cons (te_var (i := 6) rfl (.inl rfl)) (ta_cons (te_bin op_addT (te_fld (fld_ok (.cons ⟨Z.c_End, Z.na_End_steps⟩ .nil)) (te_var (i := 1) rfl (.inl rfl))) te_int) ta_nil)))) (ta_cons (te_var (i := 2) rfl (.inl rfl)) ta_nil))))
      (tss_cons (ts_if (tb_val (te_var (i := 4) rfl (.inl rfl))) (tss_cons (ts_set (i := 9) sc_Walk_go.nd rfl (.inl rfl) (te_tup (ta_cons (te_var (i := 2) rfl (.inl rfl)) (ta_cons (te_ix (te_var (i := 9) rfl (.inl rfl)) te_int) ta_nil))))
      tss_nil) tss_nil)
      (tss_cons (ts_do (te_app (te_var (i := 5) rfl (.inl rfl)) (te_tup (ta_cons (te_ix (te_var (i := 9) rfl (.inl rfl)) te_int) (ta_cons (te_ix (te_var (i := 9) rfl (.inl rfl)) te_int) (ta_cons (te_and (te_var (i := 3) rfl (.inl rfl)) (te_one (te_var (i := 7) rfl (.inl rfl)))) ta_nil))))))
      tss_nil))))
      tss_nil))
      tss_nil))
      (tss_cons (ts_ret (te_var (i := 5) rfl (.inl rfl)))
      tss_nil)))
  exact ⟨fd, fn_t F sc_Walk_go len_Walk_go hb vc_Walk_go, Z.c_Walk, Z.me_Walk_go, F.bindsN fun _ _ _ _ _ _ us hl => match us, hl with | [_, _, _, _, _], _ => rfl⟩
theorem sc_Walk_go_on : FnScope N_Walk_go_on (["self", "one", "other", "by_birth"] : List Str) (defScope s_Walk_go_on) := ⟨rfl, rfl, rfl, by decide +kernel, rfl, by decide +kernel, by decide +kernel⟩
theorem ok_Walk_go_on (Z : Zx K mg) : Okm P w K mg base 4 "Walk" "go_on" (["self", "one", "other", "by_birth"] : List Str) sp_Walk_go_on := by
  have O_Walk_go : Okm P w K mg base 3 "Walk" "go" (["self", "one", "other", "by_birth", "turned"] : List Str) sp_Walk_go := ok_Walk_go Z
  obtain ⟨fd, F⟩ := Z.f_Walk_go_on
  have hb : ∀ (cdv : Value) (A : Around) (outer : List Env) (s : Shared) (H : Hp) (E : XK), Room 3 (A.deeper (envOfC "Walk.go_on" (defScope s_Walk_go_on) s.heap.objs.size (He.ma K (He.ga K "Walk") "go_on") cdv)) → TSs (cxOf (L2N.CX P w) P w K mg base N_Walk_go_on "Walk.go_on" (defScope s_Walk_go_on) (He.ma K (He.ga K "Walk") "go_on") cdv A outer s H E) (defBody s_Walk_go_on) c_Walk_go_on := fun cdv A outer s H E hr =>
    (tss_cons (ts_if (tb_cmp (op_geT (u64 hr)) (te_dg (u64 hr) (te_fld (fld_ok (.cons ⟨Z.c_Walk, Z.na_Walk_depth⟩ .nil)) (te_var (i := 0) rfl (.inl rfl))) (te_fld (fld_ok (.cons ⟨Z.c_End, Z.na_End_name⟩ .nil)) (te_var (i := 1) rfl (.inl rfl)))) (te_dg (u64 hr) (te_fld (fld_ok (.cons ⟨Z.c_Walk, Z.na_Walk_depth⟩ .nil)) (te_var (i := 0) rfl (.inl rfl))) (te_fld (fld_ok (.cons ⟨Z.c_End, Z.na_End_name⟩ .nil)) (te_var (i := 2) rfl (.inl rfl)))) rfl) (tss_cons (ts_ret (te_meth O_Walk_go hr (by decide) (te_var (i := 0) rfl (.inl rfl)) (ta_cons (te_var (i := 1) rfl (.inl rfl)) (ta_cons (te_var (i := 2) rfl (.inl rfl)) (ta_cons (te_var (i := 3) rfl (.inl rfl)) (ta_cons te_bl ta_nil))))))
      tss_nil) tss_nil)
      (tss_cons (ts_ret (te_meth O_Walk_go hr (by decide) (te_var (i := 0) rfl (.inl rfl)) (ta_cons (te_var (i := 2) rfl (.inl rfl)) (ta_cons (te_var (i := 1) rfl (.inl rfl)) (ta_cons (te_var (i := 3) rfl (.inl rfl)) (ta_cons te_bl ta_nil))))))
      tss_nil))
  exact ⟨fd, fn_t F sc_Walk_go_on len_Walk_go_on hb vc_Walk_go_on, Z.c_Walk, Z.me_Walk_go_on, F.bindsN fun _ _ _ _ _ _ us hl => match us, hl with | [_, _, _, _], _ => rfl⟩
theorem sc_Walk_told : FnScope N_Walk_told (["self", "a", "b"] : List Str) (defScope s_Walk_told) := ⟨rfl, rfl, rfl, by decide +kernel, rfl, by decide +kernel, by decide +kernel⟩
theorem ok_Walk_told (Z : Zx K mg) : Okm P w K mg base 5 "Walk" "told" (["self", "a", "b"] : List Str) sp_Walk_told := by
  have O_End___init__ : Okc P w K mg base 1 "End" (["self", "name", "family", "steps"] : List Str) sp_End___init__ := ok_End___init__ Z
  have O_Walk_go_on : Okm P w K mg base 4 "Walk" "go_on" (["self", "one", "other", "by_birth"] : List Str) sp_Walk_go_on := ok_Walk_go_on Z
  obtain ⟨fd, F⟩ := Z.f_Walk_told
  have hb : ∀ (cdv : Value) (A : Around) (outer : List Env) (s : Shared) (H : Hp) (E : XK), Room 4 (A.deeper (envOfC "Walk.told" (defScope s_Walk_told) s.heap.objs.size (He.ma K (He.ga K "Walk") "told") cdv)) → TSs (cxOf (L2N.CX P w) P w K mg base N_Walk_told "Walk.told" (defScope s_Walk_told) (He.ma K (He.ga K "Walk") "told") cdv A outer s H E) (defBody s_Walk_told) c_Walk_told := fun cdv A outer s H E hr =>
    (tss_cons (ts_set (i := 3) sc_Walk_told.nd rfl (.inl rfl) (te_lstM (ta_cons (te_tup (ta_cons (te_make O_End___init__ hr (by decide) rfl (ta_cons (te_var (i := 1) rfl (.inl rfl)) (ta_cons (te_tup ta_nil) (ta_cons te_int ta_nil)))) (ta_cons (te_make O_End___init__ hr (by decide) rfl (ta_cons (te_var (i := 2) rfl (.inl rfl)) (ta_cons (te_tup ta_nil) (ta_cons te_int ta_nil)))) (ta_cons te_bl ta_nil)))) ta_nil)))
      (tss_cons (ts_while (passes_of rfl) (tb_cmp (op_neE (u64 hr)) (te_var (i := 3) rfl (.inl rfl)) (te_lst ta_nil) rfl) (tss_cons (ts_asg (vs := [4, 5, 6]) (te_pop (te_var (i := 3) rfl (.inl rfl))) (tg_tup rfl (n := 3) (tgs_cons (tg_name (i := 4) (by decide) sc_Walk_told.nd rfl (.inl rfl)) (tgs_cons (tg_name (i := 5) (by decide) sc_Walk_told.nd rfl (.inl rfl)) (tgs_cons (tg_name (i := 6) (by decide) sc_Walk_told.nd rfl (.inl rfl)) tgs_nil))) rfl rfl (takes_c (takes_c (takes_c takes_z)))))
      (tss_cons (ts_set (i := 7) sc_Walk_told.nd rfl (.inl rfl) (te_tup (ta_cons (te_fld (fld_ok (.cons ⟨Z.c_End, Z.na_End_name⟩ .nil)) (te_var (i := 4) rfl (.inl rfl))) (ta_cons (te_fld (fld_ok (.cons ⟨Z.c_End, Z.na_End_family⟩ .nil)) (te_var (i := 4) rfl (.inl rfl))) (ta_cons (te_fld (fld_ok (.cons ⟨Z.c_End, Z.na_End_steps⟩ .nil)) (te_var (i := 4) rfl (.inl rfl))) (ta_cons (te_fld (fld_ok (.cons ⟨Z.c_End, Z.na_End_name⟩ .nil)) (te_var (i := 5) rfl (.inl rfl))) (ta_cons (te_fld (fld_ok (.cons ⟨Z.c_End, Z.na_End_family⟩ .nil)) (te_var (i := 5) rfl (.inl rfl))) (ta_cons (te_fld (fld_ok (.cons ⟨Z.c_End, Z.na_End_steps⟩ .nil)) (te_var (i := 5) rfl (.inl rfl))) (ta_cons (te_var (i := 6) rfl (.inl rfl)) ta_nil)))))))))
      (tss_cons (ts_if (tb_cmp (op_tninT (u65 hr)) (te_var (i := 7) rfl (.inl rfl)) (te_fld (fld_ok (.cons ⟨Z.c_Walk, Z.na_Walk_met⟩ .nil)) (te_var (i := 0) rfl (.inl rfl))) rfl) (tss_cons (ts_tput (u64 hr) (te_fld (fld_ok (.cons ⟨Z.c_Walk, Z.na_Walk_met⟩ .nil)) (te_var (i := 0) rfl (.inl rfl))) (te_var (i := 7) rfl (.inl rfl)) te_bl)
      (tss_cons (ts_do (te_ext (te_var (i := 3) rfl (.inl rfl)) (te_meth O_Walk_go_on hr (by decide) (te_var (i := 0) rfl (.inl rfl)) (ta_cons (te_var (i := 4) rfl (.inl rfl)) (ta_cons (te_var (i := 5) rfl (.inl rfl)) (ta_cons (te_var (i := 6) rfl (.inl rfl)) ta_nil))))))
      tss_nil)) tss_nil)
      tss_nil))))
      (tss_cons (ts_ret (te_fnT fn_tuple rfl Z.b_tuple boot_tuple (ta_cons (te_fnB (fn_sktT rfl (u70 hr)) rfl Z.b_sorted boot_sorted (ta_cons (te_fld (fld_ok (.cons ⟨Z.c_Walk, Z.na_Walk_found⟩ .nil)) (te_var (i := 0) rfl (.inl rfl))) ta_nil)) ta_nil)))
      tss_nil)))
  exact ⟨fd, fn_t F sc_Walk_told len_Walk_told hb vc_Walk_told, Z.c_Walk, Z.me_Walk_told, F.bindsN fun _ _ _ _ _ _ us hl => match us, hl with | [_, _, _], _ => rfl⟩
theorem sc_Walk___init__ : FnScope N_Walk___init__ (["self", "book"] : List Str) (defScope s_Walk___init__) := ⟨rfl, rfl, rfl, by decide +kernel, rfl, by decide +kernel, by decide +kernel⟩
theorem ok_Walk___init__ (Z : Zx K mg) : Okc P w K mg base 2 "Walk" (["self", "book"] : List Str) sp_Walk___init__ := by
  have O_depths : Okf P w K mg base 1 "depths" (["book"] : List Str) sp_depths := ok_depths Z
  have O_families_of : Okf P w K mg base 1 "families_of" (["book", "name"] : List Str) sp_families_of := ok_families_of Z
  obtain ⟨fd, F⟩ := Z.f_Walk___init__
  have hb : ∀ (cdv : Value) (A : Around) (outer : List Env) (s : Shared) (H : Hp) (E : XK), Room 1 (A.deeper (envOfC "Walk.__init__" (defScope s_Walk___init__) s.heap.objs.size (He.ma K (He.ga K "Walk") "__init__") cdv)) → TSs (cxOf (L2N.CX P w) P w K mg base N_Walk___init__ "Walk.__init__" (defScope s_Walk___init__) (He.ma K (He.ga K "Walk") "__init__") cdv A outer s H E) (defBody s_Walk___init__) c_Walk___init__ := fun cdv A outer s H E hr =>
    (tss_cons (ts_fput (fld_ok (.cons ⟨Z.c_Walk, Z.na_Walk_depth⟩ .nil)) (te_var (i := 0) rfl (.inl rfl)) (te_callO O_depths hr (by decide) rfl (ta_cons (te_var (i := 1) rfl (.inr (.inl rfl))) ta_nil)))
      (tss_cons (ts_fput (fld_ok (.cons ⟨Z.c_Walk, Z.na_Walk_families⟩ .nil)) (te_var (i := 0) rfl (.inl rfl)) (te_fnT (fn_dict rfl) rfl Z.b_dict boot_dict (ta_cons (te_comp rfl sc_Walk___init__.nd (ti_seq (te_ix (te_var (i := 1) rfl (.inr (.inl rfl))) te_int)) (ow := [("name", 2), ("mark", 3)]) (blkOk_by (by kernel_rfl)) (fun _ _ _ _ _ => (tg_tup rfl (n := 2) (tgs_cons (tg_name (i := 2) (by decide) sc_Walk___init__.nd rfl (.inl rfl)) (tgs_cons (tg_name (i := 3) (by decide) sc_Walk___init__.nd rfl (.inl rfl)) tgs_nil)) rfl rfl (takes_c (takes_c takes_z)))) (fun _ _ _ _ _ => tbs_nil) (fun _ _ _ _ _ => (te_tup (ta_cons (te_var (i := 2) rfl (.inl rfl)) (ta_cons (te_callO O_families_of hr (by decide) rfl (ta_cons (te_var (i := 1) rfl (.inr (.inl rfl))) (ta_cons (te_var (i := 2) rfl (.inl rfl)) ta_nil))) ta_nil))))) ta_nil)))
      (tss_cons (ts_fput (fld_ok (.cons ⟨Z.c_Walk, Z.na_Walk_met⟩ .nil)) (te_var (i := 0) rfl (.inl rfl)) te_dnewM)
      (tss_cons (ts_fput (fld_ok (.cons ⟨Z.c_Walk, Z.na_Walk_found⟩ .nil)) (te_var (i := 0) rfl (.inl rfl)) te_dnewM)
      tss_nil))))
  exact ⟨fd, fn_t F sc_Walk___init__ len_Walk___init__ hb vc_Walk___init__, Z.mk_Walk, Z.gm_Walk, F.bindsN fun _ _ _ _ _ _ us hl => match us, hl with | [_, _], _ => rfl⟩
theorem sc_ties : FnScope N_ties (["book", "a", "b"] : List Str) (defScope s_ties) := ⟨rfl, rfl, rfl, by decide +kernel, rfl, by decide +kernel, by decide +kernel⟩
theorem ok_ties (Z : Zx K mg) : Okf P w K mg base 6 "ties" (["book", "a", "b"] : List Str) sp_ties := by
  have O_Walk_told : Okm P w K mg base 5 "Walk" "told" (["self", "a", "b"] : List Str) sp_Walk_told := ok_Walk_told Z
  have O_Walk___init__ : Okc P w K mg base 2 "Walk" (["self", "book"] : List Str) sp_Walk___init__ := ok_Walk___init__ Z
  obtain ⟨fd, F⟩ := Z.f_ties
  have hb : ∀ (cdv : Value) (A : Around) (outer : List Env) (s : Shared) (H : Hp) (E : XK), Room 5 (A.deeper (envOfC "ties" (defScope s_ties) s.heap.objs.size (He.ga K "ties") cdv)) → TSs (cxOf (L2N.CX P w) P w K mg base N_ties "ties" (defScope s_ties) (He.ga K "ties") cdv A outer s H E) (defBody s_ties) c_ties := fun cdv A outer s H E hr =>
    (tss_cons (ts_ret (te_meth O_Walk_told hr (by decide) (te_make O_Walk___init__ hr (by decide) rfl (ta_cons (te_var (i := 0) rfl (.inl rfl)) ta_nil)) (ta_cons (te_var (i := 1) rfl (.inl rfl)) (ta_cons (te_var (i := 2) rfl (.inl rfl)) ta_nil))))
      tss_nil)
  exact ⟨fd, fn_t F sc_ties len_ties hb vc_ties, Z.g_ties, F.kp, F.bindsN fun _ _ _ _ _ _ us hl => match us, hl with | [_, _, _], _ => rfl⟩
theorem sc_law_pen_of : FnScope N_law_pen_of (["_law_script"] : List Str) (defScope s_law_pen_of) := ⟨rfl, rfl, rfl, by decide +kernel, rfl, by decide +kernel, by decide +kernel⟩
theorem ok_law_pen_of (Z : Zx K mg) : Okf P w K mg base 1 "_law_pen_of" (["_law_script"] : List Str) sp_law_pen_of := by
  obtain ⟨fd, F⟩ := Z.f_law_pen_of
  have hb : ∀ (cdv : Value) (A : Around) (outer : List Env) (s : Shared) (H : Hp) (E : XK), Room 0 (A.deeper (envOfC "_law_pen_of" (defScope s_law_pen_of) s.heap.objs.size (He.ga K "_law_pen_of") cdv)) → TSs (cxOf (L2N.CX P w) P w K mg base N_law_pen_of "_law_pen_of" (defScope s_law_pen_of) (He.ga K "_law_pen_of") cdv A outer s H E) (defBody s_law_pen_of) c_law_pen_of := fun cdv A outer s H E hr =>
    (tss_cons (ts_ret (te_lstM (ta_cons (te_comp rfl sc_law_pen_of.nd (ti_seq (te_slice (te_var (i := 0) rfl (.inl rfl)) to_no (to_some te_int))) (ow := [("_law_cell", 1)]) (blkOk_by (by kernel_rfl)) (fun _ _ _ _ _ => (tg_name (i := 1) (by decide) sc_law_pen_of.nd rfl (.inl rfl))) (fun _ _ _ _ _ => tbs_nil) (fun _ _ _ _ _ => (te_var (i := 1) rfl (.inl rfl)))) (ta_cons te_int (ta_cons te_int ta_nil)))))
      tss_nil)
  exact ⟨fd, fn_t F sc_law_pen_of len_law_pen_of hb vc_law_pen_of, Z.g_law_pen_of, F.kp, F.bindsN fun _ _ _ _ _ _ us hl => match us, hl with | [_], _ => rfl⟩
theorem sc_law_draw : FnScope N_law_draw (["_law_pen", "_law_many"] : List Str) (defScope s_law_draw) := ⟨rfl, rfl, rfl, by decide +kernel, rfl, by decide +kernel, by decide +kernel⟩
theorem ok_law_draw (Z : Zx K mg) : Okf P w K mg base 1 "_law_draw" (["_law_pen", "_law_many"] : List Str) sp_law_draw := by
  obtain ⟨fd, F⟩ := Z.f_law_draw
  have hb : ∀ (cdv : Value) (A : Around) (outer : List Env) (s : Shared) (H : Hp) (E : XK), Room 0 (A.deeper (envOfC "_law_draw" (defScope s_law_draw) s.heap.objs.size (He.ga K "_law_draw") cdv)) → TSs (cxOf (L2N.CX P w) P w K mg base N_law_draw "_law_draw" (defScope s_law_draw) (He.ga K "_law_draw") cdv A outer s H E) (defBody s_law_draw) c_law_draw := fun cdv A outer s H E hr =>
    (tss_cons (ts_if (tb_cmp (op_gtT (u64 hr)) (te_ix (te_var (i := 0) rfl (.inl rfl)) te_int) te_int rfl) (tss_cons (ts_set (i := 2) sc_law_draw.nd rfl (.inl rfl) (te_bin op_modT (te_ix (te_var (i := 0) rfl (.inl rfl)) te_int) (te_var (i := 1) rfl (.inl rfl))))
      (tss_cons (ts_asg (vs := []) (te_bin op_fdivT (te_ix (te_var (i := 0) rfl (.inl rfl)) te_int) (te_var (i := 1) rfl (.inl rfl))) (tg_ix (te_var (i := 0) rfl (.inl rfl)) te_int))
      (tss_cons (ts_ret (te_var (i := 2) rfl (.inl rfl)))
      tss_nil))) tss_nil)
      (tss_cons (ts_set (i := 3) sc_law_draw.nd rfl (.inl rfl) (te_ix (te_var (i := 0) rfl (.inl rfl)) te_int))
      (tss_cons (ts_asg (vs := []) (te_bin op_addT (te_var (i := 3) rfl (.inl rfl)) te_int) (tg_ix (te_var (i := 0) rfl (.inl rfl)) te_int))
      (tss_cons (ts_set (i := 4) sc_law_draw.nd rfl (.inl rfl) te_int)
      (tss_cons (ts_if (tb_cmp (op_gtT (u64 hr)) (te_fnB fn_len rfl Z.b_len boot_len (ta_cons (te_ix (te_var (i := 0) rfl (.inl rfl)) te_int) ta_nil)) te_int rfl) (tss_cons (ts_set (i := 4) sc_law_draw.nd rfl (.inl rfl) (te_ix (te_ix (te_var (i := 0) rfl (.inl rfl)) te_int) (te_bin op_modT (te_var (i := 3) rfl (.inl rfl)) (te_fnB fn_len rfl Z.b_len boot_len (ta_cons (te_ix (te_var (i := 0) rfl (.inl rfl)) te_int) ta_nil)))))
      tss_nil) tss_nil)
      (tss_cons (ts_if (TW.toB (tw_and (tb_cmp (op_ltT (u64 hr)) (te_var (i := 3) rfl (.inl rfl)) (te_fnB fn_len rfl Z.b_len boot_len (ta_cons (te_ix (te_var (i := 0) rfl (.inl rfl)) te_int) ta_nil)) rfl) (tw_and1 (tb_cmp (op_geT (u64 hr)) (te_fnB fn_abs rfl Z.b_abs boot_abs (ta_cons (te_var (i := 4) rfl (.inl rfl)) ta_nil)) (te_bin op_powT te_int te_int) rfl)))) (tss_cons (ts_asg (vs := []) (te_bin op_fdivT (te_fnB fn_abs rfl Z.b_abs boot_abs (ta_cons (te_var (i := 4) rfl (.inl rfl)) ta_nil)) (te_var (i := 1) rfl (.inl rfl))) (tg_ix (te_var (i := 0) rfl (.inl rfl)) te_int))
      (tss_cons (ts_ret (te_bin op_modT (te_fnB fn_abs rfl Z.b_abs boot_abs (ta_cons (te_var (i := 4) rfl (.inl rfl)) ta_nil)) (te_var (i := 1) rfl (.inl rfl))))
      tss_nil)) tss_nil)
      (tss_cons (ts_set (i := 5) sc_law_draw.nd rfl (.inl rfl) (te_bin op_modT (te_bin op_mulT2 (te_bin op_addT (te_bin op_addT (te_bin op_modT (te_var (i := 4) rfl (.inl rfl)) te_int) (te_bin op_mulT2 te_int (te_var (i := 3) rfl (.inl rfl)))) te_int) te_int) te_int))
      (tss_cons (ts_set (i := 5) sc_law_draw.nd rfl (.inl rfl) (te_bin op_modT (te_bin op_mulT2 (te_bin op_modT (te_bin op_mulT2 (te_var (i := 5) rfl (.inl rfl)) (te_var (i := 5) rfl (.inl rfl))) te_int) (te_bin op_addT (te_bin op_addT (te_bin op_modT (te_var (i := 5) rfl (.inl rfl)) te_int) (te_bin op_mulT2 te_int (te_var (i := 3) rfl (.inl rfl)))) te_int)) te_int))
      (tss_cons (ts_ret (te_bin op_modT (te_bin op_fdivT (te_var (i := 5) rfl (.inl rfl)) te_int) (te_var (i := 1) rfl (.inl rfl))))
      tss_nil)))))))))
  exact ⟨fd, fn_t F sc_law_draw len_law_draw hb vc_law_draw, Z.g_law_draw, F.kp, F.bindsN fun _ _ _ _ _ _ us hl => match us, hl with | [_, _], _ => rfl⟩
theorem sc_law_drawn_names : FnScope N_law_drawn_names (["_law_pen", "_law_many"] : List Str) (defScope s_law_drawn_names) := ⟨rfl, rfl, rfl, by decide +kernel, rfl, by decide +kernel, by decide +kernel⟩
theorem ok_law_drawn_names (Z : Zx K mg) : Okf P w K mg base 2 "_law_drawn_names" (["_law_pen", "_law_many"] : List Str) sp_law_drawn_names := by
  have O_law_draw : Okf P w K mg base 1 "_law_draw" (["_law_pen", "_law_many"] : List Str) sp_law_draw := ok_law_draw Z
  obtain ⟨fd, F⟩ := Z.f_law_drawn_names
  have hb : ∀ (cdv : Value) (A : Around) (outer : List Env) (s : Shared) (H : Hp) (E : XK), Room 1 (A.deeper (envOfC "_law_drawn_names" (defScope s_law_drawn_names) s.heap.objs.size (He.ga K "_law_drawn_names") cdv)) → TSs (cxOf (L2N.CX P w) P w K mg base N_law_drawn_names "_law_drawn_names" (defScope s_law_drawn_names) (He.ga K "_law_drawn_names") cdv A outer s H E) (defBody s_law_drawn_names) c_law_drawn_names := fun cdv A outer s H E hr =>
    (tss_cons (ts_set (i := 2) sc_law_drawn_names.nd rfl (.inr rfl) te_str)
      (tss_cons (ts_set (i := 3) sc_law_drawn_names.nd rfl (.inl rfl) (te_callO O_law_draw hr (by decide) rfl (ta_cons (te_var (i := 0) rfl (.inr (.inl rfl))) (ta_cons te_int ta_nil))))
      (tss_cons (ts_set (i := 4) sc_law_drawn_names.nd rfl (.inr rfl) (te_bin op_addT te_int (te_callO O_law_draw hr (by decide) rfl (ta_cons (te_var (i := 0) rfl (.inr (.inl rfl))) (ta_cons te_int ta_nil)))))
      (tss_cons (ts_set (i := 5) sc_law_drawn_names.nd rfl (.inr rfl) (te_callO O_law_draw hr (by decide) rfl (ta_cons (te_var (i := 0) rfl (.inr (.inl rfl))) (ta_cons (te_var (i := 4) rfl (.inr (.inl rfl))) ta_nil))))
      (tss_cons (ts_set (i := 6) sc_law_drawn_names.nd rfl (.inl rfl) (te_sm1 PySem.F.slot_str_join PySem.F.type_str_join mt_joinT te_str (te_comp rfl sc_law_drawn_names.nd (ti_range1 rfl Z.b_range (te_var (i := 4) rfl (.inr (.inl rfl)))) (ow := [("_law_k", 9)]) (blkOk_by (by kernel_rfl)) (fun _ _ _ _ _ => (tg_name (i := 9) (by decide) sc_law_drawn_names.nd rfl (.inl rfl))) (fun _ _ _ _ _ => tbs_nil) (fun _ _ _ _ _ => (te_ix (te_var (i := 2) rfl (.inr (.inl rfl))) (te_callO O_law_draw hr (by decide) rfl (ta_cons (te_var (i := 0) rfl (.inr (.inl rfl))) (ta_cons te_int ta_nil))))))))
      (tss_cons (ts_set (i := 7) sc_law_drawn_names.nd rfl (.inl rfl) (te_ix (te_lst (ta_cons te_int (ta_cons te_int (ta_cons te_int (ta_cons te_int ta_nil))))) (te_callO O_law_draw hr (by decide) rfl (ta_cons (te_var (i := 0) rfl (.inr (.inl rfl))) (ta_cons te_int ta_nil)))))
      (tss_cons (ts_set (i := 8) sc_law_drawn_names.nd rfl (.inl rfl) (te_lstM ta_nil))
      (tss_cons (ts_for (vs := [9]) (passes_of rfl) rfl (ti_range1 rfl Z.b_range (te_var (i := 1) rfl (.inl rfl))) (tg_name (i := 9) (by decide) sc_law_drawn_names.nd rfl (.inl rfl)) (tss_cons (ts_set (i := 10) sc_law_drawn_names.nd rfl (.inl rfl) (te_ix (te_var (i := 2) rfl (.inr (.inl rfl))) (te_bin op_modT (te_bin op_addT (te_var (i := 3) rfl (.inl rfl)) (te_bin op_mulT2 (te_var (i := 7) rfl (.inl rfl)) (te_var (i := 9) rfl (.inl rfl)))) te_int)))
      (tss_cons (ts_do (te_app (te_var (i := 8) rfl (.inl rfl)) (te_bin op_addT (te_bin op_addT (te_slice (te_var (i := 6) rfl (.inl rfl)) to_no (to_some (te_var (i := 5) rfl (.inr (.inl rfl))))) (te_var (i := 10) rfl (.inl rfl))) (te_slice (te_var (i := 6) rfl (.inl rfl)) (to_some (te_bin op_addT (te_var (i := 5) rfl (.inr (.inl rfl))) te_int)) to_no))))
      tss_nil)))
      (tss_drop (tss_cons (ts_if (TW.toB (tw_and (tb_cmp (op_gtT (u64 hr)) (te_var (i := 4) rfl (.inr (.inl rfl))) te_int rfl) (tw_and1 (tb_cmp (op_eqT (u64 hr)) (te_callO O_law_draw hr (by decide) rfl (ta_cons (te_var (i := 0) rfl (.inr (.inl rfl))) (ta_cons te_int ta_nil))) te_int rfl)))) (tss_cons (ts_setComp (i := 8) rfl sc_law_drawn_names.nd rfl rfl rfl (ti_enum rfl Z.b_enumerate (te_var (i := 8) rfl (.inl rfl))) (ow := [("_law_k", 9), ("_law_name", 11)]) (blkOk_by (by kernel_rfl)) (fun _ _ _ _ _ => (tg_tup rfl (n := 2) (tgs_cons (tg_name (i := 9) (by decide) sc_law_drawn_names.nd rfl (.inl rfl)) (tgs_cons (tg_name (i := 11) (by decide) sc_law_drawn_names.nd rfl (.inl rfl)) tgs_nil)) rfl rfl (takes_c (takes_c takes_z)))) (fun _ _ _ _ _ => tbs_nil) (fun _ _ _ _ _ => (te_slice (te_var (i := 11) rfl (.inl rfl)) to_no (to_some (te_fnB (fn_max2 rfl) rfl Z.b_max boot_max (ta_cons (te_bin op_addT (te_var (i := 5) rfl (.inr (.inl rfl))) te_int) (ta_cons (te_bin op_subT (te_var (i := 4) rfl (.inr (.inl rfl))) (te_bin op_modT (te_var (i := 9) rfl (.inl rfl)) te_int)) ta_nil)))))))
      tss_nil) tss_nil)
      (tss_cons (ts_ret (te_var (i := 8) rfl (.inl rfl)))
      tss_nil)))))))))))
  exact ⟨fd, fn_t F sc_law_drawn_names len_law_drawn_names hb vc_law_drawn_names, Z.g_law_drawn_names, F.kp, F.bindsN fun _ _ _ _ _ _ us hl => match us, hl with | [_, _], _ => rfl⟩
theorem sc_law_drawn_family : FnScope N_law_drawn_family (["_law_pen", "_law_folk", "_law_k"] : List Str) (defScope s_law_drawn_family) := ⟨rfl, rfl, rfl, by decide +kernel, rfl, by decide +kernel, by decide +kernel⟩
theorem ok_law_drawn_family (Z : Zx K mg) : Okf P w K mg base 2 "_law_drawn_family" (["_law_pen", "_law_folk", "_law_k"] : List Str) sp_law_drawn_family := by
  have O_law_draw : Okf P w K mg base 1 "_law_draw" (["_law_pen", "_law_many"] : List Str) sp_law_draw := ok_law_draw Z
  obtain ⟨fd, F⟩ := Z.f_law_drawn_family
  have hb : ∀ (cdv : Value) (A : Around) (outer : List Env) (s : Shared) (H : Hp) (E : XK), Room 1 (A.deeper (envOfC "_law_drawn_family" (defScope s_law_drawn_family) s.heap.objs.size (He.ga K "_law_drawn_family") cdv)) → TSs (cxOf (L2N.CX P w) P w K mg base N_law_drawn_family "_law_drawn_family" (defScope s_law_drawn_family) (He.ga K "_law_drawn_family") cdv A outer s H E) (defBody s_law_drawn_family) c_law_drawn_family := fun cdv A outer s H E hr =>
    (tss_cons (ts_set (i := 3) sc_law_drawn_family.nd rfl (.inl rfl) (te_ix (te_lst (ta_cons te_int (ta_cons (te_fnB (fn_max2 rfl) rfl Z.b_max boot_max (ta_cons te_int (ta_cons (te_bin op_subT (te_var (i := 2) rfl (.inl rfl)) te_int) ta_nil))) (ta_cons (te_fnB (fn_max2 rfl) rfl Z.b_max boot_max (ta_cons te_int (ta_cons (te_bin op_subT (te_var (i := 2) rfl (.inl rfl)) te_int) ta_nil))) ta_nil)))) (te_callO O_law_draw hr (by decide) rfl (ta_cons (te_var (i := 0) rfl (.inl rfl)) (ta_cons te_int ta_nil)))))
      (tss_cons (ts_set (i := 4) sc_law_drawn_family.nd rfl (.inl rfl) (te_ix (te_var (i := 1) rfl (.inl rfl)) (te_bin op_addT (te_var (i := 3) rfl (.inl rfl)) (te_callO O_law_draw hr (by decide) rfl (ta_cons (te_var (i := 0) rfl (.inl rfl)) (ta_cons (te_bin op_subT (te_var (i := 2) rfl (.inl rfl)) (te_var (i := 3) rfl (.inl rfl))) ta_nil))))))
      (tss_cons (ts_set (i := 5) sc_law_drawn_family.nd rfl (.inl rfl) (te_ix (te_var (i := 1) rfl (.inl rfl)) (te_bin op_addT (te_var (i := 3) rfl (.inl rfl)) (te_callO O_law_draw hr (by decide) rfl (ta_cons (te_var (i := 0) rfl (.inl rfl)) (ta_cons (te_bin op_subT (te_var (i := 2) rfl (.inl rfl)) (te_var (i := 3) rfl (.inl rfl))) ta_nil))))))
      (tss_cons (ts_if (tb_cmp (op_eqT (u64 hr)) (te_callO O_law_draw hr (by decide) rfl (ta_cons (te_var (i := 0) rfl (.inl rfl)) (ta_cons te_int ta_nil))) te_int rfl) (tss_cons (ts_set (i := 5) sc_law_drawn_family.nd rfl (.inl rfl) (te_var (i := 4) rfl (.inl rfl)))
      tss_nil) tss_nil)
      (tss_cons (ts_ret (te_fnT fn_tuple rfl Z.b_tuple boot_tuple (ta_cons (te_sset rfl (u70 hr) (te_lst (ta_cons (te_var (i := 4) rfl (.inl rfl)) (ta_cons (te_var (i := 5) rfl (.inl rfl)) ta_nil))) rfl Z.b_sorted rfl Z.b_set) ta_nil)))
      tss_nil)))))
  exact ⟨fd, fn_t F sc_law_drawn_family len_law_drawn_family hb vc_law_drawn_family, Z.g_law_drawn_family, F.kp, F.bindsN fun _ _ _ _ _ _ us hl => match us, hl with | [_, _, _], _ => rfl⟩
theorem sc_law_drawn_book : FnScope N_law_drawn_book (["_law_pen", "_law_most", "_law_rate"] : List Str) (defScope s_law_drawn_book) := ⟨rfl, rfl, rfl, by decide +kernel, rfl, by decide +kernel, by decide +kernel⟩
theorem ok_law_drawn_book (Z : Zx K mg) : Okf P w K mg base 3 "_law_drawn_book" (["_law_pen", "_law_most", "_law_rate"] : List Str) sp_law_drawn_book := by
  have O_law_draw : Okf P w K mg base 1 "_law_draw" (["_law_pen", "_law_many"] : List Str) sp_law_draw := ok_law_draw Z
  have O_law_drawn_names : Okf P w K mg base 2 "_law_drawn_names" (["_law_pen", "_law_many"] : List Str) sp_law_drawn_names := ok_law_drawn_names Z
  have O_law_drawn_family : Okf P w K mg base 2 "_law_drawn_family" (["_law_pen", "_law_folk", "_law_k"] : List Str) sp_law_drawn_family := ok_law_drawn_family Z
  obtain ⟨fd, F⟩ := Z.f_law_drawn_book
  have hb : ∀ (cdv : Value) (A : Around) (outer : List Env) (s : Shared) (H : Hp) (E : XK), Room 2 (A.deeper (envOfC "_law_drawn_book" (defScope s_law_drawn_book) s.heap.objs.size (He.ga K "_law_drawn_book") cdv)) → TSs (cxOf (L2N.CX P w) P w K mg base N_law_drawn_book "_law_drawn_book" (defScope s_law_drawn_book) (He.ga K "_law_drawn_book") cdv A outer s H E) (defBody s_law_drawn_book) c_law_drawn_book := fun cdv A outer s H E hr =>
    (tss_cons (ts_set (i := 3) sc_law_drawn_book.nd rfl (.inl rfl) (te_bin op_addT te_int (te_callO O_law_draw hr (by decide) rfl (ta_cons (te_var (i := 0) rfl (.inr (.inl rfl))) (ta_cons (te_var (i := 1) rfl (.inl rfl)) ta_nil)))))
      (tss_cons (ts_set (i := 4) sc_law_drawn_book.nd rfl (.inr rfl) (te_callO O_law_drawn_names hr (by decide) rfl (ta_cons (te_var (i := 0) rfl (.inr (.inl rfl))) (ta_cons (te_var (i := 3) rfl (.inl rfl)) ta_nil))))
      (tss_cons (ts_setComp (i := 5) rfl sc_law_drawn_book.nd rfl rfl rfl (ti_seq (te_var (i := 4) rfl (.inr (.inl rfl)))) (ow := [("_law_name", 17)]) (blkOk_by (by kernel_rfl)) (fun _ _ _ _ _ => (tg_name (i := 17) (by decide) sc_law_drawn_book.nd rfl (.inl rfl))) (fun _ _ _ _ _ => tbs_nil) (fun _ _ _ _ _ => (te_tup (ta_cons (te_var (i := 17) rfl (.inl rfl)) (ta_cons (te_ix te_str (te_callO O_law_draw hr (by decide) rfl (ta_cons (te_var (i := 0) rfl (.inr (.inl rfl))) (ta_cons te_int ta_nil)))) ta_nil)))))
      (tss_cons (ts_par3 (i := 6) (j := 7) (l := 8) rfl sc_law_drawn_book.nd rfl rfl rfl (by decide) (by decide) (by decide) rfl rfl rfl (ta_cons (te_lstM ta_nil) (ta_cons (te_lstM ta_nil) (ta_cons (te_lstM ta_nil) ta_nil))) rfl)
      (tss_cons (ts_set (i := 9) sc_law_drawn_book.nd rfl (.inl rfl) (te_lst ta_nil))
      (tss_cons (ts_for (vs := [10]) (passes_of rfl) rfl (ti_range2 rfl Z.b_range te_int (te_var (i := 3) rfl (.inl rfl))) (tg_name (i := 10) (by decide) sc_law_drawn_book.nd rfl (.inr rfl)) (tss_cons (ts_set (i := 11) sc_law_drawn_book.nd rfl (.inl rfl) (te_callO O_law_draw hr (by decide) rfl (ta_cons (te_var (i := 0) rfl (.inr (.inl rfl))) (ta_cons te_int ta_nil))))
      (tss_cons (ts_set (i := 12) sc_law_drawn_book.nd rfl (.inl rfl) (te_callO O_law_drawn_family hr (by decide) rfl (ta_cons (te_var (i := 0) rfl (.inr (.inl rfl))) (ta_cons (te_var (i := 4) rfl (.inr (.inl rfl))) (ta_cons (te_var (i := 10) rfl (.inr (.inl rfl))) ta_nil)))))
      (tss_cons (ts_if (TW.toB (tw_and (tb_cmp (op_gtT (u64 hr)) (te_var (i := 11) rfl (.inl rfl)) te_int rfl) (tw_and1 (tb_cmp (op_neT (u64 hr)) (te_var (i := 9) rfl (.inl rfl)) (te_lst ta_nil) rfl)))) (tss_cons (ts_set (i := 12) sc_law_drawn_book.nd rfl (.inl rfl) (te_ix (te_var (i := 9) rfl (.inl rfl)) (te_callO O_law_draw hr (by decide) rfl (ta_cons (te_var (i := 0) rfl (.inr (.inl rfl))) (ta_cons (te_fnB fn_len rfl Z.b_len boot_len (ta_cons (te_var (i := 9) rfl (.inl rfl)) ta_nil)) ta_nil)))))
      tss_nil) tss_nil)
      (tss_cons (ts_if (TW.toB (tw_and (tb_cmp (op_gtT (u64 hr)) (te_callO O_law_draw hr (by decide) rfl (ta_cons (te_var (i := 0) rfl (.inr (.inl rfl))) (ta_cons te_int ta_nil))) te_int rfl) (tw_and1 (tb_cmp (op_ltT (u64 hr)) (te_fnB fn_len rfl Z.b_len boot_len (ta_cons (te_var (i := 6) rfl (.inl rfl)) ta_nil)) te_int rfl)))) (tss_cons (ts_do (te_app (te_var (i := 7) rfl (.inl rfl)) (te_tup (ta_cons (te_ix (te_var (i := 4) rfl (.inr (.inl rfl))) (te_var (i := 10) rfl (.inr (.inl rfl)))) (ta_cons (te_var (i := 12) rfl (.inl rfl)) ta_nil)))))
      (tss_cons (ts_do (te_app (te_var (i := 6) rfl (.inl rfl)) (te_var (i := 12) rfl (.inl rfl))))
      tss_nil)) tss_nil)
      (tss_cons (ts_for (vs := [13]) (passes_of rfl) rfl (ti_range1 rfl Z.b_range (te_ix (te_lst (ta_cons te_int (ta_cons te_int (ta_cons te_int (ta_cons te_int ta_nil))))) (te_callO O_law_draw hr (by decide) rfl (ta_cons (te_var (i := 0) rfl (.inr (.inl rfl))) (ta_cons te_int ta_nil))))) (tg_name (i := 13) (by decide) sc_law_drawn_book.nd rfl (.inl rfl)) (tss_cons (ts_set (i := 14) sc_law_drawn_book.nd rfl (.inl rfl) (te_callO O_law_drawn_family hr (by decide) rfl (ta_cons (te_var (i := 0) rfl (.inr (.inl rfl))) (ta_cons (te_var (i := 4) rfl (.inr (.inl rfl))) (ta_cons (te_var (i := 10) rfl (.inr (.inl rfl))) ta_nil)))))
      (tss_cons (ts_set (i := 15) sc_law_drawn_book.nd rfl (.inl rfl) (te_and (te_cmp (op_ninT (u65 hr)) (te_tup (ta_cons (te_ix (te_var (i := 4) rfl (.inr (.inl rfl))) (te_var (i := 10) rfl (.inr (.inl rfl)))) (ta_cons (te_var (i := 14) rfl (.inl rfl)) ta_nil))) (te_var (i := 8) rfl (.inl rfl)) rfl) (te_one (te_cmp (op_ltT (u64 hr)) (te_slen rfl (u70 hr) (te_var (i := 6) rfl (.inl rfl)) rfl Z.b_len rfl Z.b_set) te_int rfl))))
      (tss_cons (ts_if (TW.toB (tw_and (tb_cmp (op_ltT (u64 hr)) (te_callO O_law_draw hr (by decide) rfl (ta_cons (te_var (i := 0) rfl (.inr (.inl rfl))) (ta_cons te_int ta_nil))) (te_bin op_addT (te_var (i := 2) rfl (.inl rfl)) (te_var (i := 13) rfl (.inl rfl))) rfl) (tw_and (tb_cmp (op_neT (u64 hr)) (te_var (i := 14) rfl (.inl rfl)) (te_var (i := 12) rfl (.inl rfl)) rfl) (tw_and (tb_val (te_var (i := 15) rfl (.inl rfl))) (tw_and1 (tb_cmp (op_ltT (u64 hr)) (te_fnB fn_len rfl Z.b_len boot_len (ta_cons (te_var (i := 8) rfl (.inl rfl)) ta_nil)) te_int rfl)))))) (tss_cons (ts_do (te_app (te_var (i := 8) rfl (.inl rfl)) (te_tup (ta_cons (te_ix (te_var (i := 4) rfl (.inr (.inl rfl))) (te_var (i := 10) rfl (.inr (.inl rfl)))) (ta_cons (te_var (i := 14) rfl (.inl rfl)) ta_nil)))))
      (tss_cons (ts_do (te_app (te_var (i := 6) rfl (.inl rfl)) (te_var (i := 14) rfl (.inl rfl))))
      tss_nil)) tss_nil)
      tss_nil))))
      (tss_cons (ts_setComp (i := 9) rfl sc_law_drawn_book.nd rfl rfl rfl (ti_seq (te_var (i := 6) rfl (.inl rfl))) (ow := [("_law_one", 18)]) (blkOk_by (by kernel_rfl)) (fun _ _ _ _ _ => (tg_name (i := 18) (by decide) sc_law_drawn_book.nd rfl (.inl rfl))) (fun _ _ _ _ _ => (tbs_one (tb_cmp (op_ninT (u65 hr)) (te_ix (te_var (i := 4) rfl (.inr (.inl rfl))) (te_var (i := 10) rfl (.inr (.inl rfl)))) (te_var (i := 18) rfl (.inl rfl)) rfl))) (fun _ _ _ _ _ => (te_var (i := 18) rfl (.inl rfl))))
      tss_nil)))))))
      (tss_drop (tss_drop (tss_cons (ts_for (vs := [10]) (passes_of rfl) rfl (ti_range1 rfl Z.b_range (te_bin op_mulT2 (te_callO O_law_draw hr (by decide) rfl (ta_cons (te_var (i := 0) rfl (.inr (.inl rfl))) (ta_cons te_int ta_nil))) (te_fnT fn_int rfl Z.b_int boot_int (ta_cons (te_cmp (op_gtT (u64 hr)) (te_var (i := 3) rfl (.inl rfl)) te_int rfl) ta_nil)))) (tg_name (i := 10) (by decide) sc_law_drawn_book.nd rfl (.inr rfl)) (tss_cons (ts_set (i := 12) sc_law_drawn_book.nd rfl (.inl rfl) (te_callO O_law_drawn_family hr (by decide) rfl (ta_cons (te_var (i := 0) rfl (.inr (.inl rfl))) (ta_cons (te_var (i := 4) rfl (.inr (.inl rfl))) (ta_cons (te_var (i := 3) rfl (.inl rfl)) ta_nil)))))
      (tss_cons (ts_if (tb_cmp (op_ltT (u64 hr)) (te_slen rfl (u70 hr) (te_var (i := 6) rfl (.inl rfl)) rfl Z.b_len rfl Z.b_set) te_int rfl) (tss_cons (ts_do (te_app (te_var (i := 6) rfl (.inl rfl)) (te_var (i := 12) rfl (.inl rfl))))
      tss_nil) tss_nil)
      tss_nil)))
      (tss_drop (tss_cons (ts_set (i := 16) sc_law_drawn_book.nd rfl (.inl rfl) (te_tup (ta_cons (te_fnT fn_tuple rfl Z.b_tuple boot_tuple (ta_cons (te_fnB (fn_sorted (u70 hr)) rfl Z.b_sorted boot_sorted (ta_cons (te_var (i := 5) rfl (.inl rfl)) ta_nil)) ta_nil)) (ta_cons (te_fnT fn_tuple rfl Z.b_tuple boot_tuple (ta_cons (te_sset rfl (u70 hr) (te_var (i := 6) rfl (.inl rfl)) rfl Z.b_sorted rfl Z.b_set) ta_nil)) ta_nil))))
      (tss_cons (ts_ret (te_bin op_addT (te_var (i := 16) rfl (.inl rfl)) (te_tup (ta_cons (te_fnT fn_tuple rfl Z.b_tuple boot_tuple (ta_cons (te_fnB (fn_sorted (u70 hr)) rfl Z.b_sorted boot_sorted (ta_cons (te_var (i := 7) rfl (.inl rfl)) ta_nil)) ta_nil)) (ta_cons (te_fnT fn_tuple rfl Z.b_tuple boot_tuple (ta_cons (te_fnB (fn_sorted (u70 hr)) rfl Z.b_sorted boot_sorted (ta_cons (te_var (i := 8) rfl (.inl rfl)) ta_nil)) ta_nil)) ta_nil)))))
      tss_nil))))))))))))
  exact ⟨fd, fn_t F sc_law_drawn_book len_law_drawn_book hb vc_law_drawn_book, Z.g_law_drawn_book, F.kp, F.bindsN fun _ _ _ _ _ _ us hl => match us, hl with | [_, _, _], _ => rfl⟩
theorem sc_law_without : FnScope N_law_without (["_law_book", "_law_name"] : List Str) (defScope s_law_without) := ⟨rfl, rfl, rfl, by decide +kernel, rfl, by decide +kernel, by decide +kernel⟩
theorem ok_law_without (Z : Zx K mg) : Okf P w K mg base 1 "_law_without" (["_law_book", "_law_name"] : List Str) sp_law_without := by
  obtain ⟨fd, F⟩ := Z.f_law_without
  have hb : ∀ (cdv : Value) (A : Around) (outer : List Env) (s : Shared) (H : Hp) (E : XK), Room 0 (A.deeper (envOfC "_law_without" (defScope s_law_without) s.heap.objs.size (He.ga K "_law_without") cdv)) → TSs (cxOf (L2N.CX P w) P w K mg base N_law_without "_law_without" (defScope s_law_without) (He.ga K "_law_without") cdv A outer s H E) (defBody s_law_without) c_law_without := fun cdv A outer s H E hr =>
    (tss_cons (ts_setComp (i := 2) rfl sc_law_without.nd rfl rfl rfl (ti_seq (te_ix (te_var (i := 0) rfl (.inl rfl)) te_int)) (ow := [("_law_family", 6)]) (blkOk_by (by kernel_rfl)) (fun _ _ _ _ _ => (tg_name (i := 6) (by decide) sc_law_without.nd rfl (.inl rfl))) (fun _ _ _ _ _ => (tbs_one (tb_cmp (op_ninT (u65 hr)) (te_var (i := 1) rfl (.inr (.inl rfl))) (te_var (i := 6) rfl (.inl rfl)) rfl))) (fun _ _ _ _ _ => (te_var (i := 6) rfl (.inl rfl))))
      (tss_cons (ts_setComp (i := 3) rfl sc_law_without.nd rfl rfl rfl (ti_seq (te_ix (te_var (i := 0) rfl (.inl rfl)) te_int)) (ow := [("_law_row", 7)]) (blkOk_by (by kernel_rfl)) (fun _ _ _ _ _ => (tg_name (i := 7) (by decide) sc_law_without.nd rfl (.inl rfl))) (fun _ _ _ _ _ => (tbs_one (tb_cmp (op_neT (u64 hr)) (te_ix (te_var (i := 7) rfl (.inl rfl)) te_int) (te_var (i := 1) rfl (.inr (.inl rfl))) rfl))) (fun _ _ _ _ _ => (te_var (i := 7) rfl (.inl rfl))))
      (tss_cons (ts_setComp (i := 4) rfl sc_law_without.nd rfl rfl rfl (ti_seq (te_ix (te_var (i := 0) rfl (.inl rfl)) te_int)) (ow := [("_law_row", 7)]) (blkOk_by (by kernel_rfl)) (fun _ _ _ _ _ => (tg_name (i := 7) (by decide) sc_law_without.nd rfl (.inl rfl))) (fun _ _ _ _ _ => (tbs_one (tb_cmp (op_neT (u64 hr)) (te_ix (te_var (i := 7) rfl (.inl rfl)) te_int) (te_var (i := 1) rfl (.inr (.inl rfl))) rfl))) (fun _ _ _ _ _ => (te_var (i := 7) rfl (.inl rfl))))
      (tss_cons (ts_set (i := 5) sc_law_without.nd rfl (.inl rfl) (te_fnT fn_tuple rfl Z.b_tuple boot_tuple (ta_cons (te_comp rfl sc_law_without.nd (ti_seq (te_ix (te_var (i := 0) rfl (.inl rfl)) te_int)) (ow := [("_law_row", 7)]) (blkOk_by (by kernel_rfl)) (fun _ _ _ _ _ => (tg_name (i := 7) (by decide) sc_law_without.nd rfl (.inl rfl))) (fun _ _ _ _ _ => (tbs_one (tb_cmp (op_neT (u64 hr)) (te_ix (te_var (i := 7) rfl (.inl rfl)) te_int) (te_var (i := 1) rfl (.inr (.inl rfl))) rfl))) (fun _ _ _ _ _ => (te_var (i := 7) rfl (.inl rfl)))) ta_nil)))
      (tss_cons (ts_ret (te_tup (ta_cons (te_var (i := 5) rfl (.inl rfl)) (ta_cons (te_fnT fn_tuple rfl Z.b_tuple boot_tuple (ta_cons (te_var (i := 2) rfl (.inl rfl)) ta_nil)) (ta_cons (te_fnT fn_tuple rfl Z.b_tuple boot_tuple (ta_cons (te_var (i := 3) rfl (.inl rfl)) ta_nil)) (ta_cons (te_fnT fn_tuple rfl Z.b_tuple boot_tuple (ta_cons (te_var (i := 4) rfl (.inl rfl)) ta_nil)) ta_nil))))))
      tss_nil)))))
  exact ⟨fd, fn_t F sc_law_without len_law_without hb vc_law_without, Z.g_law_without, F.kp, F.bindsN fun _ _ _ _ _ _ us hl => match us, hl with | [_, _], _ => rfl⟩
theorem sc_law_renamed__law_family_by : NdefX.NScope N_law_renamed__law_family_by (["_law_family"] : List Str) (["_law_other"] : List Str) d_law_renamed__law_family_by.scope := NdefX.nscope_by (by kernel_rfl)
theorem okn_law_renamed__law_family_by (Z : Zx K mg) : FnN P w K mg base 1 d_law_renamed__law_family_by (["_law_family"] : List Str) (["_law_other"] : List Str) (fun wts => spU (sn_law_renamed__law_family_by wts)) := by
  exact fnN_def rfl sc_law_renamed__law_family_by (fun _ _ _ _ _ us hl => match us, hl with | [_], _ => rfl) lenn_law_renamed__law_family_by (fun cl c f A outer s H E hr => (tss_cons (ts_ret (te_fnT fn_tuple rfl Z.b_tuple boot_tuple (ta_cons (te_fnB (fn_sorted (u70 hr)) rfl Z.b_sorted boot_sorted (ta_cons (te_comp rfl sc_law_renamed__law_family_by.nd (ti_seq (te_var (i := 0) rfl (.inl rfl))) (ow := [("_law_name", 2)]) (blkOk_by (by kernel_rfl)) (fun _ _ _ _ _ => (tg_name (i := 2) (by decide) sc_law_renamed__law_family_by.nd rfl (.inl rfl))) (fun _ _ _ _ _ => tbs_nil) (fun _ _ _ _ _ => (te_dg (u64 hr) (te_var (i := 1) rfl (.inr (.inr rfl))) (te_var (i := 2) rfl (.inl rfl))))) ta_nil)) ta_nil)))
      tss_nil)) vcn_law_renamed__law_family_by
theorem sc_law_renamed : FnScope N_law_renamed (["_law_book", "_law_other"] : List Str) (defScope s_law_renamed) := ⟨rfl, rfl, rfl, by decide +kernel, rfl, by decide +kernel, by decide +kernel⟩
theorem ok_law_renamed (Z : Zx K mg) (TB : LamX.TabB base mg (tbC K "_law_renamed") (tbP K "_law_renamed")) : Okf P w K mg base 2 "_law_renamed" (["_law_book", "_law_other"] : List Str) (sp_law_renamed (tbP K "_law_renamed")) := by
  have On_law_renamed__law_family_by : FnN P w K mg base 1 d_law_renamed__law_family_by (["_law_family"] : List Str) (["_law_other"] : List Str) (fun wts => spU (sn_law_renamed__law_family_by wts)) := okn_law_renamed__law_family_by Z
  obtain ⟨fd, F⟩ := Z.f_law_renamed
  have hb : ∀ (cdv : Value) (A : Around) (outer : List Env) (s : Shared) (H : Hp) (E : XK), Room 1 (A.deeper (envOfC "_law_renamed" (defScope s_law_renamed) s.heap.objs.size (He.ga K "_law_renamed") cdv)) → HasTab (cxG P w K mg base N_law_renamed "_law_renamed" (defScope s_law_renamed) (He.ga K "_law_renamed") cdv A outer s H E) (tbP K "_law_renamed") → TSs (cxG P w K mg base N_law_renamed "_law_renamed" (defScope s_law_renamed) (He.ga K "_law_renamed") cdv A outer s H E) (defBody s_law_renamed) (c_law_renamed (tbP K "_law_renamed") (cxG P w K mg base N_law_renamed "_law_renamed" (defScope s_law_renamed) (He.ga K "_law_renamed") cdv A outer s H E).env.cells) := fun cdv A outer s H E hr hT =>
    (tss_cons (ts_ndef (d := d_law_renamed__law_family_by) (i := 2) hT (NdefX.ndef_free (fr := []) (by kernel_rfl)) rfl rfl rfl rfl rfl sc_law_renamed.nd rfl (.inr rfl) (.inl rfl))
      (tss_cons (ts_set (i := 3) sc_law_renamed.nd rfl (.inl rfl) (te_fnB (fn_sorted (u70 hr)) rfl Z.b_sorted boot_sorted (ta_cons (te_comp rfl sc_law_renamed.nd (ti_seq (te_ix (te_var (i := 0) rfl (.inl rfl)) te_int)) (ow := [("_law_name", 7), ("_law_mark", 8)]) (blkOk_by (by kernel_rfl)) (fun _ _ _ _ _ => (tg_tup rfl (n := 2) (tgs_cons (tg_name (i := 7) (by decide) sc_law_renamed.nd rfl (.inl rfl)) (tgs_cons (tg_name (i := 8) (by decide) sc_law_renamed.nd rfl (.inl rfl)) tgs_nil)) rfl rfl (takes_c (takes_c takes_z)))) (fun _ _ _ _ _ => tbs_nil) (fun _ _ _ _ _ => (te_tup (ta_cons (te_dg (u64 hr) (te_var (i := 1) rfl (.inr (.inl rfl))) (te_var (i := 7) rfl (.inl rfl))) (ta_cons (te_var (i := 8) rfl (.inl rfl)) ta_nil))))) ta_nil)))
      (tss_cons (ts_set (i := 4) sc_law_renamed.nd rfl (.inl rfl) (te_fnB (fn_sorted (u70 hr)) rfl Z.b_sorted boot_sorted (ta_cons (te_compC (i := 2) (js := [1]) rfl sc_law_renamed.nd (ti_seq (te_ix (te_var (i := 0) rfl (.inl rfl)) te_int)) (ow := [("_law_child", 9), ("_law_family", 10)]) (blkOk_by (by kernel_rfl)) (fun _ _ _ _ _ => (tg_tup rfl (n := 2) (tgs_cons (tg_name (i := 9) (by decide) sc_law_renamed.nd rfl (.inl rfl)) (tgs_cons (tg_name (i := 10) (by decide) sc_law_renamed.nd rfl (.inl rfl)) tgs_nil)) rfl rfl (takes_c (takes_c takes_z)))) (cap_in (d := d_law_renamed__law_family_by) (fr := (["_law_other"] : List Str)) (by kernel_rfl) rfl fun _ => rfl) (fun c ws _ _ _ _ _ cy => (te_tup (ta_cons (te_dg (u64 hr) (te_var (i := 1) rfl (.inr (.inl rfl))) (te_var (i := 9) rfl (.inl rfl))) (ta_cons (te_clo On_law_renamed__law_family_by hr (by decide) cy (i := 2) rfl (.inr (.inl rfl)) (ta_cons (te_var (i := 10) rfl (.inl rfl)) ta_nil)) ta_nil))))) ta_nil)))
      (tss_cons (ts_set (i := 5) sc_law_renamed.nd rfl (.inl rfl) (te_fnB (fn_sorted (u70 hr)) rfl Z.b_sorted boot_sorted (ta_cons (te_compC (i := 2) (js := [1]) rfl sc_law_renamed.nd (ti_seq (te_ix (te_var (i := 0) rfl (.inl rfl)) te_int)) (ow := [("_law_child", 9), ("_law_family", 10)]) (blkOk_by (by kernel_rfl)) (fun _ _ _ _ _ => (tg_tup rfl (n := 2) (tgs_cons (tg_name (i := 9) (by decide) sc_law_renamed.nd rfl (.inl rfl)) (tgs_cons (tg_name (i := 10) (by decide) sc_law_renamed.nd rfl (.inl rfl)) tgs_nil)) rfl rfl (takes_c (takes_c takes_z)))) (cap_in (d := d_law_renamed__law_family_by) (fr := (["_law_other"] : List Str)) (by kernel_rfl) rfl fun _ => rfl) (fun c ws _ _ _ _ _ cy => (te_tup (ta_cons (te_dg (u64 hr) (te_var (i := 1) rfl (.inr (.inl rfl))) (te_var (i := 9) rfl (.inl rfl))) (ta_cons (te_clo On_law_renamed__law_family_by hr (by decide) cy (i := 2) rfl (.inr (.inl rfl)) (ta_cons (te_var (i := 10) rfl (.inl rfl)) ta_nil)) ta_nil))))) ta_nil)))
      (tss_cons (ts_set (i := 6) sc_law_renamed.nd rfl (.inl rfl) (te_fnT fn_tuple rfl Z.b_tuple boot_tuple (ta_cons (te_fnB (fn_sorted (u70 hr)) rfl Z.b_sorted boot_sorted (ta_cons (te_compC (i := 2) (js := [1]) rfl sc_law_renamed.nd (ti_seq (te_ix (te_var (i := 0) rfl (.inl rfl)) te_int)) (ow := [("_law_family", 10)]) (blkOk_by (by kernel_rfl)) (fun _ _ _ _ _ => (tg_name (i := 10) (by decide) sc_law_renamed.nd rfl (.inl rfl))) (cap_in (d := d_law_renamed__law_family_by) (fr := (["_law_other"] : List Str)) (by kernel_rfl) rfl fun _ => rfl) (fun c ws _ _ _ _ _ cy => (te_clo On_law_renamed__law_family_by hr (by decide) cy (i := 2) rfl (.inr (.inl rfl)) (ta_cons (te_var (i := 10) rfl (.inl rfl)) ta_nil)))) ta_nil)) ta_nil)))
      (tss_cons (ts_ret (te_tup (ta_cons (te_fnT fn_tuple rfl Z.b_tuple boot_tuple (ta_cons (te_var (i := 3) rfl (.inl rfl)) ta_nil)) (ta_cons (te_var (i := 6) rfl (.inl rfl)) (ta_cons (te_fnT fn_tuple rfl Z.b_tuple boot_tuple (ta_cons (te_var (i := 4) rfl (.inl rfl)) ta_nil)) (ta_cons (te_fnT fn_tuple rfl Z.b_tuple boot_tuple (ta_cons (te_var (i := 5) rfl (.inl rfl)) ta_nil)) ta_nil))))))
      tss_nil))))))
  exact ⟨fd, fn_tM F sc_law_renamed (tblB_ok Z.tb).1 TB (len_law_renamed _) hb (vc_law_renamed _), Z.g_law_renamed, F.kp, F.bindsN fun _ _ _ _ _ _ us hl => match us, hl with | [_, _], _ => rfl⟩
theorem sc_the_law : FnScope N_the_law (["_law_script"] : List Str) (defScope s_the_law) := ⟨rfl, rfl, rfl, by decide +kernel, rfl, by decide +kernel, by decide +kernel⟩
theorem ok_the_law (Z : Zx K mg) : ∃ fd : FuncData, (∀ (s : Shared) (u : Value), BindsTo s fd ⟨[u], []⟩ [("_law_script", u)]) ∧ ∀ base : Heap, LamX.TabB base mg (tbC K "_law_renamed") (tbP K "_law_renamed") → FnOk P w K mg base (L2N.CX P w) 7 (He.ga K "law") fd (["_law_script"] : List Str) (liftSp P K w (sp_the_law (tbP K "_law_renamed"))) := by
  obtain ⟨fd, F⟩ := Z.f_the_law
  refine ⟨fd, law_def F fun _ _ _ _ _ _ us hl => match us, hl with | [_], _ => rfl, fun base TB => ?_⟩
  have O_law_pen_of : Okf P w K mg base 1 "_law_pen_of" (["_law_script"] : List Str) sp_law_pen_of := ok_law_pen_of Z
  have O_law_drawn_book : Okf P w K mg base 3 "_law_drawn_book" (["_law_pen", "_law_most", "_law_rate"] : List Str) sp_law_drawn_book := ok_law_drawn_book Z
  have O_law_drawn_names : Okf P w K mg base 2 "_law_drawn_names" (["_law_pen", "_law_many"] : List Str) sp_law_drawn_names := ok_law_drawn_names Z
  have O_ties : Okf P w K mg base 6 "ties" (["book", "a", "b"] : List Str) sp_ties := ok_ties Z
  have O_law_draw : Okf P w K mg base 1 "_law_draw" (["_law_pen", "_law_many"] : List Str) sp_law_draw := ok_law_draw Z
  have O_law_without : Okf P w K mg base 1 "_law_without" (["_law_book", "_law_name"] : List Str) sp_law_without := ok_law_without Z
  have O_law_renamed : Okf P w K mg base 2 "_law_renamed" (["_law_book", "_law_other"] : List Str) (sp_law_renamed (tbP K "_law_renamed")) := ok_law_renamed Z TB
  have hb : ∀ (cdv : Value) (A : Around) (outer : List Env) (s : Shared) (H : Hp) (E : XK), Room 6 (A.deeper (envOfC "law" (defScope s_the_law) s.heap.objs.size (He.ga K "law") cdv)) → TSs (cxG P w K mg base N_the_law "law" (defScope s_the_law) (He.ga K "law") cdv A outer s H E) (defBody s_the_law) (c_the_law (tbP K "_law_renamed") []) := fun cdv A outer s H E hr =>
    (tss_cons (ts_set (i := 1) sc_the_law.nd rfl (.inl rfl) (te_callO O_law_pen_of hr (by decide) rfl (ta_cons (te_var (i := 0) rfl (.inl rfl)) ta_nil)))
      (tss_cons (ts_set (i := 2) sc_the_law.nd rfl (.inl rfl) (te_callO O_law_drawn_book hr (by decide) rfl (ta_cons (te_var (i := 1) rfl (.inl rfl)) (ta_cons te_int (ta_cons te_int ta_nil)))))
      (tss_cons (ts_setComp (i := 3) rfl sc_the_law.nd rfl rfl rfl (ti_seq (te_ix (te_var (i := 2) rfl (.inl rfl)) te_int)) (ow := [("_law_name", 18), ("_law_mark", 19)]) (blkOk_by (by kernel_rfl)) (fun _ _ _ _ _ => (tg_tup rfl (n := 2) (tgs_cons (tg_name (i := 18) (by decide) sc_the_law.nd rfl (.inl rfl)) (tgs_cons (tg_name (i := 19) (by decide) sc_the_law.nd rfl (.inl rfl)) tgs_nil)) rfl rfl (takes_c (takes_c takes_z)))) (fun _ _ _ _ _ => tbs_nil) (fun _ _ _ _ _ => (te_var (i := 18) rfl (.inl rfl))))
      (tss_cons (ts_set (i := 4) sc_the_law.nd rfl (.inl rfl) (te_dzip rfl (te_var (i := 3) rfl (.inl rfl)) (te_callO O_law_drawn_names hr (by decide) rfl (ta_cons (te_var (i := 1) rfl (.inl rfl)) (ta_cons (te_fnB fn_len rfl Z.b_len boot_len (ta_cons (te_var (i := 3) rfl (.inl rfl)) ta_nil)) ta_nil))) rfl Z.b_dict rfl Z.b_zip))
      (tss_cons (ts_set (i := 5) sc_the_law.nd rfl (.inl rfl) (te_callO O_law_renamed hr (by decide) rfl (ta_cons (te_var (i := 2) rfl (.inl rfl)) (ta_cons (te_var (i := 4) rfl (.inl rfl)) ta_nil))))
      (tss_cons (ts_set (i := 6) sc_the_law.nd rfl (.inr rfl) (te_lst ta_nil))
      (tss_cons (ts_for (vs := [7]) (passes_of rfl) rfl (ti_seq (te_ix (te_var (i := 2) rfl (.inl rfl)) te_int)) (tg_name (i := 7) (by decide) sc_the_law.nd rfl (.inl rfl)) (tss_cons (ts_set (i := 6) sc_the_law.nd rfl (.inr rfl) (te_bin op_addT (te_var (i := 6) rfl (.inr (.inl rfl))) (te_fnT fn_list rfl Z.b_list boot_list (ta_cons (te_var (i := 7) rfl (.inl rfl)) ta_nil))))
      tss_nil))
      (tss_cons (ts_setComp (i := 8) rfl sc_the_law.nd rfl rfl rfl (ti_seq (te_var (i := 3) rfl (.inl rfl))) (ow := [("_law_name", 18)]) (blkOk_by (by kernel_rfl)) (fun _ _ _ _ _ => (tg_name (i := 18) (by decide) sc_the_law.nd rfl (.inl rfl))) (fun _ _ _ _ _ => (tbs_one (tb_cmp (op_ninT (u65 hr)) (te_var (i := 18) rfl (.inl rfl)) (te_var (i := 6) rfl (.inr (.inl rfl))) rfl))) (fun _ _ _ _ _ => (te_var (i := 18) rfl (.inl rfl))))
      (tss_cons (ts_for (vs := [9, 7]) (passes_of rfl) rfl (ti_seq (te_slice (te_bin op_addT (te_ix (te_var (i := 2) rfl (.inl rfl)) te_int) (te_ix (te_var (i := 2) rfl (.inl rfl)) te_int)) to_no (to_some te_int))) (tg_tup rfl (n := 2) (tgs_cons (tg_name (i := 9) (by decide) sc_the_law.nd rfl (.inl rfl)) (tgs_cons (tg_name (i := 7) (by decide) sc_the_law.nd rfl (.inl rfl)) tgs_nil)) rfl rfl (takes_c (takes_c takes_z))) (tss_cons (ts_if (tb_cmp (op_eqT (u64 hr)) (te_comp rfl sc_the_law.nd (ti_seq (te_callO O_ties hr (by decide) rfl (ta_cons (te_var (i := 2) rfl (.inl rfl)) (ta_cons (te_var (i := 9) rfl (.inl rfl)) (ta_cons (te_ix (te_var (i := 7) rfl (.inl rfl)) (te_un op_negT te_int)) ta_nil))))) (ow := [("_law_tie", 20)]) (blkOk_by (by kernel_rfl)) (fun _ _ _ _ _ => (tg_name (i := 20) (by decide) sc_the_law.nd rfl (.inl rfl))) (fun _ _ _ _ _ => (tbs_one (tb_cmp (op_eqT (u64 hr)) (te_slice (te_var (i := 20) rfl (.inl rfl)) to_no (to_some te_int)) (te_tup (ta_cons te_int (ta_cons te_int ta_nil))) rfl))) (fun _ _ _ _ _ => (te_var (i := 20) rfl (.inl rfl)))) (te_lst ta_nil) rfl) (tss_cons (ts_ret te_bl)
      tss_nil) tss_nil)
      tss_nil))
      (tss_cons (ts_for (vs := [10]) (passes_of rfl) rfl (ti_range1 rfl Z.b_range (te_bin op_mulT2 te_int (te_fnT fn_int rfl Z.b_int boot_int (ta_cons (te_cmp (op_gtT (u64 hr)) (te_fnB fn_len rfl Z.b_len boot_len (ta_cons (te_var (i := 3) rfl (.inl rfl)) ta_nil)) te_int rfl) ta_nil)))) (tg_name (i := 10) (by decide) sc_the_law.nd rfl (.inl rfl)) (tss_cons (ts_set (i := 11) sc_the_law.nd rfl (.inl rfl) (te_callO O_law_draw hr (by decide) rfl (ta_cons (te_var (i := 1) rfl (.inl rfl)) (ta_cons (te_fnB fn_len rfl Z.b_len boot_len (ta_cons (te_var (i := 3) rfl (.inl rfl)) ta_nil)) ta_nil))))
      (tss_cons (ts_set (i := 12) sc_the_law.nd rfl (.inl rfl) (te_bin op_addT (te_bin op_addT (te_var (i := 11) rfl (.inl rfl)) te_int) (te_callO O_law_draw hr (by decide) rfl (ta_cons (te_var (i := 1) rfl (.inl rfl)) (ta_cons (te_bin op_subT (te_fnB fn_len rfl Z.b_len boot_len (ta_cons (te_var (i := 3) rfl (.inl rfl)) ta_nil)) te_int) ta_nil)))))
      (tss_cons (ts_asg (vs := [13, 14]) (te_tup (ta_cons (te_ix (te_var (i := 3) rfl (.inl rfl)) (te_var (i := 11) rfl (.inl rfl))) (ta_cons (te_ix (te_var (i := 3) rfl (.inl rfl)) (te_bin op_modT (te_var (i := 12) rfl (.inl rfl)) (te_fnB fn_len rfl Z.b_len boot_len (ta_cons (te_var (i := 3) rfl (.inl rfl)) ta_nil)))) ta_nil))) (tg_tup rfl (n := 2) (tgs_cons (tg_name (i := 13) (by decide) sc_the_law.nd rfl (.inr rfl)) (tgs_cons (tg_name (i := 14) (by decide) sc_the_law.nd rfl (.inr rfl)) tgs_nil)) rfl rfl (takes_c (takes_c takes_z))))
      (tss_cons (ts_set (i := 15) sc_the_law.nd rfl (.inl rfl) (te_callO O_ties hr (by decide) rfl (ta_cons (te_var (i := 2) rfl (.inl rfl)) (ta_cons (te_var (i := 13) rfl (.inr (.inl rfl))) (ta_cons (te_var (i := 14) rfl (.inr (.inl rfl))) ta_nil)))))
      (tss_cons (ts_if (tb_cmp (op_neT (u64 hr)) (te_callO O_ties hr (by decide) rfl (ta_cons (te_var (i := 2) rfl (.inl rfl)) (ta_cons (te_var (i := 14) rfl (.inr (.inl rfl))) (ta_cons (te_var (i := 13) rfl (.inr (.inl rfl))) ta_nil)))) (te_fnT fn_tuple rfl Z.b_tuple boot_tuple (ta_cons (te_fnB (fn_sorted (u70 hr)) rfl Z.b_sorted boot_sorted (ta_cons (te_comp rfl sc_the_law.nd (ti_seq (te_var (i := 15) rfl (.inl rfl))) (ow := [("_law_m", 21), ("_law_n", 22), ("_law_half", 23), ("_law_by", 24)]) (blkOk_by (by kernel_rfl)) (fun _ _ _ _ _ => (tg_tup rfl (n := 4) (tgs_cons (tg_name (i := 21) (by decide) sc_the_law.nd rfl (.inl rfl)) (tgs_cons (tg_name (i := 22) (by decide) sc_the_law.nd rfl (.inl rfl)) (tgs_cons (tg_name (i := 23) (by decide) sc_the_law.nd rfl (.inl rfl)) (tgs_cons (tg_name (i := 24) (by decide) sc_the_law.nd rfl (.inl rfl)) tgs_nil)))) rfl rfl (takes_c (takes_c (takes_c (takes_c takes_z)))))) (fun _ _ _ _ _ => tbs_nil) (fun _ _ _ _ _ => (te_tup (ta_cons (te_var (i := 22) rfl (.inl rfl)) (ta_cons (te_var (i := 21) rfl (.inl rfl)) (ta_cons (te_var (i := 23) rfl (.inl rfl)) (ta_cons (te_var (i := 24) rfl (.inl rfl)) ta_nil))))))) ta_nil)) ta_nil)) rfl) (tss_cons (ts_ret te_bl)
      tss_nil) tss_nil)
      (tss_cons (ts_if (tb_cmp (op_neT (u64 hr)) (te_callO O_ties hr (by decide) rfl (ta_cons (te_var (i := 5) rfl (.inl rfl)) (ta_cons (te_dg (u64 hr) (te_var (i := 4) rfl (.inl rfl)) (te_var (i := 13) rfl (.inr (.inl rfl)))) (ta_cons (te_dg (u64 hr) (te_var (i := 4) rfl (.inl rfl)) (te_var (i := 14) rfl (.inr (.inl rfl)))) ta_nil)))) (te_var (i := 15) rfl (.inl rfl)) rfl) (tss_cons (ts_ret te_bl)
      tss_nil) tss_nil)
      (tss_cons (ts_setComp (i := 16) rfl sc_the_law.nd rfl rfl rfl (ti_seq (te_var (i := 8) rfl (.inl rfl))) (ow := [("_law_name", 18)]) (blkOk_by (by kernel_rfl)) (fun _ _ _ _ _ => (tg_name (i := 18) (by decide) sc_the_law.nd rfl (.inl rfl))) (fun _ _ _ _ _ => (tbs_one (tb_cmp (op_ninT (u65 hr)) (te_var (i := 18) rfl (.inl rfl)) (te_tup (ta_cons (te_var (i := 13) rfl (.inr (.inl rfl))) (ta_cons (te_var (i := 14) rfl (.inr (.inl rfl))) ta_nil))) rfl))) (fun _ _ _ _ _ => (te_var (i := 18) rfl (.inl rfl))))
      (tss_cons (ts_if (tb_cmp (op_neT (u64 hr)) (te_var (i := 16) rfl (.inl rfl)) (te_lst ta_nil) rfl) (tss_cons (ts_set (i := 17) sc_the_law.nd rfl (.inl rfl) (te_callO O_law_without hr (by decide) rfl (ta_cons (te_var (i := 2) rfl (.inl rfl)) (ta_cons (te_ix (te_var (i := 16) rfl (.inl rfl)) (te_callO O_law_draw hr (by decide) rfl (ta_cons (te_var (i := 1) rfl (.inl rfl)) (ta_cons (te_fnB fn_len rfl Z.b_len boot_len (ta_cons (te_var (i := 16) rfl (.inl rfl)) ta_nil)) ta_nil)))) ta_nil))))
      (tss_cons (ts_if (tb_cmp (op_neT (u64 hr)) (te_callO O_ties hr (by decide) rfl (ta_cons (te_var (i := 17) rfl (.inl rfl)) (ta_cons (te_var (i := 13) rfl (.inr (.inl rfl))) (ta_cons (te_var (i := 14) rfl (.inr (.inl rfl))) ta_nil)))) (te_var (i := 15) rfl (.inl rfl)) rfl) (tss_cons (ts_ret te_bl)
      tss_nil) tss_nil)
      tss_nil)) tss_nil)
      tss_nil)))))))))
      (tss_cons (ts_ret te_bl)
      tss_nil)))))))))))
  exact fn_t F sc_the_law (fun ts S Q E h => by obtain ⟨_, _, rfl, _⟩ := h; rfl) hb (vc_the_law _ _)
end
end K31
namespace K31
open PySem PySem.Spec PyProof.Rows TL
open L2 hiding putF
theorem zx {w : World} {K : PySem.W.Frag} {h : Heap} {mg : Str → Option Value} (X : K.In h) (H : h.Ns mainGlobals mg) (c : SaysZ fa fn tbs ex w K) : Zx K mg where
  b_abs := He.free_ok X H (c.t.d.fact 0 (f := .free "abs") rfl)
  b_dict := He.free_ok X H (c.t.d.fact 1 (f := .free "dict") rfl)
  b_enumerate := He.free_ok X H (c.t.d.fact 2 (f := .free "enumerate") rfl)
  b_int := He.free_ok X H (c.t.d.fact 3 (f := .free "int") rfl)
  b_len := He.free_ok X H (c.t.d.fact 4 (f := .free "len") rfl)
  b_list := He.free_ok X H (c.t.d.fact 5 (f := .free "list") rfl)
  b_max := He.free_ok X H (c.t.d.fact 6 (f := .free "max") rfl)
  b_range := He.free_ok X H (c.t.d.fact 7 (f := .free "range") rfl)
  b_set := He.free_ok X H (c.t.d.fact 8 (f := .free "set") rfl)
  b_sorted := He.free_ok X H (c.t.d.fact 9 (f := .free "sorted") rfl)
  b_tuple := He.free_ok X H (c.t.d.fact 10 (f := .free "tuple") rfl)
  b_zip := He.free_ok X H (c.t.d.fact 11 (f := .free "zip") rfl)
  f_families_of := c.t.d.def_ 0 (d := h_families_of) rfl
  g_families_of := He.glo_ok X H (c.t.d.fact 12 (f := .glo "families_of") rfl)
  f_depths := c.t.d.def_ 1 (d := h_depths) rfl
  g_depths := He.glo_ok X H (c.t.d.fact 13 (f := .glo "depths") rfl)
  f_End___init__ := c.t.d.def_ 2 (d := h_End___init__) rfl
  f_Walk_meets := c.t.d.def_ 3 (d := h_Walk_meets) rfl
  f_Walk_go := c.t.d.def_ 4 (d := h_Walk_go) rfl
  f_Walk_go_on := c.t.d.def_ 5 (d := h_Walk_go_on) rfl
  f_Walk_told := c.t.d.def_ 6 (d := h_Walk_told) rfl
  f_Walk___init__ := c.t.d.def_ 7 (d := h_Walk___init__) rfl
  f_ties := c.t.d.def_ 8 (d := h_ties) rfl
  g_ties := He.glo_ok X H (c.t.d.fact 14 (f := .glo "ties") rfl)
  f_law_pen_of := c.t.d.def_ 9 (d := h_law_pen_of) rfl
  g_law_pen_of := He.glo_ok X H (c.t.d.fact 15 (f := .glo "_law_pen_of") rfl)
  f_law_draw := c.t.d.def_ 10 (d := h_law_draw) rfl
  g_law_draw := He.glo_ok X H (c.t.d.fact 16 (f := .glo "_law_draw") rfl)
  f_law_drawn_names := c.t.d.def_ 11 (d := h_law_drawn_names) rfl
  g_law_drawn_names := He.glo_ok X H (c.t.d.fact 17 (f := .glo "_law_drawn_names") rfl)
  f_law_drawn_family := c.t.d.def_ 12 (d := h_law_drawn_family) rfl
  g_law_drawn_family := He.glo_ok X H (c.t.d.fact 18 (f := .glo "_law_drawn_family") rfl)
  f_law_drawn_book := c.t.d.def_ 13 (d := h_law_drawn_book) rfl
  g_law_drawn_book := He.glo_ok X H (c.t.d.fact 19 (f := .glo "_law_drawn_book") rfl)
  f_law_without := c.t.d.def_ 14 (d := h_law_without) rfl
  g_law_without := He.glo_ok X H (c.t.d.fact 20 (f := .glo "_law_without") rfl)
  f_law_renamed := c.t.d.def_ 15 (d := h_law_renamed) rfl
  g_law_renamed := He.glo_ok X H (c.t.d.fact 21 (f := .glo "_law_renamed") rfl)
  f_the_law := c.t.d.def_ 16 (d := h_the_law) rfl
  g_the_law := He.glo_ok X H (c.t.d.fact 22 (f := .glo "law") rfl)
  c_End := He.cls_ok (c.t.d.fact 23 (f := .cls "End") rfl)
  na_End_name := He.noat_ok (c.t.d.fact 24 (f := .noat "End" "name") rfl)
  na_End_family := He.noat_ok (c.t.d.fact 25 (f := .noat "End" "family") rfl)
  na_End_steps := He.noat_ok (c.t.d.fact 26 (f := .noat "End" "steps") rfl)
  mk_End := He.mkr_ok (c.t.d.fact 27 (f := .mkr "End") rfl)
  gm_End := He.glo_ok X H (c.t.d.fact 28 (f := .glo "End") rfl)
  c_Walk := He.cls_ok (c.t.d.fact 29 (f := .cls "Walk") rfl)
  na_Walk_depth := He.noat_ok (c.t.d.fact 30 (f := .noat "Walk" "depth") rfl)
  na_Walk_families := He.noat_ok (c.t.d.fact 31 (f := .noat "Walk" "families") rfl)
  na_Walk_met := He.noat_ok (c.t.d.fact 32 (f := .noat "Walk" "met") rfl)
  na_Walk_found := He.noat_ok (c.t.d.fact 33 (f := .noat "Walk" "found") rfl)
  mk_Walk := He.mkr_ok (c.t.d.fact 34 (f := .mkr "Walk") rfl)
  gm_Walk := He.glo_ok X H (c.t.d.fact 35 (f := .glo "Walk") rfl)
  me_Walk_meets := He.meth_ok (c.t.d.fact 36 (f := .meth "Walk" "meets") rfl)
  me_Walk_go := He.meth_ok (c.t.d.fact 37 (f := .meth "Walk" "go") rfl)
  me_Walk_go_on := He.meth_ok (c.t.d.fact 38 (f := .meth "Walk" "go_on") rfl)
  me_Walk_told := He.meth_ok (c.t.d.fact 39 (f := .meth "Walk" "told") rfl)
  tb := all_at c.more 0
end K31
open PySem PySem.W PySem.Calls PyProof.Rows
theorem PySem.Challenge.cw_kinlines_k31_whole_ties_both_ways_holds : PySem.Challenge.rw_kinlines_k31_whole_ties_both_ways.Holds := by
  w_on; o_law
  refine HandSHeadRun.head_any (r := OpenLaw.row PySem.Challenge.rw_kinlines_k31_whole_ties_both_ways) (q := view (OpenLaw.row PySem.Challenge.rw_kinlines_k31_whole_ties_both_ways).prog [13, 14]) (H := K31.hk) (ob := K31.ob) (M := 6000) (loose := K31.loose) (d := HandSHeadRun.topDef (OpenLaw.row PySem.Challenge.rw_kinlines_k31_whole_ties_both_ways).prog 14) (kwd := []) K31.ob_eq
    (by kernel_rfl) (fun s => by kernel_rfl) K31.run (by kernel_rfl) (by kernel_rfl) (by kernel_rfl) (by rfl) (by first | assumption | decide +kernel) (by decide +kernel) ⟨rfl, rfl, rfl, rfl, rfl, by decide +kernel⟩ ?hw ?hc
  case hw => w_witness2
  case hc =>
    refine TL.walk_tlT (xm := "_law_renamed") (qm := "_law_renamed.<locals>._law_family_by") (dm := HandSHeadRun.topDef (PySem.W.OpenLaw.row PySem.Challenge.rw_kinlines_k31_whole_ties_both_ways).prog 13) (l := PySem.Challenge.rw_kinlines_k31_whole_ties_both_ways) (k := 7) (x := "_law_script") (y := "law") (sp := K31.sp_the_law) rfl (by kernel_rfl) ⟨rfl, by decide, by decide⟩ (by kernel_rfl) (by kernel_rfl) (TL.law1_spT "_law_renamed.<locals>._law_family_by") ?_
    intro w mg h Y G
    obtain ⟨K, KX, c⟩ := Y
    have Z := K31.zx KX G c
    obtain ⟨fd, hb, hF⟩ := K31.ok_the_law (P := (PySem.Challenge.rw_kinlines_k31_whole_ties_both_ways).prog) (w := w) Z
    exact ⟨K, KX, Z.g_the_law, Z.tb, fd, hb, fun base _ _ TB => .of (hF base TB)⟩
