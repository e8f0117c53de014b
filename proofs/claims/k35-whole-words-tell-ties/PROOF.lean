import PyProof.Rows.All
import Wide.All
import OpenK.AllK
import Wide.FinOn
import KE.KStateDown
import HandS.Base
import HandS.Call
import HandS.More
import HandS.ExcInit
import HandS.Head0
import HandS.Head1
import HandS.Head2
import HandS.HeadEnd
import HandS.HeadHook1
import HandS.HeadHook2
import HandS.HeadHook3
import HandS.HeadHook4
import PySem.Challenge.RW_kinlines_k35_whole_words_tell_ties
import Lean
import HandS.Ends
import HandS.Words
import HandS.WordsExc
import HandS.Defaults
import HandS.ForMost
import HandS.ForExc
import HandS.CallSlots
import HandS.TryMany
import HandS.TupAny
import KE.KDictKeyed
import KE.KDictPairs
import HandS.ExcInitHot
import HandS.CallLocal
import KE.KExcIs
import HandS.Style
import HandS.Deep
import HandS.Wide
import KE.DataCmp
import KE.SortData
import HandS.Conv
import HandS.IsInst
import HandS.Text
import KE.DataMinMax
import KE.SortCalls
import HandS.Strs
import HandS.Replace
import KE.KIntText
import HandS.TupSets
import HandS.Dict
import HandS.SetFor
import KE.KSortTupAny
import KE.GoesZip
import KE.GoesMore
import KE.GoesEnum
import HandS.HotCalls
import KE.KRevSl
import HandS.FStrTup
import HandS.ListItems
import PyProof.NeKinds
import KE.KDictSum
import HandS.Iter
import HandS.ReplaceList
import HandS.ReplaceLit
import HandS.DictEq
import HandS.DeepEq
import HandS.ExcValue
import KE.IntTextLaws
import HandS.StrMore
set_option Elab.async false
set_option linter.all false
set_option maxRecDepth 100000
set_option maxHeartbeats 4000000
namespace TL
open PySem PySem.Spec PyProof.Rows L2
def noDic (K : PySem.W.Frag) (x : Str) : Bool := match K.lookup (He.ga K x) with
  | some ⟨.type c, none, _, _⟩ => decide (c = "tuple")
  | _ => false
structure SaysZ (fa : List He.Fa) (fn : List He.DefD) (ts : List He.Tab) (ex : PySem.W.Frag → Bool) (w : World) (K : PySem.W.Frag) : Prop where
  t : He.SaysT fa fn ts w K
  more : ex K = true
def refsW (o : Obj) : List Addr := match o.data with
  | .seq its _ => its.toList.flatMap He.refV
  | .dict es _ => es.toList.flatMap fun e => He.refV e.val
  | .func fd => He.refV fd.code
  | .cls cd => [cd.ns]
  | _ => []
def growW (g : Addr → Option Obj) (as : List Addr) : List Addr := as.flatMap fun a => match g a with
  | some o => refsW o
  | none => []
def levW (g : Addr → Option Obj) : Nat → List Addr → List Addr
  | 0, as => as
  | n + 1, as => as ++ levW g n (growW g as)
def asW (g : Addr → Option Obj) (n : Nat) : List Addr := (levW g n [mainGlobals]) ++ [cStatics]
def obsW (n : Nat) (fa : List He.Fa) (fn : List He.DefD) (ts : List He.Tab) (ex : PySem.W.Frag → Bool) (g : Addr → Option Obj) : He.AlX := (He.obsT fa fn ts (He.frT g (asW g n)), ex (He.frT g (asW g n)))
def hookW (n : Nat) (fa : List He.Fa) (fn : List He.DefD) (ts : List He.Tab) (ex : PySem.W.Frag → Bool) : PySem.W.Hook where
  α := He.AlX
  obs := fun s => obsW n fa fn ts ex s.heap.get?
  val := fun w => He.valX fn ts w
  says := fun w h => ∃ K : PySem.W.Frag, K.In h ∧ SaysZ fa fn ts ex w K
  of := fun _ _ e => ⟨_, He.frT_in, ⟨congrArg (fun z : He.AlX => z.1) e, congrArg (fun z : He.AlX => z.2) e⟩⟩
  keeps := fun _ _ _ ⟨K, hK, c⟩ k => ⟨K, PySem.W.Frag.In.keeps hK k, c⟩
theorem obsW_eq {n : Nat} {fa : List He.Fa} {fn : List He.DefD} {ts : List He.Tab} {ex : PySem.W.Frag → Bool} {g : Addr → Option Obj} {s : Shared} (h : ∀ a, g a = s.heap.get? a) : obsW n fa fn ts ex g = (hookW n fa fn ts ex).obs s := by
  have e : g = s.heap.get? := funext h
  rw [e] <;> rfl
abbrev kW (n : Nat) (s : PySem.W.SharedT) : PySem.W.Frag := He.frT (HandSHeadRun.getT s) (asW (HandSHeadRun.getT s) n)
section
open HandSHeadRun PySem.W PySem.Calls
noncomputable abbrev endW (r : OpenRow) (M : Nat) (w : World) (os : OsState) : Option SharedT := endF (stepQ (denQ tabQ) r.prog w) M r.prog w os
abbrev Part1 (r : OpenRow) (q : Program) (loose : List PySem.Str) (M : Nat) (w : World) : Prop := ∀ os, (endW r M w os).map (fun s => (looksF r.prog (boot_heap w.params) s.abs, seenQ q loose (importedModules r.prog.main.body) (fun s => xlAt q [] s && recOk r.toRowW.records s) s.abs)) = some (true, openGood q loose)
abbrev Part2 (r : OpenRow) (n : Nat) (fa : List He.Fa) (ts : List He.Tab) (ex : Frag → Bool) (M : Nat) (w : World) : Prop := ∀ os, (endW r M w os).map (fun s => (fa.all (fun f => f.ok (kW n s)), ts.map (fun t => He.dicW (kW n s) (t.1 (kW n s))), ex (kW n s))) = some (true, ts.map (fun t => some (He.keysIn w.params t.2)), true)
abbrev Part3 (r : OpenRow) (n : Nat) (fn : List He.DefD) (M : Nat) (w : World) : Prop := ∀ os, (endW r M w os).map (fun s => (fn.all (fun d => d.ok (kW n s)), fn.map fun d => He.fnW (kW n s) d.at_)) = some (true, fn.map He.DefD.val)
theorem run_parts {r : OpenRow} {q : Program} {n : Nat} {fa : List He.Fa} {fn : List He.DefD} {ts : List He.Tab} {ex : Frag → Bool} {M : Nat} {loose : List PySem.Str} {w : World} (h1 : Part1 r q loose M w) (h2 : Part2 r n fa ts ex M w) (h3 : Part3 r n fn M w) :
    RunEq r q (hookW n fa fn ts ex) (fun s => obsW n fa fn ts ex (getT s)) M loose w := fun os => by
  have k1 := h1 os
  have k2 := h2 os
  have k3 := h3 os
  unfold endW at k1 k2 k3
  obtain ⟨s, e, a1⟩ := Option.map_eq_some_iff.mp k1
  rw [e] at k2 k3 ⊢
  have a2 := Option.some.inj k2
  have a3 := Option.some.inj k3
  injection a1 with b1 b2
  injection a2 with b3 b4
  injection b4 with b4 b5
  injection a3 with b6 b7
  show some (looksF r.prog (boot_heap w.params) s.abs, seenQ q loose (importedModules r.prog.main.body) (fun s => xlAt q [] s && recOk r.toRowW.records s) s.abs, ((((fa.all fun f => f.ok (kW n s)) && fn.all fun d => d.ok (kW n s), fn.map fun d => He.fnW (kW n s) d.at_), ts.map fun t => He.dicW (kW n s) (t.1 (kW n s))), ex (kW n s))) = some (true, openGood q loose, (((true, fn.map He.DefD.val), ts.map fun t => some (He.keysIn w.params t.2)), true))
  rw [b1, b2, b3, b4, b5, b6, b7]
  rfl
end
end TL
namespace K35
open PySem PySem.Spec PyProof.Rows TL
open L2 hiding putF
def top (i : Nat) : Stmt := PySem.Challenge.pw_kinlines_k35_whole_words_tell_ties.main.body.getD i (.Pass ⟨0, 0, 0, 0⟩)
abbrev s_greats : Stmt := top 9
abbrev s_line_word : Stmt := top 10
abbrev s_cousin_word : Stmt := top 11
abbrev s_plain_word : Stmt := top 12
abbrev s_word_ahead : Stmt := top 13
abbrev s_half_word : Stmt := top 14
abbrev s_word_of : Stmt := top 15
abbrev s_law_pen_of : Stmt := top 17
abbrev s_law_draw : Stmt := top 18
abbrev s_law_read_line : Stmt := top 19
abbrev s_law_read_cousin : Stmt := top 20
abbrev s_law_read_word : Stmt := top 21
abbrev s_the_law : Stmt := top 22

end K35
namespace K35
open PySem PySem.Spec PyProof.Rows TL
open L2 hiding putF
def tbs : List He.Tab := []
def h_greats : He.DefD := ⟨("greats", none), "greats", "greats", defArgs s_greats, defBody s_greats, defScope s_greats, [], []⟩
def h_line_word : He.DefD := ⟨("line_word", none), "line_word", "line_word", defArgs s_line_word, defBody s_line_word, defScope s_line_word, [], []⟩
def h_cousin_word : He.DefD := ⟨("cousin_word", none), "cousin_word", "cousin_word", defArgs s_cousin_word, defBody s_cousin_word, defScope s_cousin_word, [], []⟩
def h_plain_word : He.DefD := ⟨("plain_word", none), "plain_word", "plain_word", defArgs s_plain_word, defBody s_plain_word, defScope s_plain_word, [], []⟩
def h_word_ahead : He.DefD := ⟨("word_ahead", none), "word_ahead", "word_ahead", defArgs s_word_ahead, defBody s_word_ahead, defScope s_word_ahead, [], []⟩
def h_half_word : He.DefD := ⟨("half_word", none), "half_word", "half_word", defArgs s_half_word, defBody s_half_word, defScope s_half_word, [], []⟩
def h_word_of : He.DefD := ⟨("word_of", none), "word_of", "word_of", defArgs s_word_of, defBody s_word_of, defScope s_word_of, [], []⟩
def h_law_pen_of : He.DefD := ⟨("_law_pen_of", none), "_law_pen_of", "_law_pen_of", defArgs s_law_pen_of, defBody s_law_pen_of, defScope s_law_pen_of, [], []⟩
def h_law_draw : He.DefD := ⟨("_law_draw", none), "_law_draw", "_law_draw", defArgs s_law_draw, defBody s_law_draw, defScope s_law_draw, [], []⟩
def h_law_read_line : He.DefD := ⟨("_law_read_line", none), "_law_read_line", "_law_read_line", defArgs s_law_read_line, defBody s_law_read_line, defScope s_law_read_line, [], []⟩
def h_law_read_cousin : He.DefD := ⟨("_law_read_cousin", none), "_law_read_cousin", "_law_read_cousin", defArgs s_law_read_cousin, defBody s_law_read_cousin, defScope s_law_read_cousin, [], []⟩
def h_law_read_word : He.DefD := ⟨("_law_read_word", none), "_law_read_word", "_law_read_word", defArgs s_law_read_word, defBody s_law_read_word, defScope s_law_read_word, [], []⟩
def h_the_law : He.DefD := ⟨("law", none), "law", "law", defArgs s_the_law, defBody s_the_law, defScope s_the_law, [], []⟩
def fn : List He.DefD := [h_greats, h_line_word, h_cousin_word, h_plain_word, h_word_ahead, h_half_word, h_word_of, h_law_pen_of, h_law_draw, h_law_read_line, h_law_read_cousin, h_law_read_word, h_the_law]
def fa : List He.Fa := [.free "abs", .free "int", .free "len", .free "max", .free "min", .free "range", .free "set", .free "str", .glo "ABOVE", .glo "BELOW", .glo "BESIDE", .glo "DEGREES", .glo "DOWN", .glo "MARKS", .glo "TIMES", .glo "UP", .glo "greats", .glo "line_word", .glo "cousin_word", .glo "plain_word", .glo "word_ahead", .glo "half_word", .glo "word_of", .glo "_law_pen_of", .glo "_law_draw", .glo "_law_read_line", .glo "_law_read_cousin", .glo "_law_read_word", .glo "law"]
def ex (K : PySem.W.Frag) : Bool := ([He.tupB K "ABOVE" ((["aunt", "uncle", "pibling"] : List Str).map He.Dv.str), noDic K "ABOVE", He.tupB K "BELOW" ((["niece", "nephew", "nibling"] : List Str).map He.Dv.str), noDic K "BELOW", He.tupB K "BESIDE" ((["sister", "brother", "sibling"] : List Str).map He.Dv.str), noDic K "BESIDE", He.tupB K "DEGREES" ((["first", "second", "third", "fourth"] : List Str).map He.Dv.str), noDic K "DEGREES", He.tupB K "DOWN" ((["daughter", "son", "child"] : List Str).map He.Dv.str), noDic K "DOWN", He.tupB K "MARKS" ((["w", "m", "o"] : List Str).map He.Dv.str), noDic K "MARKS", He.tupB K "TIMES" ((["", " once removed", " twice removed"] : List Str).map He.Dv.str), noDic K "TIMES", He.tupB K "UP" ((["mother", "father", "parent"] : List Str).map He.Dv.str), noDic K "UP"] : List Bool).all id
def loose : List Str := (["MARKS", "UP", "DOWN", "BESIDE", "ABOVE", "BELOW", "DEGREES", "TIMES", "greats", "line_word", "cousin_word", "plain_word", "word_ahead", "half_word", "word_of", "_law_pen_of", "_law_draw", "_law_read_line", "_law_read_cousin", "_law_read_word"] : List Str)
abbrev R : PySem.W.OpenRow := PySem.W.OpenLaw.row PySem.Challenge.rw_kinlines_k35_whole_words_tell_ties
abbrev hk : PySem.W.Hook := hookW 4 fa fn tbs ex
def ob (s : PySem.W.SharedT) : He.AlX := obsW 4 fa fn tbs ex (HandSHeadRun.getT s)
theorem ob_eq (s : PySem.W.SharedT) : ob s = hk.obs s.abs := obsW_eq (HandSHeadRun.getT_eq s)
theorem run1 (w : World) : Part1 R (PySem.W.view R.prog [22]) loose 6000 w := by
  intro os
  kernel_rfl
theorem run2 (w : World) : Part2 R 4 fa tbs ex 6000 w := by
  intro os
  kernel_rfl
theorem run3 (w : World) : Part3 R 4 fn 6000 w := by
  intro os
  kernel_rfl
theorem run (w : World) : HandSHeadRun.RunEq R (PySem.W.view R.prog [22]) hk ob 6000 loose w := run_parts (run1 w) (run2 w) (run3 w)

end K35
namespace TL
open PySem PySem.Spec PyProof.Rows L2
/-- a tracked tuple whose object is known -/
abbrev fT (o : Obj) (xs : List V) : HO := .frz o (.tup xs)
section
variable {X : Cx} {es : List Expr} {t : TA} {pos : Pos}
theorem new_tup {pins : List (Addr × Obj)} {σ : L2.St} {H : Hp} {s : Shared} {its : List Value} {xs : List V} {Q : VK} (I : Inv X pins σ H s) (r : Vals xs its) (z : xs.length ≤ sizeLine)
    (q : ∀ o : Obj, o.dict = none → Q (.ref s.heap.objs.size) (upd H s.heap.objs.size (fT o xs))) : EP X pins σ Q (.ref s.heap.objs.size) { s with heap := s.heap.push { cls := .type "tuple", data := .seq its.toArray } } := by
  have at_ : (s.heap.push { cls := .type "tuple", data := .seq its.toArray }).get? s.heap.objs.size = some { cls := .type "tuple", data := .seq its.toArray } := Heap.get?_push_size _ rfl
  exact ⟨.ref _, _, I.laid (t' := s.toks) (o := fT { cls := .type "tuple", data := .seq its.toArray } xs) (fun b u e => Heap.get?_push_of_some _ e) (Nat.le_refl _) ⟨at_, z, its, r, _, at_, rfl, 0, rfl⟩, rfl, q _ rfl⟩
def tTupF (t : TA) : L2.TE := fun σ H Q => t σ H fun xs H1 => xs.length ≤ sizeLine ∧ ∀ p o, H1 p = none → o.dict = none → Q (.ref p) (upd H1 p (fT o xs))
theorem pe_tupF {k1} (h : PA X es t) : PE X (.Tuple es k1 pos) (tTupF t) := ⟨fun pins s σ H Q I hq =>
  wpAny_Tuple_spliced (thn (h.run pos pins s σ H _ I hq) fun us s1 ⟨xs, H1, I1, r, z, q⟩ => ⟨by rw [← r.length]; exact z, new_tup I1 r z fun o d => q _ o (I1.hok.fresh (Nat.le_refl _)) d⟩)⟩
/-- t + u -/
def rCatF (K : PySem.W.Frag) : R2 := fun x y H Q => ∃ a b xs ys, x = .ref a ∧ y = .ref b ∧ SqT K H a xs ∧ SqT K H b ys ∧ xs.length + ys.length ≤ sizeLine ∧
  (xs = [] → Q (.ref b) H) ∧ (xs ≠ [] → ys = [] → Q (.ref a) H) ∧ (xs ≠ [] → ys ≠ [] → ∀ p o, H p = none → o.dict = none → Q (.ref p) (upd H p (fT o (xs ++ ys))))
theorem op_catF : OpR X (binaryOp .Add) (rCatF X.K) := by
  intro pins s σ H x y v u Q I rx ry ⟨a, b, xs, ys, e1, e2, ha, hb, hz, q0, q1, q2⟩
  subst e1 e2
  cases rx
  cases ry
  obtain ⟨is1, r1, p1, _⟩ := I.tuple ha
  obtain ⟨is2, r2, p2, _⟩ := I.tuple hb
  by_cases hx : xs = []
  · subst hx
    cases r1
    exact cat_tup0 p1 p2 ⟨.ref b, H, I, rfl, q0 rfl⟩
  · refine HT.cat_tup p1 p2 (fun z => hx (r1.nil_iff.mp z)) (fun z => ⟨.ref a, H, I, rfl, q1 hx (r2.nil_iff.mp z)⟩) (fun z => ?_) (by rw [← r1.length, ← r2.length]; exact hz)
    exact new_tup I (r1.append r2) (by rw [List.length_append]; exact hz) fun o d => q2 hx (fun w => z (r2.nil_iff.mpr w)) _ o (I.hok.fresh (Nat.le_refl _)) d
/-- t[lo:hi] -/
def rSlF (K : PySem.W.Frag) : V → Option Int → Option Int → Hp → VK → Prop := fun x lo hi H Q => ∃ a xs, x = .ref a ∧ SqT K H a xs ∧
  (HT.sIx xs.length 0 lo = 0 ∧ HT.sIx xs.length xs.length hi = xs.length → Q (.ref a) H) ∧ (¬ (HT.sIx xs.length 0 lo = 0 ∧ HT.sIx xs.length xs.length hi = xs.length) → ∀ p o, H p = none → o.dict = none → Q (.ref p) (upd H p (fT o (cutV xs lo hi))))
theorem sl_tupF : SlR X (rSlF X.K) := by
  intro pins s σ H x v vl vu lo hi sl Q I rx hs pl pu ⟨a, xs, e1, hx, q1, q2⟩
  subst e1
  cases rx
  obtain ⟨its, r, ht, hz⟩ := I.tuple hx
  have hlen : its.toArray.size = xs.length := by rw [List.size_toArray]; exact r.length.symm
  refine ⟨"tuple", _, PyProof.Rows.slot_tuple_getitem.lookup, ht.typeIs, ?_⟩
  by_cases hw : HT.sIx xs.length 0 lo = 0 ∧ HT.sIx xs.length xs.length hi = xs.length
  · exact getItem_tuple_whole ht hs pl pu (by rw [hlen]; exact hw) ⟨.ref a, H, I, rfl, q1 hw⟩
  · refine HT.getItem_tuple_cut ht hs pl pu (by rw [hlen]; exact hw) ?_ (by rw [hlen]; exact hz)
    rw [hlen]
    exact new_tup I ((r.drop (HT.sIx xs.length 0 lo)).take (HT.sIx xs.length xs.length hi - HT.sIx xs.length 0 lo)) (Nat.le_trans (cutV_length xs lo hi) hz) fun o d => q2 hw _ o (I.hok.fresh (Nat.le_refl _)) d
/-- a tuple whose object is known to have no dict -/
def BareT (K : PySem.W.Frag) (H : Hp) (a : Addr) (xs : List V) : Prop := (∃ o, H a = some (fT o xs) ∧ o.dict = none) ∨
  ∃ (o : Obj) (its : Array Value) (n : Nat), K.lookup a = some o ∧ o.cls = .type "tuple" ∧ o.dict = none ∧ o.data = .seq its n ∧ its.size ≤ sizeLine ∧ Vals xs its.toList
theorem BareT.sq {K : PySem.W.Frag} {H : Hp} {a : Addr} {xs : List V} (h : BareT K H a xs) : SqT K H a xs := h.elim (fun ⟨o, z, _⟩ => .inl (.inr ⟨o, z⟩)) fun ⟨o, its, n, a1, a2, _, a4⟩ => .inr ⟨o, its, n, a1, a2, a4⟩
theorem BareT.plain {pins : List (Addr × Obj)} {σ : L2.St} {H : Hp} {s : Shared} {a : Addr} {xs : List V} (I : Inv X pins σ H s) (h : BareT X.K H a xs) : ∃ its : List Value, Vals xs its ∧ PlainSeq "tuple" s.heap a its.toArray ∧ xs.length ≤ sizeLine := by
  obtain ⟨its, r, ⟨ob, hb, hc, n, hd⟩, hz⟩ := I.tuple h.sq
  refine ⟨its, r, ⟨ob, n, hb, hc, ?_, hd⟩, hz⟩
  rcases h with ⟨o, e, d⟩ | ⟨o, is2, n2, a1, a2, a3, _⟩
  · obtain ⟨g, _⟩ := I.hok a _ e
    rw [hb] at g
    cases g
    exact d
  · have g := I.kIn _ _ a1
    rw [hb] at g
    cases g
    exact a3
end
end TL
namespace TL
open PySem PySem.Spec PyProof.Rows L2
/-- a sign: texts are of these alone -/
abbrev Sg := Fin 128
def txt (x : List Sg) : Str := ⟨(x.map (·.val)).toArray⟩
theorem txt_list (x : List Sg) : (txt x).cps.toList = x.map (·.val) := rfl
theorem map_val_inj : ∀ {x y : List Sg}, x.map (·.val) = y.map (·.val) → x = y
  | [], [], _ => rfl
  | [], _ :: _, h => by cases h
  | _ :: _, [], h => by cases h
  | a :: x, b :: y, h => by
    rw [List.map_cons, List.map_cons] at h
    injection h with h1 h2
    rw [Fin.ext h1, map_val_inj h2]
theorem txt_inj {x y : List Sg} (h : txt x = txt y) : x = y := map_val_inj (by rw [← txt_list, h, txt_list])
theorem txt_len (x : List Sg) : (txt x).length = x.length := by
  show (x.map (·.val)).toArray.size = x.length
  simp
theorem txt_app (x y : List Sg) : txt (x ++ y) = txt x ++ txt y := by
  show (⟨((x ++ y).map (·.val)).toArray⟩ : Str) = ⟨(x.map (·.val)).toArray ++ (y.map (·.val)).toArray⟩
  simp
/-- a value as a tree; ref: a thing that may change, told by the store -/
inductive T where
  | non
  | bl (b : Bool)
  | int (i : Int)
  | str (x : List Sg)
  | tup (xs : List T)
  | lst (xs : List T)
  | ref (a : Addr)
  | exc (c : Str) (ns : List Str) (vs : List T)
  | dct (nst : Bool) (ks vs : List T)
  | obj (c : Str) (ns : List Str) (vs : List T)
  | fn (x : Str)
  | scr (ns : List Int)
  deriving Inhabited

/-- what may change -/
inductive Cell where
  | lst (xs : List T)
  | dct (nst : Bool) (ks vs : List T)
  | ins (c : Str) (ns : List Str) (vs : List T)

abbrev Sto := Addr → Option Cell
abbrev TEnv := List (Option T)
def ups (S : Sto) (a : Addr) (c : Cell) : Sto := fun b => if b = a then some c else S b
theorem ups_same {S : Sto} {a : Addr} {c : Cell} : ups S a c a = some c := if_pos rfl
theorem ups_ne {S : Sto} {a b : Addr} {c : Cell} (h : b ≠ a) : ups S a c b = S b := if_neg h
def offs (S : Sto) (a : Addr) : Sto := fun b => if b = a then none else S b
theorem offs_same {S : Sto} {a : Addr} : offs S a a = none := if_pos rfl
theorem offs_ne {S : Sto} {a b : Addr} (h : b ≠ a) : offs S a b = S b := if_neg h

mutual
/-- a key, up to == -/
def keyOf : T → Option NestedKey
  | .non => some .none
  | .bl b => some (.num (if b = true then 1 else 0))
  | .int i => some (.num i)
  | .str x => some (.text (txt x))
  | .tup ts => (keysOf ts).map .tup
  | _ => none
def keysOf : List T → Option (List NestedKey)
  | [] => some []
  | t :: ts => match keyOf t, keysOf ts with
    | some k, some ks => some (k :: ks)
    | _, _ => none
end
def isFrz : HO → Bool
  | .frz _ _ => true
  | _ => false
/-- the written part and the world -/
structure Gd where
  P : Program
  K : PySem.W.Frag
  w : World
  /-- what is not looked at -/
  M : Addr → Prop
/-- an object of the written part -/
def StT (K : PySem.W.Frag) (a : Addr) (xs : List V) : Prop :=
  ∃ (o : Obj) (its : Array Value) (n : Nat), K.lookup a = some o ∧ o.cls = .type "tuple" ∧ o.dict = none ∧ o.data = .seq its n ∧ its.size ≤ sizeLine ∧ Vals xs its.toList
def StL (K : PySem.W.Frag) (a : Addr) (xs : List V) : Prop :=
  ∃ (o : Obj) (its : Array Value) (n : Nat), K.lookup a = some o ∧ o.cls = .type "list" ∧ o.dict = none ∧ o.data = .seq its n ∧ its.size ≤ sizeLine ∧ Vals xs its.toList
/-- tracked as u, and no cell -/
def At (M : Addr → Prop) (H : Hp) (S : Sto) (a : Addr) (u : HO) : Prop := Rd H a u ∧ S a = none ∧ ¬ M a
def TupAt (G : Gd) (H : Hp) (S : Sto) (a : Addr) (xs : List V) : Prop := (∃ o, (H a = some (fT o xs) ∧ o.dict = none) ∧ S a = none ∧ ¬ G.M a) ∨ StT G.K a xs
def LstAt (G : Gd) (H : Hp) (S : Sto) (a : Addr) (xs : List V) : Prop := H a = some (.lst xs) ∧ S a = none ∧ ¬ G.M a
/-- the law's script -/
def ScrAt (G : Gd) (H : Hp) (S : Sto) (a : Addr) (xs : List V) : Prop := (∃ o, H a = some (.frz o (.lst xs)) ∧ S a = none ∧ ¬ G.M a) ∨ StL G.K a xs
theorem ScrAt.sq {G : Gd} {H : Hp} {S : Sto} {a : Addr} {xs : List V} (h : ScrAt G H S a xs) : SqL G.K H a xs := h.elim (fun ⟨o, z, _⟩ => .inl (.inr ⟨o, z⟩)) .inr
theorem TupAt.sq {G : Gd} {H : Hp} {S : Sto} {a : Addr} {xs : List V} (h : TupAt G H S a xs) : SqT G.K H a xs := h.elim (fun ⟨o, z, _⟩ => .inl (.inr ⟨o, z.1⟩)) fun ⟨o, its, n, a1, a2, _, a4⟩ => .inr ⟨o, its, n, a1, a2, a4⟩
theorem LstAt.sq {G : Gd} {H : Hp} {S : Sto} {a : Addr} {xs : List V} (h : LstAt G H S a xs) : SqL G.K H a xs := SqL.of h.1
/-- the entries of a dict by tuples, as its object holds them -/
def rawN (w : World) (a : Addr) (es : List (NestedKey × Addr × V)) (h : Heap) : Prop :=
  es.length ≤ sizeLine ∧ (a == sysModules) = false ∧ (∀ e ∈ es, e.1.depth ≤ 8) ∧ (es.map (·.1)).Nodup ∧
    ∃ us : List Value, Vals (es.map (·.2.2)) us ∧ ∃ o en ep, h.get? a = some o ∧ o.ExactDict ∧ o.data = .dict en ep ∧
      en.toList = (es.zip us).map fun q => (⟨q.1.1.hash w, .ref q.1.2.1, q.2⟩ : DictEntry)
def dN (w : World) (a : Addr) (es : List (NestedKey × Addr × V)) : HO := .ext (rawN w a es)

/-- at a: an exception of the class at C, its dict (none | at d) -/
def exv (a C : Addr) (d : Option Addr) : HO := .ext fun h => ∃ (o : Obj) (vs : Array Value), h.get? a = some o ∧ L2N.Zn (.ref C) d o ∧ o.data = .fields vs

mutual
/-- the tree t lies as v -/
inductive Rep (G : Gd) (H : Hp) (S : Sto) : T → V → Prop
  | non : Rep G H S .non .non
  | bl (b : Bool) : Rep G H S (.bl b) (.bl b)
  | int (i : Int) : Rep G H S (.int i) (.int i)
  | str (x : List Sg) : Rep G H S (.str x) (.str (txt x))
  | ref (a : Addr) : Rep G H S (.ref a) (.ref a)
  | fn (x : Str) : Rep G H S (.fn x) (.ref (He.ga G.K x))
  | scr {a : Addr} {ns : List Int} : ScrAt G H S a (ns.map V.int) → Rep G H S (.scr ns) (.ref a)
  | tup {a : Addr} {xs : List V} {ts : List T} : TupAt G H S a xs → Reps G H S ts xs → Rep G H S (.tup ts) (.ref a)
  | lst {a : Addr} {xs : List V} {ts : List T} : LstAt G H S a xs → Reps G H S ts xs → Rep G H S (.lst ts) (.ref a)
  | exc0 {a : Addr} {c : Str} : At G.M H S a (exv a (He.ga G.K c) none) → Rep G H S (.exc c [] []) (.ref a)
  | exc1 {a d : Addr} {c : Str} {ns : List Str} {ts : List T} {xs : List V} : At G.M H S a (exv a (He.ga G.K c) (some d)) → At G.M H S d (.xd (ns.zip xs)) → ns.length = xs.length → Reps G H S ts xs → Rep G H S (.exc c ns ts) (.ref a)
  | dK {a : Addr} {kvs : List (Key × V)} {ks vs : List T} : At G.M H S a (.dK kvs) → Reps G H S ks (kvs.map fun p => kV p.1) → Reps G H S vs (kvs.map (·.2)) → Rep G H S (.dct false ks vs) (.ref a)
  | dN {a : Addr} {es : List (NestedKey × Addr × V)} {ks vs : List T} : At G.M H S a (dN G.w a es) → keysOf ks = some (es.map (·.1)) → Reps G H S ks (es.map fun e => V.ref e.2.1) → Reps G H S vs (es.map (·.2.2)) → Rep G H S (.dct true ks vs) (.ref a)
  | obj {a d : Addr} {c : Str} {ns : List Str} {ts : List T} {xs : List V} : (H a = some (.ins (He.ga G.K c) d (ns.zip xs)) ∧ S a = none ∧ ¬ G.M a) → ns.length = xs.length → Reps G H S ts xs → Rep G H S (.obj c ns ts) (.ref a)
inductive Reps (G : Gd) (H : Hp) (S : Sto) : List T → List V → Prop
  | nil : Reps G H S [] []
  | cons {t : T} {ts : List T} {v : V} {vs : List V} : Rep G H S t v → Reps G H S ts vs → Reps G H S (t :: ts) (v :: vs)
end
/-- a thing that may change, as it lies -/
def CellOk (G : Gd) (H : Hp) (S : Sto) (a : Addr) : Cell → Prop
  | .lst ts => ∃ xs, H a = some (.lst xs) ∧ Reps G H S ts xs
  | .dct false ks vs => ∃ kvs : List (Key × V), H a = some (.dK kvs) ∧ Reps G H S ks (kvs.map fun p => kV p.1) ∧ Reps G H S vs (kvs.map (·.2))
  | .dct true ks vs => ∃ es : List (NestedKey × Addr × V), H a = some (dN G.w a es) ∧ keysOf ks = some (es.map (·.1)) ∧ Reps G H S ks (es.map fun e => V.ref e.2.1) ∧ Reps G H S vs (es.map (·.2.2))
  | .ins c ns ts => ∃ d xs, H a = some (.ins (He.ga G.K c) d (ns.zip xs)) ∧ ns.length = xs.length ∧ Reps G H S ts xs
structure StoOk (G : Gd) (H : Hp) (S : Sto) : Prop where
  at_ : ∀ a c, S a = some c → CellOk G H S a c
  msk : ∀ a, G.M a → H a ≠ none
  sep : ∀ a, G.M a → S a = none

/-- what a loop may lock -/
def isD : HO → Bool
  | .dK _ => true
  | .dT _ => true
  | .ext _ => true
  | _ => false
def lkd : HO → Bool
  | .frz _ u => isD u
  | u => isD u
/-- what lay still lies still, but for what is not looked at -/
def ExtM (M : Addr → Prop) (S : Sto) (H : Hp) (S' : Sto) (H' : Hp) : Prop := ∀ b u, ¬ M b → S b = none → (H b = some u → lkd u = false → H' b = some u ∧ S' b = none) ∧ (Rd H b u → isD u = true → Rd H' b u ∧ S' b = none)
/-- what lay still lies still -/
def Ext (S : Sto) (H : Hp) (S' : Sto) (H' : Hp) : Prop := ∀ b u, S b = none → (H b = some u → isD u = false → H' b = some u ∧ S' b = none) ∧ (Rd H b u → isD u = true → Rd H' b u ∧ S' b = none)
section
variable {G : Gd} {H H' H2 : Hp} {S S' S2 : Sto} {M : Addr → Prop}
theorem lkd_isD {u : HO} (h : lkd u = false) : isD u = false := by
  cases u <;> first | exact h | rfl
theorem Ext.m (x : Ext S H S' H') : ExtM M S H S' H' := fun b u _ n => ⟨fun h f => (x b u n).1 h (lkd_isD f), (x b u n).2⟩
theorem Ext.refl : Ext S H S H := fun _ _ n => ⟨fun h _ => ⟨h, n⟩, fun h _ => ⟨h, n⟩⟩
theorem Ext.trans (x : Ext S H S' H') (y : Ext S' H' S2 H2) : Ext S H S2 H2 := fun b u n =>
  ⟨fun h f => let z := (x b u n).1 h f; (y b u z.2).1 z.1 f, fun h f => let z := (x b u n).2 h f; (y b u z.2).2 z.1 f⟩
theorem At.extM {a : Addr} {u : HO} (h : At M H S a u) (x : ExtM M S H S' H') (f : isFrz u = false := by rfl) : At M H' S' a u := by
  obtain ⟨h1, h2, h3⟩ := h
  cases hd : isD u with
  | true =>
    have w := (x a u h3 h2).2 h1 hd
    exact ⟨w.1, w.2, h3⟩
  | false =>
    rcases h1 with z | ⟨o, z⟩
    · have k : lkd u = false := by
        cases u <;> first | exact hd | cases f
      have w := (x a u h3 h2).1 z k
      exact ⟨.inl w.1, w.2, h3⟩
    · have w := (x a (.frz o u) h3 h2).1 z hd
      exact ⟨.inr ⟨o, w.1⟩, w.2, h3⟩
theorem TupAt.extM {a : Addr} {xs : List V} (h : TupAt G H S a xs) (x : ExtM G.M S H S' H') : TupAt G H' S' a xs := h.elim (fun ⟨o, z, s, m⟩ => let w := (x a _ m s).1 z.1 rfl; .inl ⟨o, ⟨w.1, z.2⟩, w.2, m⟩) .inr
theorem LstAt.extM {a : Addr} {xs : List V} (h : LstAt G H S a xs) (x : ExtM G.M S H S' H') : LstAt G H' S' a xs := let w := (x a _ h.2.2 h.2.1).1 h.1 rfl; ⟨w.1, w.2, h.2.2⟩
theorem At.ext {a : Addr} {u : HO} (h : At M H S a u) (x : Ext S H S' H') (f : isFrz u = false := by rfl) : At M H' S' a u := h.extM x.m f
theorem TupAt.ext {a : Addr} {xs : List V} (h : TupAt G H S a xs) (x : Ext S H S' H') : TupAt G H' S' a xs := h.extM x.m
theorem LstAt.ext {a : Addr} {xs : List V} (h : LstAt G H S a xs) (x : Ext S H S' H') : LstAt G H' S' a xs := h.extM x.m
theorem Ext.exact {a : Addr} {u : HO} (x : Ext S H S' H') (h : H a = some u) (n : S a = none) (k : isD u = false := by rfl) : H' a = some u ∧ S' a = none := (x a u n).1 h k
mutual
theorem Rep.extM (x : ExtM G.M S H S' H') : ∀ (t : T) (v : V), Rep G H S t v → Rep G H' S' t v
  | .non, _, h => by cases h; exact .non
  | .bl _, _, h => by cases h; exact .bl _
  | .int _, _, h => by cases h; exact .int _
  | .str _, _, h => by cases h; exact .str _
  | .ref _, _, h => by cases h; exact .ref _
  | .fn _, _, h => by cases h; exact .fn _
  | .scr _, _, h => by
    cases h with
    | scr h1 => exact .scr (h1.imp (fun ⟨o, z1, z2, z3⟩ => ⟨o, ((x _ _ z3 z2).1 z1 rfl).1, ((x _ _ z3 z2).1 z1 rfl).2, z3⟩) id)
  | .tup ts, _, h => by
    cases h with
    | tup h1 h2 => exact .tup (h1.extM x) (Reps.extM x ts _ h2)
  | .lst ts, _, h => by
    cases h with
    | lst h1 h2 => exact .lst (h1.extM x) (Reps.extM x ts _ h2)
  | .exc c ns ts, _, h => by
    cases h with
    | exc0 h1 => exact .exc0 (h1.extM x)
    | exc1 h1 h2 h3 h4 => exact .exc1 (h1.extM x) (h2.extM x) h3 (Reps.extM x ts _ h4)
  | .dct b ks vs, _, h => by
    cases h with
    | dK h1 h2 h3 => exact .dK (h1.extM x) (Reps.extM x ks _ h2) (Reps.extM x vs _ h3)
    | dN h1 h2 h3 h4 => exact .dN (h1.extM x) h2 (Reps.extM x ks _ h3) (Reps.extM x vs _ h4)
  | .obj c ns ts, _, h => by
    cases h with
    | obj h1 h2 h3 =>
      have w := (x _ _ h1.2.2 h1.2.1).1 h1.1 rfl
      exact .obj ⟨w.1, w.2, h1.2.2⟩ h2 (Reps.extM x ts _ h3)
theorem Reps.extM (x : ExtM G.M S H S' H') : ∀ (ts : List T) (vs : List V), Reps G H S ts vs → Reps G H' S' ts vs
  | [], _, h => by cases h; exact .nil
  | t :: ts, _, h => by
    cases h with
    | cons h1 h2 => exact .cons (Rep.extM x t _ h1) (Reps.extM x ts _ h2)
end
theorem Rep.ext (x : Ext S H S' H') (t : T) (v : V) (h : Rep G H S t v) : Rep G H' S' t v := Rep.extM x.m t v h
theorem Reps.ext (x : Ext S H S' H') (t : List T) (v : List V) (h : Reps G H S t v) : Reps G H' S' t v := Reps.extM x.m t v h
theorem CellOk.extM {a : Addr} {c : Cell} (h : CellOk G H S a c) (x : ExtM G.M S H S' H') (e : H' a = H a) : CellOk G H' S' a c := by
  cases c with
  | lst ts =>
    obtain ⟨xs, h1, h2⟩ := h
    exact ⟨xs, e.trans h1, Reps.extM x _ _ h2⟩
  | dct b ks vs =>
    cases b with
    | false =>
      obtain ⟨kvs, h1, h2, h3⟩ := h
      exact ⟨kvs, e.trans h1, Reps.extM x _ _ h2, Reps.extM x _ _ h3⟩
    | true =>
      obtain ⟨es, h1, h2, h3, h4⟩ := h
      exact ⟨es, e.trans h1, h2, Reps.extM x _ _ h3, Reps.extM x _ _ h4⟩
  | ins c ns ts =>
    obtain ⟨d, xs, h1, h2, h3⟩ := h
    exact ⟨d, xs, e.trans h1, h2, Reps.extM x _ _ h3⟩
theorem CellOk.ext {a : Addr} {c : Cell} (h : CellOk G H S a c) (x : Ext S H S' H') (e : H' a = H a) : CellOk G H' S' a c := h.extM x.m e
theorem CellOk.there {a : Addr} {c : Cell} (h : CellOk G H S a c) : ∃ o, H a = some o := by
  cases c with
  | lst ts => obtain ⟨xs, h1, _⟩ := h; exact ⟨_, h1⟩
  | dct b ks vs =>
    cases b with
    | false => obtain ⟨kvs, h1, _⟩ := h; exact ⟨_, h1⟩
    | true => obtain ⟨es, h1, _⟩ := h; exact ⟨_, h1⟩
  | ins c ns ts => obtain ⟨d, xs, h1, _⟩ := h; exact ⟨_, h1⟩
theorem StoOk.free (h : StoOk G H S) {a : Addr} (n : H a = none) : S a = none := by
  cases e : S a with
  | none => rfl
  | some c =>
    obtain ⟨o, q⟩ := (h.at_ a c e).there
    rw [n] at q
    cases q
theorem StoOk.nom (h : StoOk G H S) {a : Addr} (n : H a = none) : ¬ G.M a := fun m => h.msk a m n
theorem upd_some {p a : Addr} {o : HO} (h : H a ≠ none) : upd H p o a ≠ none := fun z => by
  by_cases e : a = p
  · subst e
    rw [upd_same] at z
    cases z
  · rw [upd_ne e] at z
    exact h z
theorem Rd.ne {p b : Addr} {u : HO} (n : H p = none) (h : Rd H b u) : b ≠ p := fun e => by
  subst e
  rcases h with h | ⟨_, h⟩ <;> rw [n] at h <;> cases h
theorem Rd.upd {p b : Addr} {u o : HO} (ne : b ≠ p) (h : Rd H b u) : Rd (upd H p o) b u := by
  rcases h with h | ⟨q, h⟩
  · exact .inl ((upd_ne ne).trans h)
  · exact .inr ⟨q, (upd_ne ne).trans h⟩
/-- a new object that no cell is -/
theorem Ext.new {p : Addr} {o : HO} (n : H p = none) : Ext S H S (upd H p o) := fun b u k =>
  ⟨fun h _ => ⟨(upd_ne (ne_of_none h n)).trans h, k⟩, fun h _ => ⟨Rd.upd (Rd.ne n h) h, k⟩⟩
theorem StoOk.new {p : Addr} {o : HO} (h : StoOk G H S) (n : H p = none) : StoOk G (upd H p o) S := ⟨fun a c e =>
  (h.at_ a c e).ext (Ext.new n) (upd_ne fun z => by
    subst z
    obtain ⟨o, q⟩ := (h.at_ _ c e).there
    rw [n] at q
    cases q), fun a m => upd_some (h.msk a m), h.sep⟩
/-- a cell written, or a new one -/
theorem Ext.cell {p : Addr} {o : HO} {c : Cell} (n : H p = none ∨ ∃ c, S p = some c) : Ext S H (ups S p c) (upd H p o) := fun b u k => by
  have ne : ∀ {u}, Rd H b u → b ≠ p := fun h e => by
    subst e
    rcases n with n | ⟨c, n⟩
    · exact Rd.ne n h rfl
    · rw [n] at k; cases k
  exact ⟨fun h _ => ⟨(upd_ne (ne (.inl h))).trans h, (ups_ne (ne (.inl h))).trans k⟩, fun h _ => ⟨Rd.upd (ne h) h, (ups_ne (ne h)).trans k⟩⟩
theorem StoOk.cell {p : Addr} {o : HO} {c : Cell} (h : StoOk G H S) (n : H p = none ∨ ∃ c, S p = some c) (k : CellOk G (upd H p o) (ups S p c) p c) : StoOk G (upd H p o) (ups S p c) := ⟨fun a d e => by
  by_cases q : a = p
  · subst q
    rw [ups_same] at e
    cases e
    exact k
  · rw [ups_ne q] at e
    exact (h.at_ a d e).ext (Ext.cell n) (upd_ne q), fun a m => upd_some (h.msk a m), fun a m => by
  have q : a ≠ p := fun e => by
    subst e
    rcases n with n | ⟨c, n⟩
    · exact h.nom n m
    · rw [h.sep _ m] at n
      cases n
  rw [ups_ne q]
  exact h.sep a m⟩
/-- a cell given up: it stands from now on -/
theorem Ext.drop (h : ∀ a, S a = none → S' a = none) : Ext S H S' H := fun b _ n => ⟨fun r _ => ⟨r, h b n⟩, fun r _ => ⟨r, h b n⟩⟩
theorem StoOk.drop (h : StoOk G H S) (k : ∀ a c, S' a = some c → S a = some c) : StoOk G H S' := ⟨fun a c e =>
  (h.at_ a c (k a c e)).ext (Ext.drop fun b n => by
    cases q : S' b with
    | none => rfl
    | some d => rw [k b d q] at n; cases n) rfl, h.msk, fun a m => by
  cases q : S' a with
  | none => rfl
  | some d =>
    have z := k a d q
    rw [h.sep a m] at z
    cases z⟩
/-- a thing that is not looked at is written -/
theorem ExtM.at {p : Addr} {o : HO} (h : M p) : ExtM M S H S (upd H p o) := fun b u nb k => by
  have ne : b ≠ p := fun e => nb (e ▸ h)
  exact ⟨fun h _ => ⟨(upd_ne ne).trans h, k⟩, fun h _ => ⟨Rd.upd ne h, k⟩⟩
theorem Reps.length : ∀ {ts : List T} {vs : List V}, Reps G H S ts vs → ts.length = vs.length
  | [], _, h => by cases h; rfl
  | _ :: _, _, h => by
    cases h with
    | cons _ h2 => rw [List.length_cons, List.length_cons, Reps.length h2]
theorem Reps.append : ∀ {ts us : List T} {vs ws : List V}, Reps G H S ts vs → Reps G H S us ws → Reps G H S (ts ++ us) (vs ++ ws)
  | [], _, _, _, h, h2 => by cases h; exact h2
  | _ :: _, _, _, _, h, h2 => by
    cases h with
    | cons q1 q2 => exact .cons q1 (Reps.append q2 h2)
theorem Reps.get : ∀ {ts : List T} {vs : List V} {i : Nat} {t : T}, Reps G H S ts vs → ts[i]? = some t → ∃ v, vs[i]? = some v ∧ Rep G H S t v
  | [], _, _, _, _, e => by simp at e
  | _ :: _, _, 0, _, h, e => by
    cases h with
    | cons q1 _ =>
      simp at e
      subst e
      exact ⟨_, rfl, q1⟩
  | _ :: _, _, i + 1, _, h, e => by
    cases h with
    | cons _ q2 =>
      obtain ⟨v, h1, h2⟩ := Reps.get (i := i) q2 (by simpa using e)
      exact ⟨v, by simpa using h1, h2⟩
theorem Reps.set {t : T} {v : V} (r : Rep G H S t v) : ∀ {ts : List T} {vs : List V} (i : Nat), Reps G H S ts vs → Reps G H S (ts.set i t) (vs.set i v)
  | [], _, _, h => by cases h; exact .nil
  | _ :: _, _, 0, h => by
    cases h with
    | cons _ q2 => exact .cons r q2
  | _ :: _, _, i + 1, h => by
    cases h with
    | cons q1 q2 => exact .cons q1 (Reps.set r i q2)
theorem Reps.take : ∀ {ts : List T} {vs : List V} (n : Nat), Reps G H S ts vs → Reps G H S (ts.take n) (vs.take n)
  | _, _, 0, _ => .nil
  | [], _, _ + 1, h => by cases h; exact .nil
  | _ :: _, _, n + 1, h => by
    cases h with
    | cons q1 q2 => exact .cons q1 (Reps.take n q2)
theorem Reps.drop : ∀ {ts : List T} {vs : List V} (n : Nat), Reps G H S ts vs → Reps G H S (ts.drop n) (vs.drop n)
  | _, _, 0, h => h
  | [], _, _ + 1, h => by cases h; exact .nil
  | _ :: _, _, n + 1, h => by
    cases h with
    | cons _ q2 => exact Reps.drop n q2
end
abbrev Gd.mask (G : Gd) (M : Addr → Prop) : Gd := { G with M := M }
section
variable {G : Gd} {H : Hp} {S : Sto} {M : Addr → Prop}
theorem At.mask {a : Addr} {u : HO} (k : ∀ a u, Rd H a u → ¬ G.M a → ¬ M a) (h : At G.M H S a u) : At (G.mask M).M H S a u := ⟨h.1, h.2.1, k a u h.1 h.2.2⟩
mutual
theorem Rep.mask (k : ∀ a u, Rd H a u → ¬ G.M a → ¬ M a) : ∀ (t : T) (v : V), Rep G H S t v → Rep (G.mask M) H S t v
  | .non, _, h => by cases h; exact .non
  | .bl _, _, h => by cases h; exact .bl _
  | .int _, _, h => by cases h; exact .int _
  | .str _, _, h => by cases h; exact .str _
  | .ref _, _, h => by cases h; exact .ref _
  | .fn _, _, h => by cases h; exact .fn _
  | .scr _, _, h => by
    cases h with
    | scr h1 => exact .scr (h1.imp (fun ⟨o, z1, z2, z3⟩ => ⟨o, z1, z2, k _ _ (.inl z1) z3⟩) id)
  | .tup ts, _, h => by
    cases h with
    | tup h1 h2 => exact .tup (h1.elim (fun ⟨o, z, s, m⟩ => .inl ⟨o, z, s, k _ _ (.inl z.1) m⟩) .inr) (Reps.mask k ts _ h2)
  | .lst ts, _, h => by
    cases h with
    | lst h1 h2 => exact .lst ⟨h1.1, h1.2.1, k _ _ (.inl h1.1) h1.2.2⟩ (Reps.mask k ts _ h2)
  | .exc c ns ts, _, h => by
    cases h with
    | exc0 h1 => exact .exc0 (h1.mask k)
    | exc1 h1 h2 h3 h4 => exact .exc1 (h1.mask k) (h2.mask k) h3 (Reps.mask k ts _ h4)
  | .dct b ks vs, _, h => by
    cases h with
    | dK h1 h2 h3 => exact .dK (h1.mask k) (Reps.mask k ks _ h2) (Reps.mask k vs _ h3)
    | dN h1 h2 h3 h4 => exact .dN (h1.mask k) h2 (Reps.mask k ks _ h3) (Reps.mask k vs _ h4)
  | .obj c ns ts, _, h => by
    cases h with
    | obj h1 h2 h3 => exact .obj ⟨h1.1, h1.2.1, k _ _ (.inl h1.1) h1.2.2⟩ h2 (Reps.mask k ts _ h3)
theorem Reps.mask (k : ∀ a u, Rd H a u → ¬ G.M a → ¬ M a) : ∀ (ts : List T) (vs : List V), Reps G H S ts vs → Reps (G.mask M) H S ts vs
  | [], _, h => by cases h; exact .nil
  | t :: ts, _, h => by
    cases h with
    | cons h1 h2 => exact .cons (Rep.mask k t _ h1) (Reps.mask k ts _ h2)
end
theorem CellOk.mask (k : ∀ a u, Rd H a u → ¬ G.M a → ¬ M a) {a : Addr} {c : Cell} (q : CellOk G H S a c) : CellOk (G.mask M) H S a c := by
  cases c with
  | lst ts =>
    obtain ⟨xs, h1, h2⟩ := q
    exact ⟨xs, h1, Reps.mask k _ _ h2⟩
  | dct b ks vs =>
    cases b with
    | false =>
      obtain ⟨kvs, h1, h2, h3⟩ := q
      exact ⟨kvs, h1, Reps.mask k _ _ h2, Reps.mask k _ _ h3⟩
    | true =>
      obtain ⟨es, h1, h2, h3, h4⟩ := q
      exact ⟨es, h1, h2, Reps.mask k _ _ h3, Reps.mask k _ _ h4⟩
  | ins c ns ts =>
    obtain ⟨d, xs, h1, h2, h3⟩ := q
    exact ⟨d, xs, h1, h2, Reps.mask k _ _ h3⟩
/-- the mask put on a new object, and taken off -/
theorem StoOk.putOn {D : Addr} {o : HO} (h : StoOk G H S) (n : H D = none) : StoOk (G.mask fun a => G.M a ∨ a = D) (upd H D o) S := by
  have k : ∀ a u, Rd H a u → ¬ G.M a → ¬ (G.M a ∨ a = D) := fun a u r m z => z.elim m fun e => Rd.ne n r e
  refine ⟨fun a c e => ((h.at_ a c e).mask k).ext (Ext.new n) (upd_ne fun z => ?_), fun a m => ?_, fun a m => ?_⟩
  · subst z
    rw [h.free n] at e
    cases e
  · rcases m with m | m
    · exact upd_some (h.msk a m)
    · rw [m, upd_same]
      exact fun z => nomatch z
  · rcases m with m | m
    · exact h.sep a m
    · rw [m]
      exact h.free n
theorem StoOk.takeOff {M' : Addr → Prop} (h : StoOk (G.mask M') H S) (k : ∀ a, G.M a → M' a) : StoOk G H S :=
  ⟨fun a c e => (h.at_ a c e).mask (M := G.M) fun a _ _ n m => n (k a m), fun a m => h.msk a (k a m), fun a m => h.sep a (k a m)⟩
theorem Reps.takeOff {M' : Addr → Prop} {ts : List T} {vs : List V} (h : Reps (G.mask M') H S ts vs) (k : ∀ a, G.M a → M' a) : Reps G H S ts vs := Reps.mask (G := G.mask M') (M := G.M) (fun a _ _ n m => n (k a m)) _ _ h
theorem Rep.takeOff {M' : Addr → Prop} {t : T} {v : V} (h : Rep (G.mask M') H S t v) (k : ∀ a, G.M a → M' a) : Rep G H S t v := Rep.mask (G := G.mask M') (M := G.M) (fun a _ _ n m => n (k a m)) _ _ h
/-- a masked object is written -/
theorem StoOk.at {p : Addr} {o : HO} (h : StoOk G H S) (m : G.M p) (n : S p = none) : StoOk G (upd H p o) S := ⟨fun a c e =>
  (h.at_ a c e).extM (ExtM.at m) (upd_ne fun z => by subst z; rw [n] at e; cases e), fun a m => upd_some (h.msk a m), h.sep⟩
end
end TL
namespace TL
open PySem PySem.Spec PyProof.Rows L2
abbrev TTE := TEnv → Sto → (T → Sto → Prop) → (T → Sto → Prop) → Prop
abbrev TTA := TEnv → Sto → (List T → Sto → Prop) → (T → Sto → Prop) → Prop
abbrev TTB := TEnv → Sto → (Bool → Sto → Prop) → (T → Sto → Prop) → Prop
structure TD where
  nx : TEnv → Sto → Prop
  rt : T → Sto → Prop
  bk : TEnv → Sto → Prop := fun _ _ => False
  ct : TEnv → Sto → Prop := fun _ _ => False
abbrev TTS := TD → TEnv → Sto → (T → TEnv → Sto → Prop) → Prop

abbrev gdOf (X : Cx) (M : Addr → Prop) : Gd := ⟨X.prog, X.K, X.w, M⟩
def EnvR (G : Gd) (H : Hp) (S : Sto) (σ : L2.St) (τ : TEnv) : Prop := σ.length = τ.length ∧ ∀ (i : Nat) (t : T), τ[i]? = some (some t) → ∃ v, σ[i]? = some (some v) ∧ Rep G H S t v
/-- a state and its trees; S0, H0: at the def's entry -/
structure Rel (G : Gd) (S0 : Sto) (H0 : Hp) (σ : L2.St) (H : Hp) (τ : TEnv) (S : Sto) : Prop where
  env : EnvR G H S σ τ
  sto : StoOk G H S
  ext : Ext S0 H0 S H
/-- an exception that flies -/
def ExcIs (G : Gd) (H : Hp) (S : Sto) (x : T) (cls : Value) (d : Option Addr) : Prop :=
  ∃ c ns ts, x = .exc c ns ts ∧ cls = .ref (He.ga G.K c) ∧ ((ns = [] ∧ ts = [] ∧ d = none) ∨ ∃ da xs, d = some da ∧ At G.M H S da (.xd (ns.zip xs)) ∧ ns.length = xs.length ∧ Reps G H S ts xs)
def wOf (X : Cx) (M : Addr → Prop) (S0 : Sto) (H0 : Hp) (E : T → TEnv → Sto → Prop) : WX := fun cls d σ H => ∃ τ S x, Rel (gdOf X M) S0 H0 σ H τ S ∧ ExcIs (gdOf X M) H S x cls d ∧ E x τ S

abbrev Takes (X : Cx) (W : WX) : Prop := L2N.Takes X W
theorem Takes.imp {X : Cx} {W W' : WX} (t : Takes X W) (h : ∀ c d σ H, W' c d σ H → W c d σ H) : Takes X W' := L2N.Takes.imp t h
theorem takes0 {X : Cx} : Takes X (fun _ _ _ _ => False) := fun _ _ x => by
  obtain ⟨_, _, _, _, _, _, _, _, _, _, _, _, _, _, _, _, z⟩ := x
  exact z.elim

section
variable {G : Gd} {S0 S S' : Sto} {H0 H H' : Hp} {σ : L2.St} {τ : TEnv}
theorem EnvR.ext (h : EnvR G H S σ τ) (x : Ext S H S' H') : EnvR G H' S' σ τ := ⟨h.1, fun i t e => let ⟨v, h1, h2⟩ := h.2 i t e; ⟨v, h1, Rep.ext x t v h2⟩⟩
theorem Rel.step (r : Rel G S0 H0 σ H τ S) (h : StoOk G H' S') (x : Ext S H S' H') : Rel G S0 H0 σ H' τ S' := ⟨r.env.ext x, h, r.ext.trans x⟩
theorem Rel.set {i : Nat} {t : T} {v : V} (r : Rel G S0 H0 σ H τ S) (h : Rep G H S t v) : Rel G S0 H0 (σ.set i (some v)) H (τ.set i (some t)) S := by
  refine ⟨⟨by rw [List.length_set, List.length_set]; exact r.env.1, fun j u e => ?_⟩, r.sto, r.ext⟩
  have l := r.env.1
  by_cases hj : i = j
  · subst hj
    have hi : i < τ.length := by
      have z := (List.getElem?_eq_some_iff.mp e).1
      rwa [List.length_set] at z
    rw [List.getElem?_set_self hi] at e
    cases e
    exact ⟨v, List.getElem?_set_self (by omega), h⟩
  · rw [List.getElem?_set_ne hj] at e
    obtain ⟨w, h1, h2⟩ := r.env.2 j u e
    exact ⟨w, by rw [List.getElem?_set_ne hj]; exact h1, h2⟩
end
def LE (X : Cx) (M : Addr → Prop) (S0 : Sto) (H0 : Hp) (t : TTE) (E : T → TEnv → Sto → Prop) : L2.TE := fun σ H Q => ∃ τ S Qt, Rel (gdOf X M) S0 H0 σ H τ S ∧ t τ S Qt (fun x S' => E x τ S') ∧
  ∀ z S' v H', Qt z S' → StoOk (gdOf X M) H' S' → Ext S H S' H' → Rep (gdOf X M) H' S' z v → Q v H'
def LB (X : Cx) (M : Addr → Prop) (S0 : Sto) (H0 : Hp) (t : TTB) (E : T → TEnv → Sto → Prop) : L2.TT := fun σ H Q => ∃ τ S Qt, Rel (gdOf X M) S0 H0 σ H τ S ∧ t τ S Qt (fun x S' => E x τ S') ∧
  ∀ b S' H', Qt b S' → StoOk (gdOf X M) H' S' → Ext S H S' H' → Q b H'
def LA (X : Cx) (M : Addr → Prop) (S0 : Sto) (H0 : Hp) (t : TTA) (E : T → TEnv → Sto → Prop) : L2.TA := fun σ H Q => ∃ τ S Qt, Rel (gdOf X M) S0 H0 σ H τ S ∧ t τ S Qt (fun x S' => E x τ S') ∧
  ∀ zs S' vs H', Qt zs S' → StoOk (gdOf X M) H' S' → Ext S H S' H' → Reps (gdOf X M) H' S' zs vs → Q vs H'
def LS (X : Cx) (M : Addr → Prop) (S0 : Sto) (H0 : Hp) (t : TTS) (E : T → TEnv → Sto → Prop) : L2.TS := fun D σ H => ∃ τ S B, Rel (gdOf X M) S0 H0 σ H τ S ∧ t B τ S E ∧
  (∀ σ' H' τ' S', Rel (gdOf X M) S0 H0 σ' H' τ' S' → Ext S H S' H' → B.nx τ' S' → D.nx σ' H') ∧ (∀ z S' v H', StoOk (gdOf X M) H' S' → Ext S H S' H' → Rep (gdOf X M) H' S' z v → B.rt z S' → D.rt v H') ∧
  (∀ σ' H' τ' S', Rel (gdOf X M) S0 H0 σ' H' τ' S' → Ext S H S' H' → B.bk τ' S' → D.bk σ' H') ∧ (∀ σ' H' τ' S', Rel (gdOf X M) S0 H0 σ' H' τ' S' → Ext S H S' H' → B.ct τ' S' → D.ct σ' H')

/-- e reads as t -/
def TE (X : Cx) (e : Expr) (t : TTE) : Prop := ∀ M S0 H0 E, Takes X (wOf X M S0 H0 E) → PE X e (LE X M S0 H0 t E)
def TB (X : Cx) (e : Expr) (t : TTB) : Prop := ∀ M S0 H0 E, Takes X (wOf X M S0 H0 E) → PT X e (LB X M S0 H0 t E)
def TW (X : Cx) (e : Expr) (t : TTB) : Prop := ∀ M S0 H0 E, Takes X (wOf X M S0 H0 E) → PW X e (LB X M S0 H0 t E)
def TA (X : Cx) (es : List Expr) (t : TTA) : Prop := ∀ M S0 H0 E, Takes X (wOf X M S0 H0 E) → PA X es (LA X M S0 H0 t E)
def TS (X : Cx) (s : Stmt) (t : TTS) : Prop := ∀ M S0 H0 E, Takes X (wOf X M S0 H0 E) → PS X s (LS X M S0 H0 t E)
def TSs (X : Cx) (s : List Stmt) (t : TTS) : Prop := ∀ M S0 H0 E, Takes X (wOf X M S0 H0 E) → PSs X s (LS X M S0 H0 t E)

theorem _root_.L2.PE.weak {X : Cx} {e : Expr} {t u : L2.TE} (h : PE X e t) (k : ∀ σ H Q, u σ H Q → t σ H Q) : PE X e u := ⟨fun pins s σ H Q I q => h.run pins s σ H Q I (k _ _ _ q)⟩
theorem _root_.L2.PT.weak {X : Cx} {e : Expr} {t u : L2.TT} (h : PT X e t) (k : ∀ σ H Q, u σ H Q → t σ H Q) : PT X e u := ⟨fun pins s σ H Q I q => h.run pins s σ H Q I (k _ _ _ q)⟩
theorem _root_.L2.PW.weak {X : Cx} {e : Expr} {t u : L2.TT} (h : PW X e t) (k : ∀ σ H Q, u σ H Q → t σ H Q) : PW X e u := ⟨fun wh pins s σ H Q I q => h.run wh pins s σ H Q I (k _ _ _ q)⟩
theorem _root_.L2.PA.weak {X : Cx} {es : List Expr} {t u : L2.TA} (h : PA X es t) (k : ∀ σ H Q, u σ H Q → t σ H Q) : PA X es u := ⟨fun pos pins s σ H Q I q => h.run pos pins s σ H Q I (k _ _ _ q)⟩
theorem _root_.L2.PS.weak {X : Cx} {s : Stmt} {t u : L2.TS} (h : PS X s t) (k : ∀ D σ H, u D σ H → t D σ H) : PS X s u := ⟨fun pins s σ H D I q => h.run pins s σ H D I (k _ _ _ q)⟩
theorem _root_.L2.PSs.weak {X : Cx} {s : List Stmt} {t u : L2.TS} (h : PSs X s t) (k : ∀ D σ H, u D σ H → t D σ H) : PSs X s u := ⟨fun pins s σ H D I q => h.run pins s σ H D I (k _ _ _ q)⟩

def cVar (i : Nat) : TTE := fun τ S Q _ => ∃ t, τ[i]? = some (some t) ∧ Q t S
def cC (t : T) : TTE := fun _ S Q _ => Q t S
def cOp (op : Sto → T → T → Option T) (a b : TTE) : TTE := fun τ S Q E => a τ S (fun x S1 => b τ S1 (fun y S2 => ∃ z, op S2 x y = some z ∧ Q z S2) E) E
def cUn (op : Sto → T → Option T) (a : TTE) : TTE := fun τ S Q E => a τ S (fun x S1 => ∃ z, op S1 x = some z ∧ Q z S1) E
def cIf (c : TTB) (a b : TTE) : TTE := fun τ S Q E => c τ S (fun k S1 => if k = true then a τ S1 Q E else b τ S1 Q E) E
def cNil : TTA := fun _ S Q _ => Q [] S
def cCons (a : TTE) (r : TTA) : TTA := fun τ S Q E => a τ S (fun x S1 => r τ S1 (fun xs S2 => Q (x :: xs) S2) E) E
def cTup (a : TTA) : TTE := fun τ S Q E => a τ S (fun xs S1 => xs.length ≤ sizeLine ∧ Q (.tup xs) S1) E
def cLst (a : TTA) : TTE := fun τ S Q E => a τ S (fun xs S1 => xs.length ≤ sizeLine ∧ Q (.lst xs) S1) E
def cLstM (a : TTA) : TTE := fun τ S Q E => a τ S (fun xs S1 => xs.length ≤ sizeLine ∧ ∀ p, S1 p = none → Q (.ref p) (ups S1 p (.lst xs))) E
def bVal (a : TTE) : TTB := fun τ S Q E => a τ S (fun x S1 => ∃ b, x = .bl b ∧ Q b S1) E
def bAnd (a b : TTB) : TTB := fun τ S Q E => a τ S (fun k S1 => if k = true then b τ S1 Q E else Q false S1) E
def bOr (a b : TTB) : TTB := fun τ S Q E => a τ S (fun k S1 => if k = true then Q true S1 else b τ S1 Q E) E
def bNot (a : TTB) : TTB := fun τ S Q E => a τ S (fun k S1 => Q (!k) S1) E
/-- and, or, not of truths as values -/
def cAnd (a b : TTE) : TTE := fun τ S Q E => a τ S (fun x S1 => ∃ k, x = .bl k ∧ if k = true then b τ S1 Q E else Q (.bl false) S1) E
def cOr (a b : TTE) : TTE := fun τ S Q E => a τ S (fun x S1 => ∃ k, x = .bl k ∧ if k = true then Q (.bl true) S1 else b τ S1 Q E) E
def cNot (a : TTE) : TTE := fun τ S Q E => a τ S (fun x S1 => ∃ k, x = .bl k ∧ Q (.bl (!k)) S1) E

section
variable {X : Cx} {S0 : Sto} {H0 : Hp} {e a b : Expr} {es : List Expr} {ta tb : TTE} {tA tB : TTB} {tr : TTA} {pos : Pos}
theorem te_var {i : Nat} {x : Str} (hN : X.N[i]? = some x) (hv : Vis X.env.scope x) (hd : (x == ("__debug__" : Str)) = false := by decide) (hcd : (x == ("__classdict__" : Str)) = false := by decide) : TE X (.Name x pos) (cVar i) := fun M S0 H0 E tk =>
  (pe_var hN hv hd hcd).weak fun σ H Q ⟨τ, S, Qt, r, ⟨t, e, h⟩, k⟩ => let ⟨v, h1, h2⟩ := r.env.2 i t e; ⟨v, h1, k t S v H h r.sto Ext.refl h2⟩
theorem te_const {t : T} {v : V} (h : PE X e (tC v)) (hr : ∀ M H S, Rep (gdOf X M) H S t v) : TE X e (cC t) := fun M S0 H0 E tk =>
  h.weak fun σ H Q ⟨τ, S, Qt, r, h, k⟩ => k t S v H h r.sto Ext.refl (hr M H S)
theorem te_int {i j} : TE X (.Constant (.int i) j pos) (cC (.int i)) := te_const pe_int fun _ _ _ => .int i
theorem te_bl {i j} : TE X (.Constant (.bool i) j pos) (cC (.bl i)) := te_const pe_bl fun _ _ _ => .bl i
theorem te_non {j} : TE X (.Constant .none j pos) (cC .non) := te_const pe_non fun _ _ _ => .non
/-- a written text's signs -/
def q (s : Str) : List Sg := s.cps.toList.map fun c => ⟨c % 128, Nat.mod_lt _ (by decide)⟩
theorem te_str {x : Str} {j} (h : txt (q x) = x := by decide +kernel) : TE X (.Constant (.str x) j pos) (cC (.str (q x))) := te_const pe_str fun M H S => by
  have r := Rep.str (G := gdOf X M) (H := H) (S := S) (q x)
  rw [h] at r
  exact r

/-- an operation on trees -/
def OpT (X : Cx) (f : Value → Value → Sem Value) (op : Sto → T → T → Option T) : Prop :=
  OpR X f fun x y H Q => ∃ M S tx ty t, StoOk (gdOf X M) H S ∧ Rep (gdOf X M) H S tx x ∧ Rep (gdOf X M) H S ty y ∧ op S tx ty = some t ∧ ∀ v H', StoOk (gdOf X M) H' S → Ext S H S H' → Rep (gdOf X M) H' S t v → Q v H'
def UnT (X : Cx) (f : Value → Sem Value) (op : Sto → T → Option T) : Prop :=
  UnR X f fun x H Q => ∃ M S tx t, StoOk (gdOf X M) H S ∧ Rep (gdOf X M) H S tx x ∧ op S tx = some t ∧ ∀ v H', StoOk (gdOf X M) H' S → Ext S H S H' → Rep (gdOf X M) H' S t v → Q v H'
/-- two expressions in a row -/
theorem two {r : R2} {M : Addr → Prop} {op : Sto → T → T → Option T} {E : T → TEnv → Sto → Prop} {σ : L2.St} {H : Hp} {Q : VK}
    (hr : ∀ x y H Q, (∃ M S tx ty t, StoOk (gdOf X M) H S ∧ Rep (gdOf X M) H S tx x ∧ Rep (gdOf X M) H S ty y ∧ op S tx ty = some t ∧ ∀ v H', StoOk (gdOf X M) H' S → Ext S H S H' → Rep (gdOf X M) H' S t v → Q v H') → r x y H Q)
    (h : LE X M S0 H0 (cOp op ta tb) E σ H Q) : tOp r (LE X M S0 H0 ta E) (LE X M S0 H0 tb E) σ H Q := by
  obtain ⟨τ, S, Qt, rel, h, k⟩ := h
  refine ⟨τ, S, _, rel, h, fun zx S1 x H1 hb o1 x1 r1 => ⟨τ, S1, _, rel.step o1 x1, hb, fun zy S2 y H2 hz o2 x2 r2 => hr _ _ _ _ ?_⟩⟩
  obtain ⟨z, e, hq⟩ := hz
  exact ⟨M, S2, zx, zy, z, o2, Rep.ext x2 _ _ r1, r2, e, fun v H' o3 x3 r3 => k z S2 v H' hq o3 ((x1.trans x2).trans x3) r3⟩
theorem te_bin {op : Operator} {f : Sto → T → T → Option T} (ho : OpT X (binaryOp op) f) (ha : TE X a ta) (hb : TE X b tb) : TE X (.BinOp a op b pos) (cOp f ta tb) := fun M S0 H0 E tk =>
  (pe_op ho (ha M S0 H0 E tk) (hb M S0 H0 E tk)).weak fun _ _ _ h => two (fun _ _ _ _ z => z) h
theorem te_cmp {op : CmpOp} {f : Sto → T → T → Option T} (ho : OpT X (compareOp op) f) (ha : TE X a ta) (hb : TE X b tb) (hm : behindInMarks op b = false) : TE X (.Compare a [op] [b] pos) (cOp f ta tb) := fun M S0 H0 E tk =>
  (pe_cmpR ho (ha M S0 H0 E tk) (hb M S0 H0 E tk) hm).weak fun _ _ _ h => two (fun _ _ _ _ z => z) h
theorem te_un {op : UnaryOp} {f : Sto → T → Option T} (ho : UnT X (unaryOp op) f) (ha : TE X a ta) : TE X (.UnaryOp op a pos) (cUn f ta) := fun M S0 H0 E tk =>
  (pe_un ho (ha M S0 H0 E tk)).weak fun σ H Q ⟨τ, S, Qt, rel, h, k⟩ => ⟨τ, S, _, rel, h, fun zx S1 x H1 ⟨z, e, hq⟩ o1 x1 r1 => ⟨M, S1, zx, z, o1, r1, e, fun v H' o3 x3 r3 => k z S1 v H' hq o3 (x1.trans x3) r3⟩⟩
/-- a truth as a test -/
theorem tb_val (ha : TE X a ta) (he : ∀ whole, isTrue a X.env whole = (do let v ← whole; standAt a.pos; holding [v] (truthy v)) := by intro _; rfl) : TB X a (bVal ta) := fun M S0 H0 E tk =>
  (pt_val (ha M S0 H0 E tk) he).weak fun σ H Q ⟨τ, S, Qt, rel, h, k⟩ => ⟨τ, S, _, rel, h, fun zx S1 x H1 ⟨b, e, hq⟩ o1 x1 r1 => by
    subst e
    cases r1
    exact ⟨b, rfl, k b S1 H1 hq o1 x1⟩⟩
theorem tb_cmp {op : CmpOp} {f : Sto → T → T → Option T} (ho : OpT X (compareOp op) f) (ha : TE X a ta) (hb : TE X b tb) (hm : behindInMarks op b = false) : TB X (.Compare a [op] [b] pos) (bVal (cOp f ta tb)) := fun M S0 H0 E tk =>
  (pt_cmpR ho (ha M S0 H0 E tk) (hb M S0 H0 E tk) hm).weak fun σ H Q ⟨τ, S, Qt, rel, h, k⟩ => two (S0 := S0) (H0 := H0) (fun _ _ _ _ z => z) ⟨τ, S, _, rel, h, fun zx S1 x H1 ⟨b, e, hq⟩ o1 x1 r1 => by
    subst e
    cases r1
    exact ⟨b, rfl, k b S1 H1 hq o1 x1⟩⟩
theorem TW.toB (h : TW X a tA) : TB X a tA := fun M S0 H0 E tk => (h M S0 H0 E tk).pt
theorem tw_and1 (ha : TB X a tA) : TW X (.BoolOp .And [a] pos) tA := fun M S0 H0 E tk => pw_and1 (ha M S0 H0 E tk)
theorem tw_or1 (ha : TB X a tA) : TW X (.BoolOp .Or [a] pos) tA := fun M S0 H0 E tk => pw_or1 (ha M S0 H0 E tk)
theorem tw_and {rest : List Expr} (ha : TB X a tA) (hb : TW X (.BoolOp .And (b :: rest) pos) tB) : TW X (.BoolOp .And (a :: b :: rest) pos) (bAnd tA tB) := fun M S0 H0 E tk =>
  (pw_and (ha M S0 H0 E tk) (hb M S0 H0 E tk)).weak fun σ H Q ⟨τ, S, Qt, rel, h, k⟩ => ⟨τ, S, _, rel, h, fun c S1 H1 hq o1 x1 => by
    cases c with
    | true => exact ⟨τ, S1, _, rel.step o1 x1, hq, fun d S2 H2 hq2 o2 x2 => k d S2 H2 hq2 o2 (x1.trans x2)⟩
    | false => exact k false S1 H1 hq o1 x1⟩
theorem tw_or {rest : List Expr} (ha : TB X a tA) (hb : TW X (.BoolOp .Or (b :: rest) pos) tB) : TW X (.BoolOp .Or (a :: b :: rest) pos) (bOr tA tB) := fun M S0 H0 E tk =>
  (pw_or (ha M S0 H0 E tk) (hb M S0 H0 E tk)).weak fun σ H Q ⟨τ, S, Qt, rel, h, k⟩ => ⟨τ, S, _, rel, h, fun c S1 H1 hq o1 x1 => by
    cases c with
    | false => exact ⟨τ, S1, _, rel.step o1 x1, hq, fun d S2 H2 hq2 o2 x2 => k d S2 H2 hq2 o2 (x1.trans x2)⟩
    | true => exact k true S1 H1 hq o1 x1⟩
theorem te_one {op} (ha : TE X a ta) : TE X (.BoolOp op [a] pos) ta := fun M S0 H0 E tk => pe_one (ha M S0 H0 E tk)
theorem te_and {rest : List Expr} (ha : TE X a ta) (hb : TE X (.BoolOp .And (b :: rest) pos) tb) : TE X (.BoolOp .And (a :: b :: rest) pos) (cAnd ta tb) := fun M S0 H0 E tk =>
  (pe_and (ha M S0 H0 E tk) (hb M S0 H0 E tk)).weak fun σ H Q ⟨τ, S, Qt, rel, h, k⟩ => ⟨τ, S, _, rel, h, fun z S1 v H1 ⟨c, e, hq⟩ o1 x1 r1 => by
    subst e
    cases r1
    cases c with
    | true => exact ⟨true, rfl, τ, S1, _, rel.step o1 x1, hq, fun d S2 v H2 hq2 o2 x2 r2 => k d S2 v H2 hq2 o2 (x1.trans x2) r2⟩
    | false => exact ⟨false, rfl, k (.bl false) S1 _ H1 hq o1 x1 (.bl _)⟩⟩
theorem ta_nil : TA X [] cNil := fun M S0 H0 E tk => pa_nil.weak fun σ H Q ⟨τ, S, Qt, rel, h, k⟩ => k [] S [] H h rel.sto Ext.refl .nil
theorem ta_cons (ha : TE X e ta) (hr : TA X es tr) (hs : starEach (e :: es) X.env = (false, eval e X.env) :: starEach es X.env := by rfl) : TA X (e :: es) (cCons ta tr) := fun M S0 H0 E tk =>
  (pa_cons (ha M S0 H0 E tk) (hr M S0 H0 E tk) hs).weak fun σ H Q ⟨τ, S, Qt, rel, h, k⟩ => ⟨τ, S, _, rel, h, fun z S1 v H1 hq o1 x1 r1 =>
    ⟨τ, S1, _, rel.step o1 x1, hq, fun zs S2 vs H2 hq2 o2 x2 r2 => k (z :: zs) S2 (v :: vs) H2 hq2 o2 (x1.trans x2) (.cons (Rep.ext x2 _ _ r1) r2)⟩⟩
theorem te_tup {k} (h : TA X es tr) : TE X (.Tuple es k pos) (cTup tr) := fun M S0 H0 E tk =>
  (pe_tupF (h M S0 H0 E tk)).weak fun σ H Q ⟨τ, S, Qt, rel, h, k⟩ => ⟨τ, S, _, rel, h, fun zs S1 vs H1 ⟨hl, hq⟩ o1 x1 r1 =>
    ⟨by rw [← r1.length]; exact hl, fun p o n d => k (.tup zs) S1 (.ref p) _ hq (o1.new n) (x1.trans (Ext.new n)) (.tup (.inl ⟨o, ⟨upd_same, d⟩, o1.free n, o1.nom n⟩) (Reps.ext (Ext.new n) _ _ r1))⟩⟩
theorem te_lst (h : TA X es tr) : TE X (.List es pos) (cLst tr) := fun M S0 H0 E tk =>
  (pe_lst (h M S0 H0 E tk)).weak fun σ H Q ⟨τ, S, Qt, rel, h, k⟩ => ⟨τ, S, _, rel, h, fun zs S1 vs H1 ⟨hl, hq⟩ o1 x1 r1 =>
    ⟨by rw [← r1.length]; exact hl, fun p n => k (.lst zs) S1 (.ref p) _ hq (o1.new n) (x1.trans (Ext.new n)) (.lst ⟨upd_same, o1.free n, o1.nom n⟩ (Reps.ext (Ext.new n) _ _ r1))⟩⟩
theorem te_lstM (h : TA X es tr) : TE X (.List es pos) (cLstM tr) := fun M S0 H0 E tk =>
  (pe_lst (h M S0 H0 E tk)).weak fun σ H Q ⟨τ, S, Qt, rel, h, k⟩ => ⟨τ, S, _, rel, h, fun zs S1 vs H1 ⟨hl, hq⟩ o1 x1 r1 =>
    ⟨by rw [← r1.length]; exact hl, fun p n => k (.ref p) (ups S1 p (.lst zs)) (.ref p) _ (hq p (o1.free n)) (o1.cell (.inl n) ⟨vs, upd_same, Reps.ext (Ext.cell (.inl n)) _ _ r1⟩) (x1.trans (Ext.cell (.inl n))) (.ref p)⟩⟩
end
end TL
namespace TL
open PySem PySem.Spec PyProof.Rows L2
abbrev TTG := T → TEnv → Sto → (TEnv → Sto → Prop) → Prop
abbrev TTGs := List T → TEnv → Sto → (TEnv → Sto → Prop) → Prop
def LG (X : Cx) (M : Addr → Prop) (vs : List Nat) (S0 : Sto) (H0 : Hp) (g : TTG) : L2.TG := fun v σ H Q => ∃ τ S z Qt, Rel (gdOf X M) S0 H0 σ H τ S ∧ Rep (gdOf X M) H S z v ∧ g z τ S Qt ∧
  ∀ σ' H' τ' S', Rel (gdOf X M) S0 H0 σ' H' τ' S' → Ext S H S' H' → wipe σ' vs = wipe σ vs → Qt τ' S' → Q σ' H'
def LGs (X : Cx) (M : Addr → Prop) (vs : List Nat) (S0 : Sto) (H0 : Hp) (g : TTGs) : L2.TGs := fun xs σ H Q => ∃ τ S zs Qt, Rel (gdOf X M) S0 H0 σ H τ S ∧ Reps (gdOf X M) H S zs xs ∧ g zs τ S Qt ∧
  ∀ σ' H' τ' S', Rel (gdOf X M) S0 H0 σ' H' τ' S' → Ext S H S' H' → wipe σ' vs = wipe σ vs → Qt τ' S' → Q σ' H'
/-- a target; vs: the names that it may store -/
def TGt (X : Cx) (vs : List Nat) (e : Expr) (g : TTG) : Prop := ∀ M S0 H0 E, Takes X (wOf X M S0 H0 E) → PG X e (LG X M vs S0 H0 g)
def TGts (X : Cx) (vs : List Nat) (es : List Expr) (g : TTGs) : Prop := ∀ M S0 H0 E, Takes X (wOf X M S0 H0 E) → PGs X es (LGs X M vs S0 H0 g)
theorem _root_.L2.PG.weak {X : Cx} {e : Expr} {t u : L2.TG} (h : PG X e t) (k : ∀ v σ H Q, u v σ H Q → t v σ H Q) : PG X e u := ⟨fun pins s σ H v w Q I r q => h.run pins s σ H v w Q I r (k _ _ _ _ q)⟩
theorem _root_.L2.PGs.weak {X : Cx} {es : List Expr} {t u : L2.TGs} (h : PGs X es t) (k : ∀ v σ H Q, u v σ H Q → t v σ H Q) : PGs X es u := ⟨fun pins s σ H v w Q I r q => h.run pins s σ H v w Q I r (k _ _ _ _ q)⟩
theorem wipe_at {σ : L2.St} {i : Nat} : ∀ (vs : List Nat), (wipe σ vs)[i]? = if i ∈ vs then (σ[i]?).map (fun _ => none) else σ[i]?
  | [] => by simp [wipe]
  | v :: vs => by
    unfold wipe
    by_cases h : v = i
    · subst h
      rw [List.getElem?_set_self', wipe_at vs]
      by_cases hm : v ∈ vs
      · simp [hm]
        cases σ[v]? <;> rfl
      · simp [hm]
        rfl
    · rw [List.getElem?_set_ne h, wipe_at vs]
      have h' : ¬ i = v := fun e => h e.symm
      simp [h']
theorem wipe_set {σ : L2.St} {i : Nat} {x : Option V} (vs : List Nat) (h : i ∈ vs) : wipe (σ.set i x) vs = wipe σ vs := by
  apply List.ext_getElem?
  intro j
  rw [wipe_at, wipe_at]
  by_cases e : i = j
  · subst e
    rw [if_pos h, if_pos h, List.getElem?_set_self']
    cases σ[i]? <;> rfl
  · rw [List.getElem?_set_ne e]
def gN (i : Nat) : TTG := fun z τ S Q => Q (τ.set i (some z)) S
def gT (g : TTGs) : TTG := fun z τ S Q => ∃ zs, z = .tup zs ∧ g zs τ S Q
def gL (g : TTGs) : TTG := fun z τ S Q => ∃ zs, z = .lst zs ∧ g zs τ S Q
def gZ : TTGs := fun zs τ S Q => zs = [] ∧ Q τ S
def gC (g : TTG) (r : TTGs) : TTGs := fun zs τ S Q => ∃ z ys, zs = z :: ys ∧ g z τ S fun τ' S' => r ys τ' S' Q
section
variable {X : Cx} {vs : List Nat} {e : Expr} {es : List Expr} {g : TTG} {r : TTGs} {pos : Pos}
theorem tg_name {i : Nat} {x : Str} (hi : i ∈ vs) (hN : X.N.Nodup) (hx : X.N[i]? = some x) (hl : Loc X.env.scope x) (hf : X.fn x = true ∨ X.env.scope.names.lookup x = some .local := by first | exact .inl rfl | exact .inr rfl | assumption) : TGt X vs (.Name x pos) (gN i) := fun M S0 H0 E tk =>
  (pg_name hN hx hl hf).weak fun v σ H Q ⟨τ, S, z, Qt, rel, hz, h, k⟩ => k _ _ _ _ (rel.set hz) Ext.refl (wipe_set vs hi) h
theorem tgs_nil : TGts X vs [] gZ := fun M S0 H0 E tk => pgs_nil.weak fun v σ H Q ⟨τ, S, z, Qt, rel, hz, ⟨h0, h⟩, k⟩ => by
  subst h0
  cases hz
  exact ⟨rfl, k _ _ _ _ rel Ext.refl rfl h⟩
theorem tgs_cons (h1 : TGt X vs e g) (h2 : TGts X vs es r) (hs : (assignEach (e :: es) X.env).map (·.2) = assign e X.env :: (assignEach es X.env).map (·.2) := by rfl) : TGts X vs (e :: es) (gC g r) := fun M S0 H0 E tk =>
  (pgs_cons (h1 M S0 H0 E tk) (h2 M S0 H0 E tk) hs).weak fun v σ H Q ⟨τ, S, z, Qt, rel, hz, ⟨y, ys, h0, h⟩, k⟩ => by
    subst h0
    cases hz with
    | cons a b =>
      exact ⟨_, _, rfl, τ, S, y, _, rel, a, h, fun σ1 H1 τ1 S1 rel1 x1 w1 q1 => ⟨τ1, S1, ys, _, rel1, Reps.ext x1 _ _ b, q1, fun σ2 H2 τ2 S2 rel2 x2 w2 q2 => k _ _ _ _ rel2 (x1.trans x2) (w2.trans w1) q2⟩⟩
theorem tg_tup {k : Nat} {n : Nat} (hc : X.calm = true) (h : TGts X vs es r) (hn : (assignEach es X.env).length = n := by rfl) (hst : (assignEach es X.env).findIdx? (·.1) = none := by rfl)
    (hr : ∀ zs τ S Q, r zs τ S Q → zs.length = n := by intro zs τ S Q z; obtain ⟨_, _, rfl, z⟩ := z; first | (obtain ⟨rfl, _⟩ := z; rfl) | skip) : TGt X vs (.Tuple es k pos) (gT r) := fun M S0 H0 E tk =>
  (pg_tup hc (h M S0 H0 E tk) hn hst).weak fun v σ H Q ⟨τ, S, z, Qt, rel, hz, ⟨zs, h0, h⟩, k⟩ => by
    subst h0
    cases hz with
    | tup a b => exact ⟨_, _, rfl, a.sq, by rw [← b.length]; exact hr _ _ _ _ h, τ, S, zs, _, rel, b, h, k⟩
/-- how many things a row of targets takes -/
def takes (r : TTGs) (n : Nat) : Prop := ∀ zs τ S Q, r zs τ S Q → zs.length = n
theorem takes_z : takes gZ 0 := fun zs τ S Q h => by rw [h.1]; rfl
theorem takes_c {n : Nat} (h : ∀ zs τ S Q, r zs τ S Q → zs.length = n) : takes (gC (gN i) r) (n + 1) := fun zs τ S Q ⟨z, ys, e, q⟩ => by rw [e, List.length_cons, h _ _ _ _ q]
end
def cSkip : TTS := fun D τ S _ => D.nx τ S
def cSeq (t u : TTS) : TTS := fun D τ S E => t { D with nx := fun τ' S' => u D τ' S' E } τ S E
def cAsg (e : TTE) (g : TTG) : TTS := fun D τ S E => e τ S (fun z S' => g z τ S' D.nx) (fun x S' => E x τ S')
def cSet (i : Nat) (e : TTE) : TTS := fun D τ S E => e τ S (fun z S' => D.nx (τ.set i (some z)) S') (fun x S' => E x τ S')
def cRet (e : TTE) : TTS := fun D τ S E => e τ S D.rt (fun x S' => E x τ S')
def cRetN : TTS := fun D _ S _ => D.rt .non S
def cDo (e : TTE) : TTS := fun D τ S E => e τ S (fun _ S' => D.nx τ S') (fun x S' => E x τ S')
def cIfS (c : TTB) (a b : TTS) : TTS := fun D τ S E => c τ S (fun k S' => if k = true then a D τ S' E else b D τ S' E) (fun x S' => E x τ S')
def cPar2 (i j : Nat) (a b : TTE) : TTS := fun D τ S E => a τ S (fun x S1 => b τ S1 (fun y S2 => D.nx ((τ.set i (some x)).set j (some y)) S2) (fun x S' => E x τ S')) (fun x S' => E x τ S')
def cPar3 (i j l : Nat) (a b c : TTE) : TTS := fun D τ S E => a τ S (fun x S1 => b τ S1 (fun y S2 => c τ S2 (fun z S3 => D.nx (((τ.set i (some x)).set j (some y)).set l (some z)) S3) (fun x S' => E x τ S')) (fun x S' => E x τ S')) (fun x S' => E x τ S')
def cBrk : TTS := fun D τ S _ => D.bk τ S
def cCont : TTS := fun D τ S _ => D.ct τ S
section
variable {X : Cx} {st : Stmt} {rest body orelse : List Stmt} {t u : TTS} {e tg : Expr} {te ta tb tc : TTE} {tB : TTB} {g : TTG} {vs : List Nat} {pos : Pos}
theorem tss_nil : TSs X [] cSkip := fun M S0 H0 E tk => pss_nil.weak fun D σ H ⟨τ, S, B, rel, h, k, _⟩ => k _ _ _ _ rel Ext.refl h
theorem tss_cons (h : TS X st t) (hr : TSs X rest u) : TSs X (st :: rest) (cSeq t u) := fun M S0 H0 E tk =>
  (pss_cons (h M S0 H0 E tk) (hr M S0 H0 E tk)).weak fun D σ H ⟨τ, S, B, rel, h, k1, k2, k3, k4⟩ => ⟨τ, S, _, rel, h,
    fun σ1 H1 τ1 S1 rel1 x1 q => ⟨τ1, S1, B, rel1, q, fun σ2 H2 τ2 S2 rel2 x2 q2 => k1 _ _ _ _ rel2 (x1.trans x2) q2, fun z S2 v H2 o2 x2 r2 q2 => k2 z S2 v H2 o2 (x1.trans x2) r2 q2,
      fun σ2 H2 τ2 S2 rel2 x2 q2 => k3 _ _ _ _ rel2 (x1.trans x2) q2, fun σ2 H2 τ2 S2 rel2 x2 q2 => k4 _ _ _ _ rel2 (x1.trans x2) q2⟩, k2, k3, k4⟩
theorem ts_ret (h : TE X e te) : TS X (.Return (some e) pos) (cRet te) := fun M S0 H0 E tk => (ps_ret (h M S0 H0 E tk)).weak fun D σ H ⟨τ, S, B, rel, q, _, k, _⟩ =>
  ⟨τ, S, _, rel, q, fun z S1 v H1 hq o1 x1 r1 => k z S1 v H1 o1 x1 r1 hq⟩
theorem ts_do (h : TE X e te) (hs : swapsWith e none pos.line X.env = pure false := by rfl) : TS X (.Expr e pos) (cDo te) := fun M S0 H0 E tk => (ps_expr (h M S0 H0 E tk) hs).weak fun D σ H ⟨τ, S, B, rel, q, k, _⟩ =>
  ⟨τ, S, _, rel, q, fun z S1 v H1 hq o1 x1 r1 => k _ _ _ _ (rel.step o1 x1) x1 hq⟩
theorem ts_if {c : Expr} {a b : List Stmt} (hc : TB X c tB) (ha : TSs X a t) (hb : TSs X b u) : TS X (.If c a b pos) (cIfS tB t u) := fun M S0 H0 E tk => (ps_if (hc M S0 H0 E tk) (ha M S0 H0 E tk) (hb M S0 H0 E tk)).weak fun D σ H ⟨τ, S, B, rel, q, k1, k2, k3, k4⟩ =>
  ⟨τ, S, _, rel, q, fun c S1 H1 hq o1 x1 => by
    have fin : ∀ t : TTS, t B τ S1 E → LS X M S0 H0 t E D σ H1 := fun t h => ⟨τ, S1, B, rel.step o1 x1, h, fun σ2 H2 τ2 S2 rel2 x2 q2 => k1 _ _ _ _ rel2 (x1.trans x2) q2, fun z S2 v H2 o2 x2 r2 q2 => k2 z S2 v H2 o2 (x1.trans x2) r2 q2,
      fun σ2 H2 τ2 S2 rel2 x2 q2 => k3 _ _ _ _ rel2 (x1.trans x2) q2, fun σ2 H2 τ2 S2 rel2 x2 q2 => k4 _ _ _ _ rel2 (x1.trans x2) q2⟩
    cases c with
    | true => exact fin t hq
    | false => exact fin u hq⟩
theorem ts_set {i : Nat} {x : Str} {pos' : Pos} (hN : X.N.Nodup) (hi : X.N[i]? = some x) (hx : Loc X.env.scope x) (he : TE X e te) (hs : swapsWith e (some (.Name x pos')) pos.line X.env = pure false := by rfl) (hf : X.fn x = true ∨ X.env.scope.names.lookup x = some .local := by first | exact .inl rfl | exact .inr rfl | assumption) :
    TS X (.Assign [.Name x pos'] e pos) (cSet i te) := fun M S0 H0 E tk => (ps_set hN hi hx (he M S0 H0 E tk) hs hf).weak fun D σ H ⟨τ, S, B, rel, q, k, _⟩ =>
  ⟨τ, S, _, rel, q, fun z S1 v H1 hq o1 x1 r1 => k _ _ _ _ ((rel.step o1 x1).set r1) x1 hq⟩
theorem ts_asg (he : TE X e te) (hg : TGt X vs tg g) (hs : swapsWithSole [tg] e pos.line X.env = pure false := by rfl) (hw : swappedStores [tg] e X.env = pure none := by rfl)
    (h1 : (assignEach [tg] X.env).map (·.2) = [assign tg X.env] := by rfl) : TS X (.Assign [tg] e pos) (cAsg te g) := fun M S0 H0 E tk => (ps_asg (he M S0 H0 E tk) (hg M S0 H0 E tk) hs hw h1).weak fun D σ H ⟨τ, S, B, rel, q, k, _⟩ =>
  ⟨τ, S, _, rel, q, fun z S1 v H1 hq o1 x1 r1 => ⟨τ, S1, z, _, rel.step o1 x1, r1, hq, fun σ2 H2 τ2 S2 rel2 x2 _ q2 => k _ _ _ _ rel2 (x1.trans x2) q2⟩⟩
theorem ts_par2 {i j : Nat} {x y : Str} {a b : Expr} {px py pt : Pos} {kt k2 pt2} (hc : X.calm = true) (hN : X.N.Nodup) (hi : X.N[i]? = some x) (hj : X.N[j]? = some y) (hij : i ≠ j)
    (hx : X.env.scope.names.lookup x = some .local) (hy : X.env.scope.names.lookup y = some .local) (ha : TA X [a, b] (cCons ta (cCons tb cNil)))
    (hw : swappedStores [.Tuple [.Name x px, .Name y py] kt pt] (.Tuple [a, b] k2 pt2) X.env = pure (some [x, y]))
    (hs : swapsWithSole [.Tuple [.Name x px, .Name y py] kt pt] (.Tuple [a, b] k2 pt2) pos.line X.env = pure false := by rfl) :
    TS X (.Assign [.Tuple [.Name x px, .Name y py] kt pt] (.Tuple [a, b] k2 pt2) pos) (cPar2 i j ta tb) := fun M S0 H0 E tk => (ps_par hc hN hi hj hij hx hy (ha M S0 H0 E tk) hw hs).weak fun D σ H ⟨τ, S, B, rel, q, k, _⟩ =>
  ⟨τ, S, fun zs S2 => ∃ z1 z2, zs = [z1, z2] ∧ B.nx ((τ.set i (some z1)).set j (some z2)) S2, rel, by
      refine (show ta τ S (fun x S1 => tb τ S1 (fun y S2 => ∃ z1 z2, [x, y] = [z1, z2] ∧ B.nx ((τ.set i (some z1)).set j (some z2)) S2) fun x S' => E x τ S') fun x S' => E x τ S' from ?_)
      have e : (fun (x : T) (S1 : Sto) => tb τ S1 (fun y S2 => ∃ z1 z2, [x, y] = [z1, z2] ∧ B.nx ((τ.set i (some z1)).set j (some z2)) S2) fun x S' => E x τ S') = fun (x : T) (S1 : Sto) => tb τ S1 (fun y S2 => B.nx ((τ.set i (some x)).set j (some y)) S2) fun x S' => E x τ S' := by
        funext x S1
        congr 1
        funext y S2
        apply propext
        constructor
        · rintro ⟨z1, z2, e, h⟩
          injection e with e1 e2
          injection e2 with e2 _
          subst e1 e2
          exact h
        · exact fun h => ⟨x, y, rfl, h⟩
      rw [e]
      exact q, fun zs S1 ws H1 hq o1 x1 r1 => by
    obtain ⟨z1, z2, e, h⟩ := hq
    subst e
    cases r1 with
    | cons r1 r2 =>
      cases r2 with
      | cons r2 r3 =>
        cases r3
        exact ⟨_, _, rfl, k _ _ _ _ (((rel.step o1 x1).set r1).set r2) x1 h⟩⟩
end
end TL
namespace TL
open PySem PySem.Spec PyProof.Rows L2
/-- the iterator J hands out the trees xs while gd holds of the store -/
structure Wks (G : Gd) (J : It) (xs : List T) (gd : Sto → Prop) (S1 : Sto) (H1 : Hp) : Prop where
  go : ∀ (M' : Addr → Prop) S H i z, (∀ a, M' a → ¬ G.M a → H1 a = none) → StoOk (G.mask M') H S → Ext S1 H1 S H → gd S → xs[i]? = some z → J.go i H ∧ ∀ x H', J.yld i H x H' → StoOk (G.mask M') H' S ∧ Ext S H S H' ∧ Rep (G.mask M') H' S z x
  stop : ∀ (M' : Addr → Prop) S H, StoOk (G.mask M') H S → Ext S1 H1 S H → gd S → J.stop xs.length H
abbrev TTI := TEnv → Sto → (List T → (Sto → Prop) → Sto → Prop) → (T → Sto → Prop) → Prop
def LI (X : Cx) (M : Addr → Prop) (S0 : Sto) (H0 : Hp) (t : TTI) (E : T → TEnv → Sto → Prop) : L2.TI := fun σ H R => ∃ τ S Qt, Rel (gdOf X M) S0 H0 σ H τ S ∧ t τ S Qt (fun x S' => E x τ S') ∧
  ∀ xs gd S' J H', Qt xs gd S' → StoOk (gdOf X M) H' S' → Ext S H S' H' → Wks (gdOf X M) J xs gd S' H' → R J H'
def TI (X : Cx) (tg e : Expr) (t : TTI) : Prop := ∀ M S0 H0 E, Takes X (wOf X M S0 H0 E) → PI X tg e (LI X M S0 H0 t E)

def yes : Sto → Prop := fun _ => True
def items (S : Sto) : T → Option (List T × (Sto → Prop))
  | .tup xs => some (xs, yes)
  | .lst xs => some (xs, yes)
  | .str x => some (x.map (fun c => .str [c]), yes)
  | .ref a => match S a with
    | some (.lst xs) => some (xs, fun S' => S' a = some (.lst xs))
    | _ => none
  | _ => none
section
variable {X : Cx} {tg e : Expr}
def iAny (K : PySem.W.Frag) (tl : L2.TE) : L2.TI := fun σ H R => tl σ H fun x H1 => (∃ a xs, x = .ref a ∧ SqL K H1 a xs ∧ R (Itl K a) H1) ∨ (∃ a xs, x = .ref a ∧ SqT K H1 a xs ∧ R (Itt K a) H1) ∨ ∃ y, x = .str y ∧ R (Its y) H1
theorem pi_any {tl : L2.TE} (hl : PE X e tl) : PI X tg e (iAny X.K tl) := by
  constructor
  intro pins s σ H R I h
  refine thn (hl.run pins s σ H _ I h) fun v s1 q1 => ?_
  obtain ⟨x, H1, I1, r1, q1⟩ := q1
  rcases q1 with ⟨a, xs, rfl, hq, q⟩ | ⟨a, xs, rfl, hq, q⟩ | ⟨y, rfl, q⟩
  · obtain rfl : v = .ref a := r1
    obtain ⟨its, _, p, _⟩ := I1.list hq
    exact wpAny_pyIter_list p.isList (pi_one (tk := s1.toks) I1 _ (turn_list a _) ⟨_, Heap.get?_push_size _ rfl, rfl, rfl⟩ q)
  · obtain rfl : v = .ref a := r1
    obtain ⟨its, _, p, _⟩ := I1.tuple hq
    exact wpAny_pyIter_tuple p (pi_one (tk := s1.toks) I1 _ (turn_tuple a _) ⟨_, Heap.get?_push_size _ rfl, rfl, rfl⟩ q)
  · obtain ⟨t, rfl⟩ := r1
    cases ha : y.cps.all (· < 128) with
    | false => exact wpAny_pyIter_wide ha (pi_one (tk := s1.toks) I1 _ (turn_str _ y t "str_iterator" (Or.inr rfl)) ⟨_, Heap.get?_push_size _ rfl, rfl, rfl⟩ q)
    | true => exact wpAny_pyIter_ascii ha (pi_one (tk := s1.toks) I1 _ (turn_str _ y t "str_ascii_iterator" (Or.inl rfl)) ⟨_, Heap.get?_push_size _ rfl, rfl, rfl⟩ q)
end
section
variable {G : Gd} {S1 : Sto} {H1 : Hp}
theorem newK {M' : Addr → Prop} (k : ∀ a, M' a → ¬ G.M a → H1 a = none) : ∀ a u, Rd H1 a u → ¬ G.M a → ¬ M' a := fun a u r m z => by
  have n := k a z m
  rcases r with r | ⟨_, r⟩ <;> rw [n] at r <;> cases r
theorem wks_list {a : Addr} {ws : List V} {ts : List T} (h : LstAt G H1 S1 a ws) (r : Reps G H1 S1 ts ws) : Wks G (Itl G.K a) ts yes S1 H1 where
  go := fun M' S H i z nk o x _ hz => by
    have q := (h.ext x).sq
    obtain ⟨v, h1, h2⟩ := (Reps.ext x _ _ (Reps.mask (newK nk) _ _ r)).get hz
    refine ⟨⟨ws, v, q, h1⟩, ?_⟩
    rintro y H' ⟨rfl, hy⟩
    obtain rfl : v = y := Option.some.inj (h1.symm.trans (hy ws q))
    exact ⟨o, Ext.refl, h2⟩
  stop := fun M' S H o x _ => ⟨ws, (h.ext x).sq, by rw [r.length]; exact Nat.le_refl _⟩
theorem wks_tup {a : Addr} {ws : List V} {ts : List T} (h : TupAt G H1 S1 a ws) (r : Reps G H1 S1 ts ws) : Wks G (Itt G.K a) ts yes S1 H1 where
  go := fun M' S H i z nk o x _ hz => by
    have q := (h.ext x).sq
    obtain ⟨v, h1, h2⟩ := (Reps.ext x _ _ (Reps.mask (newK nk) _ _ r)).get hz
    refine ⟨⟨ws, v, q, h1⟩, ?_⟩
    rintro y H' ⟨rfl, hy⟩
    obtain rfl : v = y := Option.some.inj (h1.symm.trans (hy ws q))
    exact ⟨o, Ext.refl, h2⟩
  stop := fun M' S H o x _ => ⟨ws, (h.ext x).sq, by rw [r.length]; exact Nat.le_refl _⟩
theorem wks_cell {a : Addr} {ts : List T} : Wks G (Itl G.K a) ts (fun S' => S' a = some (.lst ts)) S1 H1 where
  go := fun M' S H i z nk o x hg hz => by
    obtain ⟨ws, hw, r⟩ := o.at_ a _ hg
    obtain ⟨v, h1, h2⟩ := r.get hz
    have q : SqL G.K H a ws := SqL.of hw
    refine ⟨⟨ws, v, q, h1⟩, ?_⟩
    rintro y H' ⟨rfl, hy⟩
    obtain rfl : v = y := Option.some.inj (h1.symm.trans (hy ws q))
    exact ⟨o, Ext.refl, h2⟩
  stop := fun M' S H o x hg => by
    obtain ⟨ws, hw, r⟩ := o.at_ a _ hg
    exact ⟨ws, SqL.of hw, by rw [r.length]; exact Nat.le_refl _⟩
theorem wks_str {x : List Sg} : Wks G (Its (txt x)) (x.map fun c => T.str [c]) yes S1 H1 where
  go := fun M' S H i z nk o _ _ hz => by
    rw [List.getElem?_map] at hz
    cases hc : x[i]? with
    | none => rw [hc] at hz; cases hz
    | some c =>
      rw [hc] at hz
      obtain rfl : T.str [c] = z := Option.some.inj hz
      refine ⟨?_, ?_⟩
      · show i < (x.map (·.val)).toArray.size
        have := (List.getElem?_eq_some_iff.mp hc).1
        simpa using this
      rintro y H' ⟨rfl, d, hd, rfl⟩
      obtain rfl : c.val = d := by
        have hd' : ((x.map (·.val)).toArray)[i]? = some d := hd
        rw [List.getElem?_toArray, List.getElem?_map, hc] at hd'
        exact Option.some.inj hd'
      exact ⟨o, Ext.refl, .str [c]⟩
  stop := fun M' S H o _ _ => by
    show ((x.map (·.val)).toArray).size ≤ (x.map fun c => T.str [c]).length
    simp
theorem wks_range {lo : Int} {n : Nat} : Wks G (Itr lo n) ((List.range n).map fun i => T.int (lo + (i : Nat))) yes S1 H1 where
  go := fun M' S H i z nk o _ _ hz => by
    rw [List.getElem?_map] at hz
    cases hc : (List.range n)[i]? with
    | none => rw [hc] at hz; cases hz
    | some c =>
      rw [hc] at hz
      have hi : i < n := by
        have := (List.getElem?_eq_some_iff.mp hc).1
        simpa using this
      have hci : i = c := by
        rw [List.getElem?_range hi] at hc
        exact Option.some.inj hc
      subst hci
      obtain rfl : T.int (lo + (i : Nat)) = z := Option.some.inj hz
      refine ⟨hi, ?_⟩
      rintro y H' ⟨rfl, rfl⟩
      exact ⟨o, Ext.refl, .int _⟩
  stop := fun M' S H o _ _ => by
    show n ≤ ((List.range n).map fun i => T.int (lo + (i : Nat))).length
    simp
end
/-- what is walked of a value -/
def iSeq (e : TTE) : TTI := fun τ S Q E => e τ S (fun x S1 => ∃ p, items S1 x = some p ∧ Q p.1 p.2 S1) E
def iRange1 (a : TTE) : TTI := fun τ S Q E => a τ S (fun x S1 => ∃ j : Int, x = .int j ∧ -(2 ^ 62) ≤ j ∧ j < 2 ^ 62 ∧ Q ((List.range j.toNat).map fun i => T.int (0 + (i : Nat))) yes S1) E
def iRange2 (a b : TTE) : TTI := fun τ S Q E => a τ S (fun x S1 => b τ S1 (fun y S2 => ∃ i j : Int, x = .int i ∧ y = .int j ∧ (-(2 ^ 62) ≤ i ∧ i < 2 ^ 62 ∧ -(2 ^ 62) ≤ j ∧ j < 2 ^ 62) ∧ Q ((List.range (j - i).toNat).map fun k => T.int (i + (k : Nat))) yes S2) E) E
theorem _root_.L2.PI.weak {X : Cx} {tg e : Expr} {t u : L2.TI} (h : PI X tg e t) (k : ∀ σ H R, u σ H R → t σ H R) : PI X tg e u := ⟨fun pins s σ H R I q => h.run pins s σ H R I (k _ _ _ q)⟩
section
variable {X : Cx} {tg e a b : Expr} {te ta tb : TTE} {p pos : Pos}
theorem ti_seq (h : TE X e te) : TI X tg e (iSeq te) := fun M S0 H0 E tk => (pi_any (h M S0 H0 E tk)).weak fun σ H R ⟨τ, S, Qt, rel, q, k⟩ => ⟨τ, S, _, rel, q, fun z S1 v H1 ⟨pr, hp, hq⟩ o1 x1 r1 => by
  cases r1 with
  | tup h1 h2 =>
    obtain rfl := Option.some.inj hp
    exact .inr (.inl ⟨_, _, rfl, h1.sq, k _ _ S1 _ H1 hq o1 x1 (wks_tup h1 h2)⟩)
  | lst h1 h2 =>
    obtain rfl := Option.some.inj hp
    exact .inl ⟨_, _, rfl, h1.sq, k _ _ S1 _ H1 hq o1 x1 (wks_list h1 h2)⟩
  | str y =>
    obtain rfl := Option.some.inj hp
    exact .inr (.inr ⟨_, rfl, k _ _ S1 _ H1 hq o1 x1 wks_str⟩)
  | ref a =>
    cases hs : S1 a with
    | none => simp [items, hs] at hp
    | some c =>
      cases c with
      | lst ts =>
        simp only [items, hs] at hp
        obtain rfl := Option.some.inj hp
        obtain ⟨ws, hw, r⟩ := o1.at_ a _ hs
        exact .inl ⟨a, ws, rfl, SqL.of hw, k _ _ S1 _ H1 hq o1 x1 wks_cell⟩
      | dct _ _ _ => simp [items, hs] at hp
      | ins _ _ _ => simp [items, hs] at hp
  | _ => cases hp⟩
theorem ti_range1 (hg : Gl X "range") (hm : X.mg "range" = none) (ha : TE X a ta) (hs : starEach [a] X.env = [(false, eval a X.env)] := by rfl) : TI X tg (.Call (.Name "range" p) [a] [] pos) (iRange1 ta) := fun M S0 H0 E tk =>
  (pi_range1 hg hm (ta_cons ha ta_nil hs M S0 H0 E tk) hs).weak fun σ H R ⟨τ, S, Qt, rel, q, k⟩ => ⟨τ, S, fun zs S1 => ∃ j : Int, zs = [.int j] ∧ -(2 ^ 62) ≤ j ∧ j < 2 ^ 62 ∧ Qt ((List.range j.toNat).map fun i => T.int (0 + (i : Nat))) yes S1, rel, by
    have e : (fun (x : T) (S1 : Sto) => ∃ j : Int, [x] = [T.int j] ∧ -(2 ^ 62) ≤ j ∧ j < 2 ^ 62 ∧ Qt ((List.range j.toNat).map fun i => T.int (0 + (i : Nat))) yes S1) = fun (x : T) (S1 : Sto) => ∃ j : Int, x = .int j ∧ -(2 ^ 62) ≤ j ∧ j < 2 ^ 62 ∧ Qt ((List.range j.toNat).map fun i => T.int (0 + (i : Nat))) yes S1 := by
      funext x S1
      simp only [List.cons.injEq, and_true]
    show ta τ S (fun (x : T) (S1 : Sto) => ∃ j : Int, [x] = [T.int j] ∧ -(2 ^ 62) ≤ j ∧ j < 2 ^ 62 ∧ Qt ((List.range j.toNat).map fun i => T.int (0 + (i : Nat))) yes S1) fun x S' => E x τ S'
    rw [e]
    exact q, fun zs S1 vs H1 hq o1 x1 r1 => by
    obtain ⟨j, rfl, h1, h2, hq⟩ := hq
    cases r1 with
    | cons r1 r2 =>
      cases r2
      cases r1
      exact ⟨j, rfl, h1, h2, k _ _ S1 _ H1 hq o1 x1 wks_range⟩⟩
theorem ti_range2 (hg : Gl X "range") (hm : X.mg "range" = none) (ha : TE X a ta) (hb : TE X b tb) (hs : starEach [a, b] X.env = [(false, eval a X.env), (false, eval b X.env)] := by rfl) (hs2 : starEach [b] X.env = [(false, eval b X.env)] := by rfl) : TI X tg (.Call (.Name "range" p) [a, b] [] pos) (iRange2 ta tb) := fun M S0 H0 E tk =>
  (pi_range2 hg hm (ta_cons ha (ta_cons hb ta_nil hs2) (by rw [hs, hs2]) M S0 H0 E tk) hs hs2).weak fun σ H R ⟨τ, S, Qt, rel, q, k⟩ => ⟨τ, S, fun zs S1 => ∃ i j : Int, zs = [.int i, .int j] ∧ (-(2 ^ 62) ≤ i ∧ i < 2 ^ 62 ∧ -(2 ^ 62) ≤ j ∧ j < 2 ^ 62) ∧ Qt ((List.range (j - i).toNat).map fun k => T.int (i + (k : Nat))) yes S1, rel, by
    have e : ∀ (x y : T) (S2 : Sto), (∃ i j : Int, [x, y] = [T.int i, T.int j] ∧ (-(2 ^ 62) ≤ i ∧ i < 2 ^ 62 ∧ -(2 ^ 62) ≤ j ∧ j < 2 ^ 62) ∧ Qt ((List.range (j - i).toNat).map fun k => T.int (i + (k : Nat))) yes S2) = ∃ i j : Int, x = .int i ∧ y = .int j ∧ (-(2 ^ 62) ≤ i ∧ i < 2 ^ 62 ∧ -(2 ^ 62) ≤ j ∧ j < 2 ^ 62) ∧ Qt ((List.range (j - i).toNat).map fun k => T.int (i + (k : Nat))) yes S2 := fun x y S2 => by
      simp only [List.cons.injEq, and_true, and_assoc]
    show ta τ S (fun x S1 => tb τ S1 (fun y S2 => ∃ i j : Int, [x, y] = [T.int i, T.int j] ∧ (-(2 ^ 62) ≤ i ∧ i < 2 ^ 62 ∧ -(2 ^ 62) ≤ j ∧ j < 2 ^ 62) ∧ Qt ((List.range (j - i).toNat).map fun k => T.int (i + (k : Nat))) yes S2) fun x S' => E x τ S') fun x S' => E x τ S'
    simp only [e]
    exact q, fun zs S1 vs H1 hq o1 x1 r1 => by
    obtain ⟨i, j, rfl, h1, hq⟩ := hq
    cases r1 with
    | cons r1 r2 =>
      cases r2 with
      | cons r2 r3 =>
        cases r3
        cases r1
        cases r2
        exact ⟨i, j, rfl, h1, k _ _ S1 _ H1 hq o1 x1 wks_range⟩⟩
end
def forT (g : TTG) (b : TTS) (gd : Sto → Prop) (D : TD) (E : T → TEnv → Sto → Prop) : List T → TEnv → Sto → Prop
  | [], τ, S => gd S ∧ D.nx τ S
  | x :: xs, τ, S => gd S ∧ g x τ S fun τ1 S1 => b { D with nx := forT g b gd D E xs, ct := forT g b gd D E xs, bk := D.nx } τ1 S1 E
def cFor (it : TTI) (g : TTG) (b : TTS) : TTS := fun D τ S E => it τ S (fun xs gd S1 => forT g b gd D E xs τ S1) (fun x S' => E x τ S')
section
variable {X : Cx} {tg iter : Expr} {body : List Stmt} {ti : TTI} {g : TTG} {t : TTS} {vs : List Nat} {pos : Pos}
theorem ts_for (hp : PassesOwn (model X.prog X.w) X.A X.env X.xe) (hc : X.calm = true) (hi : TI X tg iter ti) (hg : TGt X vs tg g) (hb : TSs X body t) (hs : ∀ x, foldedSetIterable iter X.env x = pure x := by intro _; rfl) :
    TS X (.For tg iter body [] pos) (cFor ti g t) := fun M S0 H0 E tk => (ps_for hp hc (hi M S0 H0 E tk) (hg M S0 H0 E tk) (hb M S0 H0 E tk) hs).weak fun D σ H ⟨τ, S, B, rel, q, k1, k2, k3, k4⟩ => by
  refine ⟨τ, S, _, rel, q, fun xs gd S1 J H1 hq o1 x1 wk => ?_⟩
  let W : Nat → Nat → L2.St → Hp → Prop := fun i m σ' H' => m = xs.length - i ∧ i ≤ xs.length ∧ ∃ τ' S', Rel (gdOf X M) S0 H0 σ' H' τ' S' ∧ Ext S1 H1 S' H' ∧ forT g t gd B E (xs.drop i) τ' S'
  refine ⟨W, ⟨xs.length, by simp, Nat.zero_le _, τ, S1, rel.step o1 x1, Ext.refl, hq⟩, ?_⟩
  rintro i m σ2 H2 ⟨rfl, hi, τ2, S2, rel2, x2, q2⟩
  by_cases hlt : i < xs.length
  · rw [List.drop_eq_getElem_cons hlt] at q2
    obtain ⟨hgd, q2⟩ := q2
    obtain ⟨hgo, hy⟩ := wk.go M S2 H2 i xs[i] (fun a h n => absurd h n) rel2.sto x2 hgd (List.getElem?_eq_getElem hlt)
    refine .inr ⟨hgo, W (i + 1) (xs.length - (i + 1)), fun σ' H' w => ⟨_, by omega, w⟩, fun x H' y => ?_⟩
    obtain ⟨o3, x3, r3⟩ := hy x H' y
    refine ⟨τ2, S2, xs[i], _, rel2.step o3 x3, r3, q2, fun σ4 H4 τ4 S4 rel4 x4 _ q4 => ?_⟩
    have xx : Ext S1 H1 S4 H4 := (x2.trans x3).trans x4
    refine ⟨τ4, S4, _, rel4, q4, fun σ5 H5 τ5 S5 rel5 x5 q5 => ⟨rfl, hlt, τ5, S5, rel5, xx.trans x5, q5⟩, fun z S5 v H5 o5 x5 r5 q5 => k2 z S5 v H5 o5 (x1.trans (xx.trans x5)) r5 q5,
      fun σ5 H5 τ5 S5 rel5 x5 q5 => k1 _ _ _ _ rel5 (x1.trans (xx.trans x5)) q5, fun σ5 H5 τ5 S5 rel5 x5 q5 => ⟨rfl, hlt, τ5, S5, rel5, xx.trans x5, q5⟩⟩
  · have e : i = xs.length := by omega
    subst e
    rw [List.drop_length] at q2
    exact .inl ⟨wk.stop M S2 H2 rel2.sto x2 q2.1, k1 _ _ _ _ rel2 (x1.trans x2) q2.2⟩
end
def wipeT (τ : TEnv) : List Nat → TEnv
  | [] => τ
  | v :: vs => (wipeT τ vs).set v none
def compT (g : TTG) (c : TTB) (e : TTE) (own : List Nat) (gd : Sto → Prop) (τ : TEnv) (K : List T → Sto → Prop) : List T → List T → Sto → Prop
  | [], acc, S => gd S ∧ K acc S
  | x :: xs, acc, S => gd S ∧ g x (wipeT τ own) S fun τ1 S1 => c τ1 S1 (fun k S2 => if k = true then e τ1 S2 (fun y S3 => acc.length < sizeLine ∧ compT g c e own gd τ K xs (acc ++ [y]) S3) (fun _ _ => False)
    else compT g c e own gd τ K xs acc S2) (fun _ _ => False)
def cComp (it : TTI) (g : TTG) (c : TTB) (e : TTE) (own : List Nat) : TTE := fun τ S Q E => it τ S (fun xs gd S1 => compT g c e own gd τ (fun zs S2 => Q (.lst zs) S2) xs [] S1) E
def cCompM (it : TTI) (g : TTG) (c : TTB) (e : TTE) (own : List Nat) : TTE := fun τ S Q E => it τ S (fun xs gd S1 => compT g c e own gd τ (fun zs S2 => ∀ p, S2 p = none → Q (.ref p) (ups S2 p (.lst zs))) xs [] S1) E
def bYes : TTB := fun _ S Q _ => Q true S
section
variable {G : Gd} {H : Hp} {S : Sto}
theorem EnvR.wipe {σ : L2.St} {τ : TEnv} (h : EnvR G H S σ τ) (vs : List Nat) : EnvR G H S (wipe σ vs) (wipeT τ vs) := by
  induction vs with
  | nil => exact h
  | cons v vs ih =>
    refine ⟨?_, fun i t e => ?_⟩
    · show ((L2.wipe σ vs).set v none).length = ((wipeT τ vs).set v none).length
      rw [List.length_set, List.length_set]
      exact ih.1
    · have e' : ((wipeT τ vs).set v none)[i]? = some (some t) := e
      by_cases hv : v = i
      · subst hv
        rw [List.getElem?_set_self'] at e'
        cases q : (wipeT τ vs)[v]? with
        | none => rw [q] at e'; cases e'
        | some z => rw [q] at e'; cases e'
      · rw [List.getElem?_set_ne hv] at e'
        obtain ⟨w, h1, h2⟩ := ih.2 i t e'
        refine ⟨w, ?_, h2⟩
        show ((L2.wipe σ vs).set v none)[i]? = some (some w)
        rw [List.getElem?_set_ne hv]
        exact h1
end
def TBs (X : Cx) (ifs : List Expr) (t : TTB) : Prop := ∀ M S0 H0 E, Takes X (wOf X M S0 H0 E) → PTs X ifs (LB X M S0 H0 t E)
theorem tbs_nil {X : Cx} : TBs X [] bYes := fun M S0 H0 E tk => ⟨fun pins s σ H Q I ⟨τ, S, Qt, rel, h, k⟩ => pts_nil.run pins s σ H Q I (k true S H h rel.sto Ext.refl)⟩
theorem tbs_one {X : Cx} {c : Expr} {t : TTB} (h : TB X c t) : TBs X [c] t := fun M S0 H0 E tk => pts_one (h M S0 H0 E tk)
theorem takes_blk {X : Cx} {s : Shared} {H : Hp} {scope : Scope} {env : Env} {fp : List Addr} {M : Addr → Prop} {S0 : Sto} {H0 : Hp} : Takes (X.blk s H scope env fp) (wOf (X.blk s H scope env fp) M S0 H0 fun _ _ _ => False) := takes0.imp fun c d σ H ⟨_, _, _, _, _, z⟩ => z.elim
/-- E is never: within a block nothing is let out -/
abbrev EN : T → TEnv → Sto → Prop := fun _ _ _ => False
/-- the mask with one more -/
def also (M : Addr → Prop) (D : Addr) : Addr → Prop := fun a => M a ∨ a = D
/-- readings whose mask is chosen where they begin -/
def XG (X : Cx) (vs : List Nat) (S0 : Sto) (H0 : Hp) (g : TTG) : L2.TG := fun v σ H Q => ∃ M, LG X M vs S0 H0 g v σ H Q
def XB (X : Cx) (S0 : Sto) (H0 : Hp) (t : TTB) : L2.TT := fun σ H Q => ∃ M, LB X M S0 H0 t EN σ H Q
def XE' (X : Cx) (S0 : Sto) (H0 : Hp) (t : TTE) : L2.TE := fun σ H Q => ∃ M, LE X M S0 H0 t EN σ H Q
section
variable {X : Cx} {elt tg iter : Expr} {ifs : List Expr} {scope : Scope} {own : List Nat} {ti : TTI} {g : TTG} {tc : TTB} {te : TTE} {pos spos py : Pos}
/-- the comprehension's reading from its tree -/
theorem comp_read {M : Addr → Prop} {S0 : Sto} {H0 : Hp} {E : T → TEnv → Sto → Prop} {σ : L2.St} {H : Hp} {Q : VK} {τ : TEnv} {S : Sto} (Kt : List T → Sto → Prop) (rel : Rel (gdOf X M) S0 H0 σ H τ S)
    (h : ti τ S (fun xs gd S1 => compT g tc te own gd τ Kt xs [] S1) (fun x S' => E x τ S'))
    (fin : ∀ zs S2 D H2 vs, Kt zs S2 → StoOk (gdOf X (also M D)) H2 S2 → Ext S H S2 H2 → H2 D = some (.lst vs) → S2 D = none → ¬ M D → (∀ c, Ext S H (ups S2 D c) H2) → Reps (gdOf X (also M D)) H2 S2 zs vs → Q (.ref D) H2) :
    tLc (LI X M S0 H0 ti E) (XG X own S0 H0 g) (XB X S0 H0 tc) (XE' X S0 H0 te) own σ H Q := by
  refine ⟨τ, S, _, rel, h, fun xs gd S1 J H1 hq o1 x1 wk D hD => ?_⟩
  have xD : Ext S1 H1 S1 (upd H1 D (.lst [])) := Ext.new hD
  let W : Nat → Nat → Hp → Prop := fun i m H' => m = xs.length - i ∧ i ≤ xs.length ∧ ∃ S' acc vs, StoOk (gdOf X (also M D)) H' S' ∧ Ext S1 H1 S' H' ∧ H' D = some (.lst vs) ∧ S' D = none ∧ Reps (gdOf X (also M D)) H' S' acc vs ∧ compT g tc te own gd τ Kt (xs.drop i) acc S'
  have oD : StoOk (gdOf X (also M D)) (upd H1 D (.lst [])) S1 := o1.putOn hD
  refine ⟨W, ⟨xs.length, by simp, Nat.zero_le _, S1, [], [], oD, xD, upd_same, o1.free hD, .nil, hq⟩, ?_⟩
  rintro i m H2 ⟨rfl, hi, S2, acc, vs, o2, x2, hD2, nD2, ra, q2⟩
  by_cases hlt : i < xs.length
  · rw [List.drop_eq_getElem_cons hlt] at q2
    obtain ⟨hgd, q2⟩ := q2
    obtain ⟨hgo, hy⟩ := wk.go (also M D) S2 H2 i xs[i] (fun a h n => h.elim (fun h => absurd h n) fun e => e ▸ hD) o2 x2 hgd (List.getElem?_eq_getElem hlt)
    refine .inr ⟨hgo, W (i + 1) (xs.length - (i + 1)), fun H' w => ⟨_, by omega, w⟩, fun x H' y => ?_⟩
    obtain ⟨o3, x3, r3⟩ := hy x H' y
    have d3 := x3.exact hD2 nD2
    have a3 := Reps.ext x3 _ _ ra
    have x13 := x2.trans x3
    have envD : EnvR (gdOf X (also M D)) H1 S1 σ τ := ⟨rel.env.1, fun j t e => by
      obtain ⟨v, h1, h2⟩ := (rel.env.ext x1).2 j t e
      exact ⟨v, h1, Rep.mask (M := also M D) (fun a u r m z => z.elim m fun e => Rd.ne hD r e) _ _ h2⟩⟩
    have relW : Rel (gdOf X (also M D)) S0 H0 (wipe σ own) H' (wipeT τ own) S2 := ⟨(envD.ext x13).wipe _, o3, rel.ext.trans (x1.trans x13)⟩
    refine ⟨also M D, _, S2, xs[i], _, relW, r3, q2, fun σ4 H4 τ4 S4 rel4 x4 w4 q4 => ⟨?_, ?_⟩⟩
    · rw [w4]
      apply List.ext_getElem?
      intro j
      rw [wipe_at, wipe_at]
      by_cases hj : j ∈ own
      · rw [if_pos hj, if_pos hj]
        cases σ[j]? <;> rfl
      · rw [if_neg hj, if_neg hj]
    · refine ⟨also M D, τ4, S4, _, rel4, q4, fun b S5 H5 q5 o5 x5 => ?_⟩
      have x35 := x4.trans x5
      have d5 := x35.exact d3.1 d3.2
      have a5 := Reps.ext x35 _ _ a3
      cases b with
      | false => exact ⟨rfl, hlt, S5, acc, vs, o5, x13.trans x35, d5.1, d5.2, a5, q5⟩
      | true =>
        refine ⟨also M D, τ4, S5, _, rel4.step o5 x5, q5, fun z S6 v H6 q6 o6 x6 r6 => ?_⟩
        obtain ⟨hz, q6⟩ := q6
        have d6 := x6.exact d5.1 d5.2
        have a6 := Reps.ext x6 _ _ a5
        have mD : (gdOf X (also M D)).M D := .inr rfl
        refine ⟨vs, d6.1, by rw [← a6.length]; exact hz, rfl, hlt, S6, acc ++ [z], vs ++ [v], o6.at mD d6.2, ?_, upd_same, d6.2, (Reps.extM (ExtM.at mD) _ _ a6).append (.cons (Rep.extM (ExtM.at mD) _ _ r6) .nil), q6⟩
        have x16 := (x13.trans x35).trans x6
        exact fun b u n => ⟨fun h f => let w := (x16 b u n).1 h f; ⟨(upd_ne fun e => ne_of_none h hD e).trans w.1, w.2⟩, fun h f => let w := (x16 b u n).2 h f; ⟨Rd.upd (Rd.ne hD h) w.1, w.2⟩⟩
  · have e : i = xs.length := by omega
    subst e
    rw [List.drop_length] at q2
    exact .inl ⟨wk.stop (also M D) S2 H2 o2 x2 q2.1, fin _ _ _ _ _ q2.2 o2 (x1.trans x2) hD2 nD2 (o1.nom hD) (fun c b u n => ⟨fun h f => let w := (x1 b u n).1 h f; let z := (x2 b u w.2).1 w.1 f; ⟨z.1, (ups_ne (ne_of_none w.1 hD)).trans z.2⟩, fun h f => let w := (x1 b u n).2 h f; let z := (x2 b u w.2).2 w.1 f; ⟨z.1, (ups_ne (Rd.ne hD w.1)).trans z.2⟩⟩) ra⟩
/-- the block's parts, as judged within -/
theorem blk_g {vs : List Nat} {S0 : Sto} {H0 : Hp} {Y : Cx} (h : TGt Y vs tg g) (tk : ∀ M, Takes Y (wOf Y M S0 H0 EN)) : PG Y tg (XG Y vs S0 H0 g) :=
  ⟨fun pins s σ H v u Q I r ⟨M, q⟩ => (h M S0 H0 EN (tk M)).run pins s σ H v u Q I r q⟩
theorem blk_t {S0 : Sto} {H0 : Hp} {Y : Cx} (h : TBs Y ifs tc) (tk : ∀ M, Takes Y (wOf Y M S0 H0 EN)) : PTs Y ifs (XB Y S0 H0 tc) :=
  ⟨fun pins s σ H Q I ⟨M, q⟩ => (h M S0 H0 EN (tk M)).run pins s σ H Q I q⟩
theorem blk_e {S0 : Sto} {H0 : Hp} {Y : Cx} (h : TE Y elt te) (tk : ∀ M, Takes Y (wOf Y M S0 H0 EN)) : PE Y elt (XE' Y S0 H0 te) :=
  ⟨fun pins s σ H Q I ⟨M, q⟩ => (h M S0 H0 EN (tk M)).run pins s σ H Q I q⟩
abbrev Blk (X : Cx) (scope : Scope) (F : Cx → Prop) : Prop := ∀ (s : Shared) (H : Hp) (C : Addr) (cl : List (Str × Addr)) (fp : List Addr), F (X.blk s H scope (compEnvC scope cl C X.env) fp)
variable {ow : List (Str × Nat)}
theorem te_comp (hc : X.calm = true) (hN : X.N.Nodup) (hi : TI X tg iter ti) (ok : BlkOk X.N X.env.scope scope ow) (hg : Blk X scope fun Y => TGt Y (ow.map (·.2)) tg g) (ht : Blk X scope fun Y => TBs Y ifs tc) (he : Blk X scope fun Y => TE Y elt te)
    (hs : ∀ x, foldedSetIterable iter X.env x = pure x := by intro _; rfl) : TE X (.ListComp elt [⟨tg, iter, ifs, 0⟩] scope pos) (cComp ti g tc te (ow.map (·.2))) := fun M S0 H0 E tk =>
  (pe_lc hc hN (hi M S0 H0 E tk) ok (fun s H C cl fp => blk_g (hg s H C cl fp) fun _ => takes_blk) (fun s H C cl fp => blk_t (ht s H C cl fp) fun _ => takes_blk) (fun s H C cl fp => blk_e (he s H C cl fp) fun _ => takes_blk) hs).weak
    fun σ H Q ⟨τ, S, Qt, rel, h, k⟩ => comp_read _ rel h fun zs S2 D H2 vs q o2 x2 hD nD nM xD r => k (.lst zs) S2 (.ref D) H2 q (o2.takeOff fun _ m => .inl m) x2 (.lst ⟨hD, nD, nM⟩ (r.takeOff fun _ m => .inl m))
/-- name = [..], the name a local -/
theorem ts_setComp {i : Nat} {y : Str} (hc : X.calm = true) (hN : X.N.Nodup) (hy : X.N[i]? = some y) (hyl : X.env.scope.names.lookup y = some .local) (hsw : swapsWith (.ListComp elt [⟨tg, iter, ifs, 0⟩] scope pos) (some (.Name y py)) spos.line X.env = pure true)
    (hi : TI X tg iter ti) (ok : BlkOk X.N X.env.scope scope ow) (hg : Blk X scope fun Y => TGt Y (ow.map (·.2)) tg g) (ht : Blk X scope fun Y => TBs Y ifs tc) (he : Blk X scope fun Y => TE Y elt te) (hs : ∀ x, foldedSetIterable iter X.env x = pure x := by intro _; rfl) :
    TS X (.Assign [.Name y py] (.ListComp elt [⟨tg, iter, ifs, 0⟩] scope pos) spos) (cSet i (cComp ti g tc te (ow.map (·.2)))) := fun M S0 H0 E tk =>
  (ps_setLc hc hN hy hyl hsw (hi M S0 H0 E tk) ok (fun s H C cl fp => blk_g (hg s H C cl fp) fun _ => takes_blk) (fun s H C cl fp => blk_t (ht s H C cl fp) fun _ => takes_blk) (fun s H C cl fp => blk_e (he s H C cl fp) fun _ => takes_blk) hs).weak
    fun D σ H ⟨τ, S, B, rel, h, k, _⟩ => comp_read (fun zs S2 => B.nx (τ.set i (some (.lst zs))) S2) rel h fun zs S2 L H2 vs q o2 x2 hD nD nM xD r =>
      k _ _ _ _ ((rel.step (o2.takeOff fun _ m => .inl m) x2).set (.lst ⟨hD, nD, nM⟩ (r.takeOff fun _ m => .inl m))) x2 q
theorem ts_setCompM {i : Nat} {y : Str} (hc : X.calm = true) (hN : X.N.Nodup) (hy : X.N[i]? = some y) (hyl : X.env.scope.names.lookup y = some .local) (hsw : swapsWith (.ListComp elt [⟨tg, iter, ifs, 0⟩] scope pos) (some (.Name y py)) spos.line X.env = pure true)
    (hi : TI X tg iter ti) (ok : BlkOk X.N X.env.scope scope ow) (hg : Blk X scope fun Y => TGt Y (ow.map (·.2)) tg g) (ht : Blk X scope fun Y => TBs Y ifs tc) (he : Blk X scope fun Y => TE Y elt te) (hs : ∀ x, foldedSetIterable iter X.env x = pure x := by intro _; rfl) :
    TS X (.Assign [.Name y py] (.ListComp elt [⟨tg, iter, ifs, 0⟩] scope pos) spos) (cSet i (cCompM ti g tc te (ow.map (·.2)))) := fun M S0 H0 E tk =>
  (ps_setLc hc hN hy hyl hsw (hi M S0 H0 E tk) ok (fun s H C cl fp => blk_g (hg s H C cl fp) fun _ => takes_blk) (fun s H C cl fp => blk_t (ht s H C cl fp) fun _ => takes_blk) (fun s H C cl fp => blk_e (he s H C cl fp) fun _ => takes_blk) hs).weak
    fun D σ H ⟨τ, S, B, rel, h, k, _⟩ => by
      refine comp_read (fun zs S2 => ∀ p, S2 p = none → B.nx (τ.set i (some (.ref p))) (ups S2 p (.lst zs))) rel h fun zs S2 L H2 vs q o2 x2 hD nD nM xD r => ?_
      have um : ∀ {c : Cell}, ExtM (also M L) S2 H2 (ups S2 L c) H2 := fun {c} b u nb n => by
        have ne : b ≠ L := fun e => nb (.inr e)
        exact ⟨fun h _ => ⟨h, (ups_ne ne).trans n⟩, fun h _ => ⟨h, (ups_ne ne).trans n⟩⟩
      have r' : Reps (gdOf X (also M L)) H2 (ups S2 L (.lst zs)) zs vs := Reps.extM um _ _ r
      have o3 : StoOk (gdOf X M) H2 (ups S2 L (.lst zs)) := ⟨fun a c e => by
        by_cases z : a = L
        · subst z
          rw [ups_same] at e
          cases e
          exact ⟨vs, hD, r'.takeOff fun _ m => .inl m⟩
        · rw [ups_ne z] at e
          exact CellOk.mask (G := gdOf X (also M L)) (M := M) (fun _ _ _ n m => n (Or.inl m)) ((o2.at_ a c e).extM um rfl), fun a m => o2.msk a (.inl m), fun a m => by
        have ne : a ≠ L := fun e => nM (e ▸ m)
        rw [ups_ne ne]
        exact o2.sep a (.inl m)⟩
      exact k _ _ _ _ ((rel.step o3 (xD _)).set (.ref L)) (xD _) (q L nD)
end
end TL
namespace TL
open PySem PySem.Spec PyProof.Rows L2
/-- what a def promises: the arguments' trees, the store, what follows, what is raised -/
abbrev SpT := List T → Sto → (T → Sto → Prop) → (T → Sto → Prop) → Prop
def liftSp (P : Program) (K : PySem.W.Frag) (w : World) (sp : SpT) : Sp := fun vs H Q E => ∃ M ts S Qt Et, Reps ⟨P, K, w, M⟩ H S ts vs ∧ StoOk ⟨P, K, w, M⟩ H S ∧ sp ts S Qt Et ∧
  (∀ z S' v H', Qt z S' → StoOk ⟨P, K, w, M⟩ H' S' → Ext S H S' H' → Rep ⟨P, K, w, M⟩ H' S' z v → Q v H') ∧
  (∀ x S' cls d H', Et x S' → StoOk ⟨P, K, w, M⟩ H' S' → Ext S H S' H' → ExcIs ⟨P, K, w, M⟩ H' S' x cls d → E cls d H')
def cCall (sp : SpT) (a : TTA) : TTE := fun τ S Q E => a τ S (fun ts S1 => sp ts S1 Q E) E

mutual
/-- u is t with some cells of S, none of S2, taken for what they hold -/
inductive Fz (S S2 : Sto) : T → T → Prop
  | same (t : T) : Fz S S2 t t
  | lstc {a : Addr} {ts us : List T} : S a = some (.lst ts) → S2 a = none → Fzs S S2 ts us → Fz S S2 (.ref a) (.lst us)
  | dctc {a : Addr} {b : Bool} {ks vs us : List T} : S a = some (.dct b ks vs) → S2 a = none → Fzs S S2 vs us → Fz S S2 (.ref a) (.dct b ks us)
  | insc {a : Addr} {c : Str} {ns : List Str} {vs us : List T} : S a = some (.ins c ns vs) → S2 a = none → Fzs S S2 vs us → Fz S S2 (.ref a) (.obj c ns us)
  | tup {ts us : List T} : Fzs S S2 ts us → Fz S S2 (.tup ts) (.tup us)
  | lst {ts us : List T} : Fzs S S2 ts us → Fz S S2 (.lst ts) (.lst us)
inductive Fzs (S S2 : Sto) : List T → List T → Prop
  | nil : Fzs S S2 [] []
  | cons {t u : T} {ts us : List T} : Fz S S2 t u → Fzs S S2 ts us → Fzs S S2 (t :: ts) (u :: us)
end
/-- some cells are given up -/
def Sub (S2 S : Sto) : Prop := ∀ a c, S2 a = some c → S a = some c
section
variable {G : Gd} {H : Hp} {S S2 : Sto}
theorem Sub.ext (k : Sub S2 S) : Ext S H S2 H := Ext.drop fun b n => by
  cases q : S2 b with
  | none => rfl
  | some d => rw [k b d q] at n; cases n
mutual
theorem Fz.rep (o : StoOk G H S) (k : Sub S2 S) : ∀ {t u : T}, Fz S S2 t u → ∀ {v : V}, Rep G H S t v → Rep G H S2 u v
  | _, _, .same _, _, r => Rep.ext k.ext _ _ r
  | _, _, .lstc h1 h2 h3, _, r => by
    cases r
    obtain ⟨xs, e, q⟩ := o.at_ _ _ h1
    exact .lst ⟨e, h2, fun m => by rw [o.sep _ m] at h1; cases h1⟩ (Fzs.reps o k h3 q)
  | _, _, .dctc (b := false) h1 h2 h3, _, r => by
    cases r
    obtain ⟨kvs, e, q1, q2⟩ := o.at_ _ _ h1
    exact .dK ⟨.inl e, h2, fun m => by rw [o.sep _ m] at h1; cases h1⟩ (Reps.ext k.ext _ _ q1) (Fzs.reps o k h3 q2)
  | _, _, .dctc (b := true) h1 h2 h3, _, r => by
    cases r
    obtain ⟨es, e, q0, q1, q2⟩ := o.at_ _ _ h1
    exact .dN ⟨.inl e, h2, fun m => by rw [o.sep _ m] at h1; cases h1⟩ q0 (Reps.ext k.ext _ _ q1) (Fzs.reps o k h3 q2)
  | _, _, .insc h1 h2 h3, _, r => by
    cases r
    obtain ⟨d, xs, e, q0, q1⟩ := o.at_ _ _ h1
    exact .obj ⟨e, h2, fun m => by rw [o.sep _ m] at h1; cases h1⟩ q0 (Fzs.reps o k h3 q1)
  | _, _, .tup h, _, r => by
    cases r with
    | tup h1 h2 => exact .tup (h1.ext k.ext) (Fzs.reps o k h h2)
  | _, _, .lst h, _, r => by
    cases r with
    | lst h1 h2 => exact .lst (h1.ext k.ext) (Fzs.reps o k h h2)
theorem Fzs.reps (o : StoOk G H S) (k : Sub S2 S) : ∀ {ts us : List T}, Fzs S S2 ts us → ∀ {vs : List V}, Reps G H S ts vs → Reps G H S2 us vs
  | _, _, .nil, _, r => by cases r; exact .nil
  | _, _, .cons h1 h2, _, r => by
    cases r with
    | cons r1 r2 => exact .cons (Fz.rep o k h1 r1) (Fzs.reps o k h2 r2)
end
end
/-- what follows, some cells given up -/
def Fin (Q : T → Sto → Prop) (z : T) (S : Sto) : Prop := ∃ S2 u, Sub S2 S ∧ Fz S S2 z u ∧ Q u S2
theorem Fin.of {Q : T → Sto → Prop} {z : T} {S : Sto} (h : Q z S) : Fin Q z S := ⟨S, z, fun _ _ e => e, .same z, h⟩
/-- an exception's fields are not frozen; cells are given up all the same -/
def FinX (Q : T → Sto → Prop) (z : T) (S : Sto) : Prop := ∃ S2, Sub S2 S ∧ Q z S2
theorem ExcIs.ext {G : Gd} {H H' : Hp} {S S' : Sto} {x : T} {cls : Value} {d : Option Addr} (h : ExcIs G H S x cls d) (e : Ext S H S' H') : ExcIs G H' S' x cls d := by
  obtain ⟨c, ns, ts, h1, h2, h3⟩ := h
  refine ⟨c, ns, ts, h1, h2, h3.imp id ?_⟩
  rintro ⟨da, xs, q1, q2, q3, q4⟩
  exact ⟨da, xs, q1, q2.ext e, q3, Reps.ext e _ _ q4⟩

def startT (N : List Str) (ts : List T) : TEnv := ts.map some ++ List.replicate (N.length - ts.length) none
theorem start_env {G : Gd} {H : Hp} {S : Sto} {N : List Str} {ts : List T} {vs : List V} (r : Reps G H S ts vs) : EnvR G H S (start N vs) (startT N ts) := by
  have l := r.length
  refine ⟨by simp [L2.start, startT, l], fun i t e => ?_⟩
  unfold startT at e
  by_cases hi : i < ts.length
  · rw [List.getElem?_append_left (by simpa using hi), List.getElem?_map] at e
    cases q : ts[i]? with
    | none => rw [q] at e; cases e
    | some z =>
      rw [q] at e
      cases e
      obtain ⟨v, h1, h2⟩ := r.get q
      refine ⟨v, ?_, h2⟩
      unfold L2.start
      rw [List.getElem?_append_left (by simp; omega), List.getElem?_map, h1]
      rfl
  · rw [List.getElem?_append_right (by simpa using hi), List.getElem?_replicate] at e
    split at e <;> cases e

section
variable {P : Program} {w : World} {K : PySem.W.Frag} {mg : Str → Option Value} {base : Heap} {x qual : Str} {params : Arguments} {body : List Stmt} {scope : Scope} {f : Addr} {fd : FuncData} {N ps : List Str} {k : Nat} {sp : SpT} {c : TTS}
/-- THE RULE for a def: its body as a tree's reading, and the reading -/
theorem fn_t (F : FunD K x qual params body scope [] [] f fd) (Sc : FnScope N ps scope) (len : ∀ ts S Q E, sp ts S Q E → ts.length = ps.length)
    (hb : ∀ (cdv : Value) (A : Around) (outer : List Env) (s : Shared) (H : Hp) (E : XK), Room k (A.deeper (envOfC qual scope s.heap.objs.size f cdv)) → TSs (cxOf (L2N.CX P w) P w K mg base N qual scope f cdv A outer s H E) body c)
    (vc : ∀ ts S Q E, sp ts S Q E → c { nx := fun _ S' => Fin Q .non S', rt := Fin Q } (startT N ts) S (fun x _ S' => FinX E x S')) :
    FnOk P w K mg base (L2N.CX P w) (k + 1) f fd ps (liftSp P K w sp) := by
  refine F.ok Sc (fun vs H Q E h => ?_) (fun cdv A outer s H vs Q E hr h => ?_)
  · obtain ⟨M, ts, S, Qt, Et, r, _, q, _⟩ := h
    rw [← r.length]
    exact len _ _ _ _ q
  · obtain ⟨M, ts, S, Qt, Et, r, o, q, hQ, hE⟩ := h
    have vc' := vc ts S Qt Et q
    have tk : Takes (cxOf (L2N.CX P w) P w K mg base N qual scope f cdv A outer s H E) (wOf (cxOf (L2N.CX P w) P w K mg base N qual scope f cdv A outer s H E) M S H fun x _ S' => FinX Et x S') := by
      refine Takes.imp (L2N.takes_of rfl rfl rfl rfl) fun cls d σ H' z => ?_
      obtain ⟨τ, S', x, rel, hx, S2, k2, h2⟩ := z
      exact hE x S2 cls d H' h2 (rel.sto.drop k2) (rel.ext.trans k2.ext) (hx.ext k2.ext)
    refine ⟨_, hb cdv A outer s H E hr M S H _ tk, startT N ts, S, _, ⟨start_env r, o, Ext.refl⟩, vc', ?_, ?_, fun _ _ _ _ _ _ z => z.elim, fun _ _ _ _ _ _ z => z.elim⟩
    · rintro σ' H' τ' S' rel x ⟨S2, u, k2, fz, q2⟩
      exact hQ u S2 .non H' q2 (rel.sto.drop k2) (x.trans k2.ext) (Fz.rep rel.sto k2 fz .non)
    · rintro z S' v H' o2 x r2 ⟨S2, u, k2, fz, q2⟩
      exact hQ u S2 v H' q2 (o2.drop k2) (x.trans k2.ext) (Fz.rep o2 k2 fz r2)
end
section
variable {X : Cx} {k : Nat} {f : Addr} {fd : FuncData} {ps : List Str} {sp : SpT} {x : Str} {p pos : Pos} {e : Expr} {es : List Expr} {ta : TTA}
theorem te_call (F : FnOk X.prog X.w X.K X.mg X.base (L2N.CX X.prog X.w) k f fd ps (liftSp X.prog X.K X.w sp)) (hr : Room k X.A) (hg : Gl X x) (hm : X.mg x = some (.ref f)) (hk : PySem.W.keepIn X.K (.ref f) = true) (hb : Binds X.K fd ps [])
    (ha : TA X (e :: es) ta) (hdb : (x == ("__debug__" : Str)) = false := by decide) (he : starEach (e :: es) X.env = (false, eval e X.env) :: starEach es X.env := by rfl) (hpl : (backTo pos (starEach es X.env)).any (·.1) = false := by rfl) :
    TE X (.Call (.Name x p) (e :: es) [] pos) (cCall sp ta) := fun M S0 H0 E tk =>
  (pe_callS (E := WE (wOf X M S0 H0 E)) F hr hg hm hk hb (fun σ => L2N.passAt tk σ) (ha M S0 H0 E tk) hdb he hpl).weak fun σ H Q ⟨τ, S, Qt, rel, h, fin⟩ => ⟨τ, S, _, rel, h, fun zs S1 vs H1 q o1 x1 r1 =>
    ⟨M, zs, S1, Qt, fun x S' => E x τ S', r1, o1, q, fun z S' v H' qz o2 x2 r2 => fin z S' v H' qz o2 (x1.trans x2) r2, fun x S' cls d H' qx o2 x2 hx => ⟨τ, S', x, rel.step o2 (x1.trans x2), hx, qx⟩⟩⟩
end
end TL
namespace TL
open PySem PySem.Spec PyProof.Rows L2
mutual
def dat : T → PyData
  | .bl b => .bool b
  | .int i => .int i
  | .str x => .str (txt x)
  | .tup ts => .tuple (dats ts)
  | .lst ts => .list (dats ts)
  | _ => .none
def dats : List T → List PyData
  | [] => []
  | t :: ts => dat t :: dats ts
end
mutual
def plain : T → Bool
  | .non => true
  | .bl _ => true
  | .int _ => true
  | .str _ => true
  | .tup ts => plains ts
  | .lst ts => plains ts
  | _ => false
def plains : List T → Bool
  | [] => true
  | t :: ts => plain t && plains ts
end
mutual
def dep : T → Nat
  | .tup ts => deps ts + 1
  | .lst ts => deps ts + 1
  | _ => 0
def deps : List T → Nat
  | [] => 0
  | t :: ts => max (dep t) (deps ts)
end
mutual
def eqt : T → T → Bool
  | .non, .non => true
  | .bl a, .bl b => a == b
  | .bl a, .int j => (if a then 1 else 0) == j
  | .int i, .bl b => i == (if b then 1 else 0)
  | .int i, .int j => i == j
  | .str x, .str y => decide (x = y)
  | .tup xs, .tup ys => eqts xs ys
  | .lst xs, .lst ys => eqts xs ys
  | _, _ => false
def eqts : List T → List T → Bool
  | [], [] => true
  | x :: xs, y :: ys => eqt x y && eqts xs ys
  | _, _ => false
end
def strLt (x y : List Sg) : Bool := decide (x.map (·.val) < y.map (·.val))
mutual
def ltt : T → T → Bool
  | .bl a, .bl b => !a && b
  | .int i, .int j => decide (i < j)
  | .str x, .str y => strLt x y
  | .tup xs, .tup ys => ltts xs ys
  | .lst xs, .lst ys => ltts xs ys
  | _, _ => false
def ltts : List T → List T → Bool
  | [], [] => false
  | [], _ :: _ => true
  | _ :: _, [] => false
  | x :: xs, y :: ys => if eqt x y = true then ltts xs ys else ltt x y
end
mutual
def alk : T → T → Bool
  | .non, .non => true
  | .bl _, .bl _ => true
  | .int _, .int _ => true
  | .str _, .str _ => true
  | .lst xs, .lst ys => alks xs ys
  | .tup xs, .tup ys => alks xs ys
  | _, _ => false
def alks : List T → List T → Bool
  | x :: xs, y :: ys => alk x y && alks xs ys
  | [], _ => true
  | _ :: _, [] => true
end
theorem txt_eq (x y : List Sg) : (txt x == txt y) = decide (x = y) := by
  by_cases h : x = y
  · subst h
    simp
  · have : txt x ≠ txt y := fun e => h (txt_inj e)
    simp [h, this]
mutual
theorem eqt_dat : ∀ x y : T, plain x = true → plain y = true → PyData.eqv (dat x) (dat y) = eqt x y
  | .non, y, _, hy => by cases y <;> first | rfl | cases hy
  | .bl _, y, _, hy => by cases y <;> first | rfl | cases hy
  | .int _, y, _, hy => by cases y <;> first | rfl | cases hy
  | .str a, y, _, hy => by
    cases y with
    | str b => simp only [dat, PyData.eqv, eqt]; exact txt_eq a b
    | _ => first | rfl | cases hy
  | .tup xs, y, hx, hy => by
    cases y with
    | tup ys =>
      simp only [dat, PyData.eqv, eqt]
      exact eqts_dat xs ys hx hy
    | _ => first | rfl | cases hy
  | .lst xs, y, hx, hy => by
    cases y with
    | lst ys =>
      simp only [dat, PyData.eqv, eqt]
      exact eqts_dat xs ys hx hy
    | _ => first | rfl | cases hy
  | .ref _, _, hx, _ => by cases hx
  | .exc _ _ _, _, hx, _ => by cases hx
  | .dct _ _ _, _, hx, _ => by cases hx
  | .obj _ _ _, _, hx, _ => by cases hx
  | .fn _, _, hx, _ => by cases hx
  | .scr _, _, hx, _ => by cases hx
theorem eqts_dat : ∀ xs ys : List T, plains xs = true → plains ys = true → PyData.eqvAll (dats xs) (dats ys) = eqts xs ys
  | [], [], _, _ => rfl
  | [], _ :: _, _, _ => rfl
  | _ :: _, [], _, _ => rfl
  | x :: xs, y :: ys, hx, hy => by
    simp only [plains, Bool.and_eq_true] at hx hy
    simp only [dats, PyData.eqvAll, eqts]
    rw [eqt_dat x y hx.1 hy.1, eqts_dat xs ys hx.2 hy.2]
end
mutual
theorem alk_dat : ∀ x y : T, plain x = true → plain y = true → PySem.W.alike (dat x) (dat y) = alk x y
  | .non, y, _, hy => by cases y <;> first | (simp only [dat, PySem.W.alike, alk]; done) | cases hy
  | .bl _, y, _, hy => by cases y <;> first | (simp only [dat, PySem.W.alike, alk]; done) | cases hy
  | .int _, y, _, hy => by cases y <;> first | (simp only [dat, PySem.W.alike, alk]; done) | cases hy
  | .str a, y, _, hy => by cases y <;> first | (simp only [dat, PySem.W.alike, alk]; done) | cases hy
  | .tup xs, y, hx, hy => by
    cases y with
    | tup ys =>
      simp only [dat, PySem.W.alike, alk]
      exact alks_dat xs ys hx hy
    | _ => first | (simp only [dat, PySem.W.alike, alk]; done) | cases hy
  | .lst xs, y, hx, hy => by
    cases y with
    | lst ys =>
      simp only [dat, PySem.W.alike, alk]
      exact alks_dat xs ys hx hy
    | _ => first | (simp only [dat, PySem.W.alike, alk]; done) | cases hy
  | .ref _, _, hx, _ => by cases hx
  | .exc _ _ _, _, hx, _ => by cases hx
  | .dct _ _ _, _, hx, _ => by cases hx
  | .obj _ _ _, _, hx, _ => by cases hx
  | .fn _, _, hx, _ => by cases hx
  | .scr _, _, hx, _ => by cases hx
theorem alks_dat : ∀ xs ys : List T, plains xs = true → plains ys = true → PySem.W.alikeAll (dats xs) (dats ys) = alks xs ys
  | [], [], _, _ => by simp only [dats, PySem.W.alikeAll, alks]
  | [], _ :: _, _, _ => by simp only [dats, PySem.W.alikeAll, alks]
  | _ :: _, [], _, _ => by simp only [dats, PySem.W.alikeAll, alks]
  | x :: xs, y :: ys, hx, hy => by
    simp only [plains, Bool.and_eq_true] at hx hy
    simp only [dats, PySem.W.alikeAll, alks]
    rw [alk_dat x y hx.1 hy.1, alks_dat xs ys hx.2 hy.2]
end
theorem ltts_eq (x y : T) (xs ys : List T) : ltts (x :: xs) (y :: ys) = if eqt x y = true then ltts xs ys else ltt x y := by simp only [ltts]
mutual
theorem ltt_dat : ∀ x y : T, plain x = true → plain y = true → alk x y = true → x ≠ .non → PySem.W.dataLt (dat x) (dat y) = ltt x y
  | .non, _, _, _, _, h => absurd rfl h
  | .bl a, y, _, hy, h, _ => by
    cases y with
    | bl b =>
      simp only [dat, ltt]
      refine (PySem.W.dataLt_bool a b).trans ?_
      cases a <;> cases b <;> rfl
    | _ => simp [alk] at h
  | .int i, y, _, hy, h, _ => by
    cases y with
    | int j => exact PySem.W.dataLt_int i j
    | _ => simp [alk] at h
  | .str a, y, _, hy, h, _ => by
    cases y with
    | str b => exact PySem.W.dataLt_str (txt a) (txt b)
    | _ => simp [alk] at h
  | .tup xs, y, hx, hy, h, _ => by
    cases y with
    | tup ys =>
      simp only [dat, ltt]
      rw [PySem.W.dataLt_tuple]
      exact ltts_dat xs ys hx hy (by simpa [alk] using h)
    | _ => simp [alk] at h
  | .lst xs, y, hx, hy, h, _ => by
    cases y with
    | lst ys =>
      simp only [dat, ltt]
      rw [PySem.W.dataLt_list]
      exact ltts_dat xs ys hx hy (by simpa [alk] using h)
    | _ => simp [alk] at h
  | .ref _, _, hx, _, _, _ => by cases hx
  | .exc _ _ _, _, hx, _, _, _ => by cases hx
  | .dct _ _ _, _, hx, _, _, _ => by cases hx
  | .obj _ _ _, _, hx, _, _, _ => by cases hx
  | .fn _, _, hx, _, _, _ => by cases hx
  | .scr _, _, hx, _, _, _ => by cases hx
theorem ltts_dat : ∀ xs ys : List T, plains xs = true → plains ys = true → alks xs ys = true → PyProof.Rows.lexLt PyProof.Rows.itemOrd (PySem.W.keyToksAll (dats xs)) (PySem.W.keyToksAll (dats ys)) = ltts xs ys
  | [], [], _, _, _ => by simp only [dats, PySem.W.keyToksAll, ltts]; rfl
  | [], y :: ys, _, _, _ => by
    simp only [dats, PySem.W.keyToksAll, ltts]
    rw [PySem.W.lex_atom (by simp), PySem.W.lex_one]
    rfl
  | x :: xs, [], _, _, _ => by
    simp only [dats, PySem.W.keyToksAll, ltts]
    rw [PySem.W.lex_atom (by simp), PySem.W.lex_one]
    rfl
  | x :: xs, y :: ys, hx, hy, h => by
    simp only [plains, Bool.and_eq_true] at hx hy
    simp only [alks, Bool.and_eq_true] at h
    have ha : PySem.W.alike (dat x) (dat y) = true := by rw [alk_dat x y hx.1 hy.1]; exact h.1
    rw [ltts_eq]
    show PyProof.Rows.lexLt PyProof.Rows.itemOrd (PySem.W.keyToksAll (dat x :: dats xs)) (PySem.W.keyToksAll (dat y :: dats ys)) = _
    rw [PySem.W.dataLt_cons ha, eqt_dat x y hx.1 hy.1, ltts_dat xs ys hx.2 hy.2 h.2]
    by_cases e : eqt x y = true
    · rw [if_pos e, if_pos e]
    · rw [if_neg e, if_neg e]
      refine ltt_dat x y hx.1 hy.1 h.1 fun z => ?_
      subst z
      cases y <;> simp [alk, eqt] at h e
end
mutual
theorem dep_dat : ∀ x : T, plain x = true → (dat x).depth = dep x
  | .non, _ => rfl
  | .bl _, _ => rfl
  | .int _, _ => rfl
  | .str _, _ => rfl
  | .tup xs, h => by simp only [dat, PyData.depth, dep]; rw [deps_dat xs h]
  | .lst xs, h => by simp only [dat, PyData.depth, dep]; rw [deps_dat xs h]
  | .ref _, hx => by cases hx
  | .exc _ _ _, hx => by cases hx
  | .dct _ _ _, hx => by cases hx
  | .obj _ _ _, hx => by cases hx
  | .fn _, hx => by cases hx
  | .scr _, hx => by cases hx
theorem deps_dat : ∀ xs : List T, plains xs = true → PyData.depthAll (dats xs) = deps xs
  | [], _ => rfl
  | x :: xs, h => by
    simp only [plains, Bool.and_eq_true] at h
    simp only [dats, PyData.depthAll, deps]
    rw [dep_dat x h.1, deps_dat xs h.2]
end
mutual
theorem lay_dat : ∀ x : T, plain x = true → (dat x).canLay0 = true
  | .non, _ => rfl
  | .bl _, _ => rfl
  | .int _, _ => rfl
  | .str a, _ => by
    simp only [dat, PyData.canLay0, PyData.strOk]
    rw [Array.all_eq_true']
    intro c hc
    have hc' : c ∈ (a.map (·.val)).toArray := hc
    rw [List.mem_toArray] at hc'
    obtain ⟨s, _, rfl⟩ := List.mem_map.mp hc'
    have := s.isLt
    exact decide_eq_true (by omega)
  | .tup xs, h => by simp only [dat, PyData.canLay0]; exact lays_dat xs h
  | .lst xs, h => by simp only [dat, PyData.canLay0]; exact lays_dat xs h
  | .ref _, hx => by cases hx
  | .exc _ _ _, hx => by cases hx
  | .dct _ _ _, hx => by cases hx
  | .obj _ _ _, hx => by cases hx
  | .fn _, hx => by cases hx
  | .scr _, hx => by cases hx
theorem lays_dat : ∀ xs : List T, plains xs = true → PyData.canLayAll0 (dats xs) = true
  | [], _ => rfl
  | x :: xs, h => by
    simp only [plains, Bool.and_eq_true] at h
    simp only [dats, PyData.canLayAll0, Bool.and_eq_true]
    exact ⟨lay_dat x h.1, lays_dat xs h.2⟩
end
section
variable {G : Gd} {H : Hp} {S : Sto}
mutual
theorem Rep.dp : ∀ (t : T) (v : V), Rep G H S t v → plain t = true → Dp G.K H v (dat t)
  | .non, _, r, _ => by cases r; exact .non
  | .bl _, _, r, _ => by cases r; exact .bl _
  | .int _, _, r, _ => by cases r; exact .int _
  | .str _, _, r, _ => by cases r; exact .str _
  | .tup ts, _, r, h => by
    cases r with
    | tup h1 h2 => exact .tup h1.sq (Reps.dp ts _ h2 h)
  | .lst ts, _, r, h => by
    cases r with
    | lst h1 h2 => exact .lst h1.sq (Reps.dp ts _ h2 h)
  | .ref _, _, _, hx => by cases hx
  | .exc _ _ _, _, _, hx => by cases hx
  | .dct _ _ _, _, _, hx => by cases hx
  | .obj _ _ _, _, _, hx => by cases hx
  | .fn _, _, _, hx => by cases hx
  | .scr _, _, _, hx => by cases hx
theorem Reps.dp : ∀ (ts : List T) (vs : List V), Reps G H S ts vs → plains ts = true → DpAll G.K H vs (dats ts)
  | [], _, r, _ => by cases r; exact .nil
  | t :: ts, _, r, h => by
    simp only [plains, Bool.and_eq_true] at h
    cases r with
    | cons h1 h2 => exact .cons (Rep.dp t _ h1 h.1) (Reps.dp ts _ h2 h.2)
end
/-- a cell that holds a list, as a list -/
def res (S : Sto) : T → T
  | .ref a => match S a with
    | some (.lst ts) => .lst ts
    | _ => .ref a
  | t => t
theorem res_dp (o : StoOk G H S) {t : T} {v : V} (r : Rep G H S t v) (h : plain (res S t) = true) : Dp G.K H v (dat (res S t)) := by
  cases t with
  | ref a =>
    cases r
    cases e : S a with
    | none => simp [res, e, plain] at h
    | some c =>
      cases c with
      | lst ts =>
        simp only [res, e] at h ⊢
        obtain ⟨ws, hw, q⟩ := o.at_ a _ e
        exact .lst (SqL.of hw) (Reps.dp ts ws q h)
      | dct _ _ _ => simp [res, e, plain] at h
      | ins _ _ _ => simp [res, e, plain] at h
  | _ => exact Rep.dp _ v r h
end
/-- plain, and not too deep -/
def okd (t : T) : Bool := plain t && decide (dep t ≤ 64)
theorem okd_shaped {t : T} (h : okd t = true) : SeqAt.shaped (dat t) = true := by
  obtain ⟨h1, h2⟩ := Bool.and_eq_true_iff.mp h
  have h2' := of_decide_eq_true h2
  refine Bool.and_eq_true_iff.mpr ⟨lay_dat t h1, decide_eq_true ?_⟩
  rw [dep_dat t h1]
  exact h2'
theorem okd_plain {t : T} (h : okd t = true) : plain t = true := (Bool.and_eq_true_iff.mp h).1

def eqT (S : Sto) (x y : T) : Option T := if (okd (res S x) && okd (res S y)) = true then some (.bl (eqt (res S x) (res S y))) else none
def neT (S : Sto) (x y : T) : Option T := if (okd (res S x) && okd (res S y)) = true then some (.bl (!eqt (res S x) (res S y))) else none
section
variable {X : Cx}
theorem op_eqT (hu : X.A.units + 64 < cLine) : OpT X (compareOp .Eq) eqT := by
  intro pins s σ H x y v u Q I rx ry h
  obtain ⟨M, S, tx, ty, t, o, hx, hy, e, fin⟩ := h
  unfold eqT at e
  split at e
  · rename_i c
    obtain ⟨c1, c2⟩ := Bool.and_eq_true_iff.mp c
    obtain rfl := Option.some.inj e
    refine op_eqD hu pins s σ H x y v u Q I rx ry ⟨_, _, res_dp o hx (okd_plain c1), res_dp o hy (okd_plain c2), okd_shaped c1, okd_shaped c2, ?_⟩
    rw [eqt_dat _ _ (okd_plain c1) (okd_plain c2)]
    exact fin _ H o Ext.refl (.bl _)
  · cases e
theorem op_neT (hu : X.A.units + 64 < cLine) : OpT X (compareOp .NotEq) neT := by
  intro pins s σ H x y v u Q I rx ry h
  obtain ⟨M, S, tx, ty, t, o, hx, hy, e, fin⟩ := h
  unfold neT at e
  split at e
  · rename_i c
    obtain ⟨c1, c2⟩ := Bool.and_eq_true_iff.mp c
    obtain rfl := Option.some.inj e
    refine op_neD hu pins s σ H x y v u Q I rx ry ⟨_, _, res_dp o hx (okd_plain c1), res_dp o hy (okd_plain c2), okd_shaped c1, okd_shaped c2, ?_⟩
    rw [eqt_dat _ _ (okd_plain c1) (okd_plain c2)]
    exact fin _ H o Ext.refl (.bl _)
  · cases e
def cmpOk (x y : T) : Bool := okd x && (okd y && (alk x y && (match x with | .non => false | _ => true)))
theorem cmpOk_of {x y : T} (h : cmpOk x y = true) : okd x = true ∧ okd y = true ∧ alk x y = true ∧ x ≠ .non := by
  simp only [cmpOk, Bool.and_eq_true] at h
  obtain ⟨h1, h2, h3, h4⟩ := h
  refine ⟨h1, h2, h3, fun e => ?_⟩
  subst e
  cases h4
def ltT (_ : Sto) (x y : T) : Option T := if cmpOk x y = true then some (.bl (ltt x y)) else none
def gtT (_ : Sto) (x y : T) : Option T := if cmpOk x y = true then some (.bl (ltt y x)) else none
def leT (_ : Sto) (x y : T) : Option T := if cmpOk x y = true then some (.bl (!ltt y x)) else none
def geT (_ : Sto) (x y : T) : Option T := if cmpOk x y = true then some (.bl (!ltt x y)) else none
mutual
theorem alk_symm : ∀ x y : T, alk x y = alk y x
  | .non, y => by cases y <;> simp [alk]
  | .bl _, y => by cases y <;> simp [alk]
  | .int _, y => by cases y <;> simp [alk]
  | .str _, y => by cases y <;> simp [alk]
  | .tup xs, y => by
    cases y with
    | tup ys => simp only [alk]; exact alks_symm xs ys
    | _ => simp [alk]
  | .lst xs, y => by
    cases y with
    | lst ys => simp only [alk]; exact alks_symm xs ys
    | _ => simp [alk]
  | .ref _, y => by cases y <;> simp [alk]
  | .exc _ _ _, y => by cases y <;> simp [alk]
  | .dct _ _ _, y => by cases y <;> simp [alk]
  | .obj _ _ _, y => by cases y <;> simp [alk]
  | .fn _, y => by cases y <;> simp [alk]
  | .scr _, y => by cases y <;> simp [alk]
theorem alks_symm : ∀ xs ys : List T, alks xs ys = alks ys xs
  | [], [] => rfl
  | [], _ :: _ => by simp [alks]
  | _ :: _, [] => by simp [alks]
  | x :: xs, y :: ys => by
    simp only [alks]
    rw [alk_symm x y, alks_symm xs ys]
end
theorem cmp_facts {x y : T} (h : cmpOk x y = true) : PySem.W.alike (dat x) (dat y) = true ∧ dat x ≠ .none ∧ PySem.W.dataLt (dat x) (dat y) = ltt x y ∧ PySem.W.dataLt (dat y) (dat x) = ltt y x := by
  obtain ⟨h1, h2, h3, h4⟩ := cmpOk_of h
  have p1 := okd_plain h1
  have p2 := okd_plain h2
  refine ⟨by rw [alk_dat x y p1 p2]; exact h3, ?_, ltt_dat x y p1 p2 h3 h4, ltt_dat y x p2 p1 (by rw [alk_symm]; exact h3) fun e => ?_⟩
  · cases x <;> first | exact absurd rfl h4 | (cases p1; done) | (intro z; cases z)
  · subst e
    cases x <;> first | exact absurd rfl h4 | simp [alk] at h3
theorem room_cmp {A : Around} {x y : T} (h : cmpOk x y = true) (hu : A.units + 64 < cLine) : A.units + min (dat x).depth (dat y).depth < cLine := SeqAt.room_of_shaped (okd_shaped (cmpOk_of h).1) hu
theorem op_ltT (hu : X.A.units + 64 < cLine) : OpT X (compareOp .Lt) ltT := by
  intro pins s σ H x y v u Q I rx ry h
  obtain ⟨M, S, tx, ty, t, o, hx, hy, e, fin⟩ := h
  unfold ltT at e
  split at e
  · rename_i c
    obtain rfl := Option.some.inj e
    obtain ⟨c1, c2, c3, c4⟩ := cmp_facts c
    obtain ⟨as, r1⟩ := Dp.reads I _ _ _ (Rep.dp _ _ hx (okd_plain (cmpOk_of c).1)) rx
    obtain ⟨bs, r2⟩ := Dp.reads I _ _ _ (Rep.dp _ _ hy (okd_plain (cmpOk_of c).2.1)) ry
    exact PySem.W.lt_data r1 r2 c1 c2 (room_cmp c hu) ⟨.bl _, H, I, rfl, by rw [c3]; exact fin _ H o Ext.refl (.bl _)⟩
  · cases e
theorem op_gtT (hu : X.A.units + 64 < cLine) : OpT X (compareOp .Gt) gtT := by
  intro pins s σ H x y v u Q I rx ry h
  obtain ⟨M, S, tx, ty, t, o, hx, hy, e, fin⟩ := h
  unfold gtT at e
  split at e
  · rename_i c
    obtain rfl := Option.some.inj e
    obtain ⟨c1, c2, c3, c4⟩ := cmp_facts c
    obtain ⟨as, r1⟩ := Dp.reads I _ _ _ (Rep.dp _ _ hx (okd_plain (cmpOk_of c).1)) rx
    obtain ⟨bs, r2⟩ := Dp.reads I _ _ _ (Rep.dp _ _ hy (okd_plain (cmpOk_of c).2.1)) ry
    exact PySem.W.gt_data r1 r2 c1 c2 (room_cmp c hu) ⟨.bl _, H, I, rfl, by rw [c4]; exact fin _ H o Ext.refl (.bl _)⟩
  · cases e
theorem op_leT (hu : X.A.units + 64 < cLine) : OpT X (compareOp .LtE) leT := by
  intro pins s σ H x y v u Q I rx ry h
  obtain ⟨M, S, tx, ty, t, o, hx, hy, e, fin⟩ := h
  unfold leT at e
  split at e
  · rename_i c
    obtain rfl := Option.some.inj e
    obtain ⟨c1, c2, c3, c4⟩ := cmp_facts c
    obtain ⟨as, r1⟩ := Dp.reads I _ _ _ (Rep.dp _ _ hx (okd_plain (cmpOk_of c).1)) rx
    obtain ⟨bs, r2⟩ := Dp.reads I _ _ _ (Rep.dp _ _ hy (okd_plain (cmpOk_of c).2.1)) ry
    exact PySem.W.le_data r1 r2 c1 c2 (room_cmp c hu) ⟨.bl _, H, I, rfl, by rw [c4]; exact fin _ H o Ext.refl (.bl _)⟩
  · cases e
theorem op_geT (hu : X.A.units + 64 < cLine) : OpT X (compareOp .GtE) geT := by
  intro pins s σ H x y v u Q I rx ry h
  obtain ⟨M, S, tx, ty, t, o, hx, hy, e, fin⟩ := h
  unfold geT at e
  split at e
  · rename_i c
    obtain rfl := Option.some.inj e
    obtain ⟨c1, c2, c3, c4⟩ := cmp_facts c
    obtain ⟨as, r1⟩ := Dp.reads I _ _ _ (Rep.dp _ _ hx (okd_plain (cmpOk_of c).1)) rx
    obtain ⟨bs, r2⟩ := Dp.reads I _ _ _ (Rep.dp _ _ hy (okd_plain (cmpOk_of c).2.1)) ry
    exact PySem.W.ge_data r1 r2 c1 c2 (room_cmp c hu) ⟨.bl _, H, I, rfl, by rw [c3]; exact fin _ H o Ext.refl (.bl _)⟩
  · cases e
def inQ (S : Sto) (x y : T) : Option Bool := match res S y with
  | .lst ts => if (okd x && okd (.lst ts)) = true then some (ts.any fun z => eqt z x) else none
  | .tup ts => if (okd x && okd (.tup ts)) = true then some (ts.any fun z => eqt z x) else none
  | .str z => match x with
    | .str [c] => some (decide (c ∈ z))
    | _ => none
  | _ => none
def inT (S : Sto) (x y : T) : Option T := (inQ S x y).map .bl
def ninT (S : Sto) (x y : T) : Option T := (inQ S x y).map fun b => .bl (!b)
theorem any_dats (x : T) : ∀ ts : List T, plains ts = true → plain x = true → ((dats ts).any fun y => PyData.eqv y (dat x)) = ts.any fun z => eqt z x
  | [], _, _ => rfl
  | t :: ts, h, hx => by
    simp only [plains, Bool.and_eq_true] at h
    simp only [dats, List.any_cons]
    rw [eqt_dat t x h.1 hx, any_dats x ts h.2 hx]
theorem in_listQ (hu : X.A.units + 65 < cLine) {pins : List (Addr × Obj)} {s : Shared} {σ : L2.St} {H : Hp} {x y : V} {v u : Value} {dx : PyData} {ds : List PyData} {b : Bool} (I : Inv X pins σ H s) (rx : RelV x v) (ry : RelV y u) (hx : Dp X.K H x dx) (hy : Dp X.K H y (.list ds) ∨ Dp X.K H y (.tuple ds))
    (h1 : PyData.canLayAll0 ds = true) (h2 : SeqAt.shaped dx = true) (e : (ds.any fun y => PyData.eqv y dx) = b) {E : Value → Shared → Prop} {Q : Value → Shared → Prop} :
    (Q (.bool b) s → wpAny (model X.prog X.w) X.A (compareOp .In v u) Q E s) ∧ (Q (.bool (!b)) s → wpAny (model X.prog X.w) X.A (compareOp .NotIn v u) Q E s) := by
  obtain ⟨as, r1⟩ := Dp.reads I _ _ _ hx rx
  have rm : X.A.units + 1 + min (PyData.depthAll ds) dx.depth < cLine := PyProof.Rows.room_in_shaped h2 hu
  have l2 := SeqAt.canLay_of_shaped h2
  rcases hy with hy | hy
  · obtain ⟨bs, r2⟩ := Dp.reads I _ _ _ hy ry
    exact ⟨fun q => SeqAt.in_list_reads r2 r1 h1 l2 rm (by rw [e]; exact q), fun q => SeqAt.notIn_list_reads r2 r1 h1 l2 rm (by rw [e]; exact q)⟩
  · obtain ⟨bs, r2⟩ := Dp.reads I _ _ _ hy ry
    exact ⟨fun q => SeqAt.in_tuple_reads r2 r1 h1 l2 rm (by rw [e]; exact q), fun q => SeqAt.notIn_tuple_reads r2 r1 h1 l2 rm (by rw [e]; exact q)⟩
theorem sg_mem (c : Sg) (z : List Sg) : decide (c.val ∈ (txt z).cps.toList) = decide (c ∈ z) := by
  apply decide_eq_decide.mpr
  rw [txt_list]
  constructor
  · intro h
    obtain ⟨d, hd, e⟩ := List.mem_map.mp h
    rw [← Fin.ext e]
    exact hd
  · exact fun h => List.mem_map.mpr ⟨c, h, rfl⟩
theorem inQ_run (hu : X.A.units + 65 < cLine) {pins : List (Addr × Obj)} {s : Shared} {σ : L2.St} {H : Hp} {S : Sto} {M : Addr → Prop} {x y : V} {tx ty : T} {v u : Value} {b : Bool} (I : Inv X pins σ H s) (rx : RelV x v) (ry : RelV y u) (o : StoOk (gdOf X M) H S)
    (hx : Rep (gdOf X M) H S tx x) (hy : Rep (gdOf X M) H S ty y) (e : inQ S tx ty = some b) {Q : VK} :
    (Q (.bl b) H → wpAny (model X.prog X.w) X.A (compareOp .In v u) (EP X pins σ Q) X.xe s) ∧ (Q (.bl (!b)) H → wpAny (model X.prog X.w) X.A (compareOp .NotIn v u) (EP X pins σ Q) X.xe s) := by
  have ep : ∀ {b : Bool}, Q (.bl b) H → EP X pins σ Q (.bool b) s := fun q => ⟨.bl _, H, I, rfl, q⟩
  have hr := res_dp o hy
  unfold inQ at e
  split at e
  · rename_i ts hts
    rw [hts] at hr
    split at e
    · rename_i c
      obtain ⟨c1, c2⟩ := Bool.and_eq_true_iff.mp c
      obtain rfl := Option.some.inj e
      have k := in_listQ (Q := EP X pins σ Q) (E := X.xe) hu I rx ry (Rep.dp _ _ hx (okd_plain c1)) (.inl (hr (okd_plain c2))) (lays_dat ts (okd_plain c2)) (okd_shaped c1) (any_dats tx ts (okd_plain c2) (okd_plain c1))
      exact ⟨fun q => k.1 (ep q), fun q => k.2 (ep q)⟩
    · cases e
  · rename_i ts hts
    rw [hts] at hr
    split at e
    · rename_i c
      obtain ⟨c1, c2⟩ := Bool.and_eq_true_iff.mp c
      obtain rfl := Option.some.inj e
      have k := in_listQ (Q := EP X pins σ Q) (E := X.xe) hu I rx ry (Rep.dp _ _ hx (okd_plain c1)) (.inr (hr (okd_plain c2))) (lays_dat ts (okd_plain c2)) (okd_shaped c1) (any_dats tx ts (okd_plain c2) (okd_plain c1))
      exact ⟨fun q => k.1 (ep q), fun q => k.2 (ep q)⟩
    · cases e
  · rename_i z hz
    split at e
    · rename_i c
      obtain rfl := Option.some.inj e
      cases hx
      have hty : ty = .str z := by
        cases ty with
        | ref a =>
          cases q : S a with
          | none => simp [res, q] at hz
          | some c => cases c <;> simp [res, q] at hz
        | _ => exact hz
      subst hty
      cases hy
      rw [← sg_mem]
      exact ⟨fun q => op_in_sign pins s σ H _ _ v u Q I rx ry ⟨c.val, txt z, rfl, rfl, q⟩, fun q => op_notIn_sign pins s σ H _ _ v u Q I rx ry ⟨c.val, txt z, rfl, rfl, q⟩⟩
    · cases e
  · cases e
theorem op_inT (hu : X.A.units + 65 < cLine) : OpT X (compareOp .In) inT := by
  intro pins s σ H x y v u Q I rx ry h
  obtain ⟨M, S, tx, ty, t, o, hx, hy, e, fin⟩ := h
  obtain ⟨b, hb, rfl⟩ := Option.map_eq_some_iff.mp e
  exact (inQ_run hu I rx ry o hx hy hb).1 (fin _ H o Ext.refl (.bl _))
end
end TL
namespace TL
open PySem PySem.Spec PyProof.Rows L2
section
variable {X : Cx}
def addT (S : Sto) (x y : T) : Option T := match res S x, res S y with
  | .int i, .int j => some (.int (i + j))
  | .str a, .str b => if a.length + b.length ≤ sizeLine then some (.str (a ++ b)) else none
  | .tup a, .tup b => if a.length + b.length ≤ sizeLine then some (.tup (a ++ b)) else none
  | .lst a, .lst b => if a.length + b.length ≤ sizeLine then some (.lst (a ++ b)) else none
  | _, _ => none
/-- a value that is a list, frozen or a cell -/
theorem res_lst {G : Gd} {H : Hp} {S : Sto} {t : T} {v : V} {ts : List T} (o : StoOk G H S) (r : Rep G H S t v) (e : res S t = .lst ts) : ∃ a xs, v = .ref a ∧ H a = some (.lst xs) ∧ Reps G H S ts xs := by
  cases t with
  | ref a =>
    cases r
    cases q : S a with
    | none => simp [res, q] at e
    | some c =>
      cases c with
      | lst us =>
        simp only [res, q] at e
        cases e
        obtain ⟨xs, h1, h2⟩ := o.at_ a _ q
        exact ⟨a, xs, rfl, h1, h2⟩
      | dct _ _ _ => simp [res, q] at e
      | ins _ _ _ => simp [res, q] at e
  | lst us =>
    cases e
    cases r with
    | lst h1 h2 => exact ⟨_, _, rfl, h1.1, h2⟩
  | _ => cases e
theorem res_id {S : Sto} {t u : T} (e : res S t = u) (h : ∀ ts, u ≠ .lst ts) : t = u := by
  cases t with
  | ref a =>
    cases q : S a with
    | none => simpa [res, q] using e
    | some c =>
      cases c with
      | lst us => simp only [res, q] at e; exact absurd e.symm (h us)
      | dct _ _ _ => simpa [res, q] using e
      | ins _ _ _ => simpa [res, q] using e
  | _ => exact e
theorem op_addT : OpT X (binaryOp .Add) addT := by
  intro pins s σ H x y v u Q I rx ry h
  obtain ⟨M, S, tx, ty, t, o, hx, hy, e, fin⟩ := h
  unfold addT at e
  split at e
  · rename_i i j h1 h2
    obtain rfl := res_id h1 fun _ z => nomatch z
    obtain rfl := res_id h2 fun _ z => nomatch z
    obtain rfl := Option.some.inj e
    cases hx
    cases hy
    exact op_add pins s σ H _ _ v u Q I rx ry ⟨i, j, rfl, rfl, fin _ H o Ext.refl (.int _)⟩
  · rename_i a b h1 h2
    obtain rfl := res_id h1 fun _ z => nomatch z
    obtain rfl := res_id h2 fun _ z => nomatch z
    split at e
    · rename_i hz
      obtain rfl := Option.some.inj e
      cases hx
      cases hy
      refine op_add_str pins s σ H _ _ v u Q I rx ry ⟨txt a, txt b, rfl, rfl, by rw [txt_len, txt_len]; exact hz, ?_⟩
      rw [← txt_app]
      exact fin _ H o Ext.refl (.str _)
    · cases e
  · rename_i a b h1 h2
    obtain rfl := res_id h1 fun _ z => nomatch z
    obtain rfl := res_id h2 fun _ z => nomatch z
    split at e
    · rename_i hz
      obtain rfl := Option.some.inj e
      cases hx with
      | tup a1 a2 =>
        cases hy with
        | tup b1 b2 =>
          have l1 := a2.length
          have l2 := b2.length
          refine op_catF pins s σ H _ _ v u Q I rx ry ⟨_, _, _, _, rfl, rfl, a1.sq, b1.sq, by omega, fun z => ?_, fun _ z => ?_, fun _ _ p ob n nd => ?_⟩
          · subst z
            cases a2
            exact fin _ H o Ext.refl (.tup b1 b2)
          · subst z
            cases b2
            refine fin _ H o Ext.refl ?_
            rw [List.append_nil]
            exact .tup a1 a2
          · exact fin _ _ (o.new n) (Ext.new n) (.tup (.inl ⟨ob, ⟨upd_same, nd⟩, o.free n, o.nom n⟩) (Reps.ext (Ext.new n) _ _ (a2.append b2)))
    · cases e
  · rename_i a b h1 h2
    split at e
    · rename_i hz
      obtain rfl := Option.some.inj e
      obtain ⟨p1, xs, rfl, q1, r1⟩ := res_lst o hx h1
      obtain ⟨p2, ys, rfl, q2, r2⟩ := res_lst o hy h2
      have l1 := r1.length
      have l2 := r2.length
      refine op_cat pins s σ H _ _ v u Q I rx ry ⟨p1, p2, xs, ys, rfl, rfl, q1, q2, by omega, fun p n => ?_⟩
      exact fin _ _ (o.new n) (Ext.new n) (.lst ⟨upd_same, o.free n, o.nom n⟩ (Reps.ext (Ext.new n) _ _ (r1.append r2)))
    · cases e
  · cases e
def i2 (c : Int → Int → Bool) (f : Int → Int → T) (_ : Sto) (x y : T) : Option T := match x, y with
  | .int i, .int j => if c i j = true then some (f i j) else none
  | _, _ => none
theorem op_i2 {f : Value → Value → Sem Value} {c : Int → Int → Bool} {C : Int → Int → Prop} {g : Int → Int → V} {gt : Int → Int → T} (h : OpR X f (rI C g)) (hc : ∀ i j, c i j = true → C i j) (hg : ∀ G H S i j, Rep G H S (gt i j) (g i j)) : OpT X f (i2 c gt) := by
  intro pins s σ H x y v u Q I rx ry h'
  obtain ⟨M, S, tx, ty, t, o, hx, hy, e, fin⟩ := h'
  unfold i2 at e
  split at e
  · rename_i i j
    split at e
    · rename_i hij
      obtain rfl := Option.some.inj e
      cases hx
      cases hy
      exact h pins s σ H _ _ v u Q I rx ry ⟨i, j, rfl, rfl, hc _ _ hij, fin _ H o Ext.refl (hg _ _ _ _ _)⟩
    · cases e
  · cases e
theorem rI_of {f : Value → Value → Sem Value} {g : Int → Int → V} (h : OpR X f (rI0 g)) : OpR X f (rI (fun _ _ => True) g) := fun pins s σ H x y v u Q I rx ry ⟨i, j, e1, e2, _, q⟩ => h pins s σ H x y v u Q I rx ry ⟨i, j, e1, e2, q⟩
def tt2 (_ _ : Int) : Bool := true
def subT := i2 tt2 fun i j => .int (i - j)
def mulI (i j : Int) : Bool := decide (i.natAbs.log2 + j.natAbs.log2 < 1000000)
def divI (_ j : Int) : Bool := decide (j ≠ 0) && decide (j.natAbs.log2 < 9000)
def fdivT := i2 divI fun i j => .int (i.fdiv j)
def modI (_ j : Int) : Bool := decide (j ≠ 0)
def modT := i2 modI fun i j => .int (i.fmod j)
def powI (i j : Int) : Bool := decide (0 ≤ j) && (decide (j ≤ 1000000) && decide (i.natAbs < 2 ^ 64))
def powT := i2 powI fun i j => .int (i ^ j.toNat)
theorem op_subT : OpT X (binaryOp .Sub) subT := op_i2 (rI_of op_sub) (fun _ _ _ => trivial) fun _ _ _ _ _ => .int _
theorem op_fdivG : OpR X (binaryOp .FloorDiv) (rI (fun _ j => j ≠ 0 ∧ j.natAbs.log2 < 9000) fun i j => .int (i.fdiv j)) := opI fun _ _ _ _ _ _ _ hc q => floordiv_int hc.1 q (.inl (PyProof.noPylong_of_log2 hc.2))
theorem op_fdivT : OpT X (binaryOp .FloorDiv) fdivT := op_i2 op_fdivG (fun _ _ h => by simp only [divI, Bool.and_eq_true, decide_eq_true_eq] at h; exact h) fun _ _ _ _ _ => .int _
theorem op_modT : OpT X (binaryOp .Mod) modT := op_i2 op_modN (fun _ _ h => of_decide_eq_true h) fun _ _ _ _ _ => .int _
theorem op_powT : OpT X (binaryOp .Pow) powT := op_i2 op_pow (fun _ _ h => by simp only [powI, Bool.and_eq_true, decide_eq_true_eq] at h; exact ⟨h.1, h.2.1, h.2.2⟩) fun _ _ _ _ _ => .int _
def negT (_ : Sto) : T → Option T
  | .int i => some (.int (-i))
  | _ => none
theorem op_negT : UnT X (unaryOp .USub) negT := by
  intro pins s σ H x v Q I rx h
  obtain ⟨M, S, tx, t, o, hx, e, fin⟩ := h
  cases tx <;> first | cases e; done | skip
  rename_i i
  obtain rfl := Option.some.inj e
  cases hx
  exact un_neg pins s σ H _ v Q I rx ⟨i, rfl, fin _ H o Ext.refl (.int _)⟩
def isT (_ : Sto) (x y : T) : Option T := match y, x with
  | .non, .ref _ => some (.bl false)
  | .non, .non => some (.bl true)
  | .non, _ => some (.bl false)
  | _, _ => none
theorem rep_non {G : Gd} {H : Hp} {S : Sto} {t : T} {v : V} (r : Rep G H S t v) : decide (v = .non) = (match t with | .non => true | _ => false) := by
  cases r <;> first | rfl | exact decide_eq_false (fun z => nomatch z)
theorem op_isT : OpT X (compareOp .Is) isT := by
  intro pins s σ H x y v u Q I rx ry h
  obtain ⟨M, S, tx, ty, t, o, hx, hy, e, fin⟩ := h
  cases ty <;> first | (simp [isT] at e; done) | skip
  cases hy
  refine op_isN pins s σ H _ _ v u Q I rx ry ⟨rfl, ?_⟩
  rw [rep_non hx]
  cases tx <;> (obtain rfl := Option.some.inj e; exact fin _ H o Ext.refl (.bl _))
theorem Reps.atI {G : Gd} {H : Hp} {S : Sto} {ts : List T} {vs : List V} {i : Int} {t : T} (r : Reps G H S ts vs) (e : L2.atI ts i = some t) : ∃ v, L2.atI vs i = some v ∧ Rep G H S t v := by
  unfold L2.atI at e ⊢
  rw [← r.length]
  cases q : ixN ts.length i with
  | none => rw [q] at e; cases e
  | some j =>
    rw [q] at e
    exact r.get e
def ixT (S : Sto) (x y : T) : Option T := match res S x, y with
  | .lst ts, .int i => L2.atI ts i
  | .tup ts, .int i => L2.atI ts i
  | .str z, .int i => if z.length ≤ sizeLine then (L2.atI z i).map fun c => .str [c] else none
  | _, _ => none
theorem atI_map {α β : Type} (f : α → β) (xs : List α) (i : Int) : L2.atI (xs.map f) i = (L2.atI xs i).map f := by
  unfold L2.atI
  rw [List.length_map]
  cases ixN xs.length i with
  | none => rfl
  | some j => simp
variable {a b : Expr} {ta tb : TTE} {pos : Pos}
theorem te_ix (ha : TE X a ta) (hb : TE X b tb) (hs : PlainIx b := by intro _ _; rfl) : TE X (.Subscript a b pos) (cOp ixT ta tb) := fun M S0 H0 E tk =>
  (pe_ix ix_seq (ha M S0 H0 E tk) (hb M S0 H0 E tk) hs).weak fun σ H Q h => two (fun x y H Q ⟨M, S, tx, ty, t, o, hx, hy, e, fin⟩ => by
    unfold ixT at e
    split at e
    · rename_i ts i h1
      obtain ⟨p, xs, rfl, q1, r1⟩ := res_lst o hx h1
      cases hy
      obtain ⟨w, hw, rw_⟩ := r1.atI e
      exact .inl ⟨p, xs, i, w, rfl, rfl, SqL.of q1, hw, fin _ H o Ext.refl rw_⟩
    · rename_i ts i h1
      obtain rfl := res_id h1 fun _ z => nomatch z
      cases hx with
      | tup a1 a2 =>
        cases hy
        obtain ⟨w, hw, rw_⟩ := a2.atI e
        exact .inr (.inl ⟨_, _, i, w, rfl, rfl, a1.sq, hw, fin _ H o Ext.refl rw_⟩)
    · rename_i z i h1
      obtain rfl := res_id h1 fun _ z => nomatch z
      cases hx
      cases hy
      split at e
      · rename_i hz
        obtain ⟨c, hc, rfl⟩ := Option.map_eq_some_iff.mp e
        exact .inr (.inr ⟨txt z, i, c.val, rfl, rfl, by rw [txt_len]; exact hz, by rw [txt_list, atI_map, hc]; rfl, fin (.str (txt [c])) H o Ext.refl (.str [c])⟩)
      · cases e
    · cases e) h
def cutT {α : Type} (xs : List α) (lo hi : Option Int) : List α := (xs.drop (HT.sIx xs.length 0 lo)).take (HT.sIx xs.length xs.length hi - HT.sIx xs.length 0 lo)
theorem Reps.cut {G : Gd} {H : Hp} {S : Sto} {ts : List T} {vs : List V} (r : Reps G H S ts vs) (lo hi : Option Int) : Reps G H S (cutT ts lo hi) (cutV vs lo hi) := by
  unfold cutT cutV
  rw [r.length]
  exact (r.drop _).take _
theorem reps_ints {G : Gd} {H : Hp} {S : Sto} : ∀ ms : List Int, Reps G H S (ms.map T.int) (ms.map V.int)
  | [] => .nil
  | m :: ms => .cons (.int m) (reps_ints ms)
def slT (S : Sto) (x : T) (lo hi : Option Int) : Option T := match res S x with
  | .lst ts => some (.lst (cutT ts lo hi))
  | .tup ts => some (.tup (cutT ts lo hi))
  | .str z => if z.length ≤ sizeLine then some (.str (cutT z lo hi)) else none
  | .scr ns => some (.lst ((cutT ns lo hi).map T.int))
  | _ => none
abbrev TTO := TEnv → Sto → (Option Int → Sto → Prop) → (T → Sto → Prop) → Prop
def oNo : TTO := fun _ S Q _ => Q none S
def oSome (e : TTE) : TTO := fun τ S Q E => e τ S (fun x S1 => ∃ i, x = .int i ∧ Q (some i) S1) E
def cSl (e : TTE) (lo hi : TTO) : TTE := fun τ S Q E => e τ S (fun x S1 => lo τ S1 (fun l S2 => hi τ S2 (fun u S3 => ∃ z, slT S3 x l u = some z ∧ Q z S3) E) E) E
def LO (X : Cx) (M : Addr → Prop) (S0 : Sto) (H0 : Hp) (t : TTO) (E : T → TEnv → Sto → Prop) : TO := fun σ H Q => ∃ τ S Qt, Rel (gdOf X M) S0 H0 σ H τ S ∧ t τ S Qt (fun x S' => E x τ S') ∧
  ∀ i S' H', Qt i S' → StoOk (gdOf X M) H' S' → Ext S H S' H' → Q i H'
def TOp (X : Cx) (e : Option Expr) (t : TTO) : Prop := ∀ M S0 H0 E, Takes X (wOf X M S0 H0 E) → PO X e (LO X M S0 H0 t E)
theorem to_no : TOp X none oNo := fun M S0 H0 E tk => ⟨fun pins s σ H Q I ⟨τ, S, Qt, rel, h, k⟩ => po_none.run pins s σ H Q I (k none S H h rel.sto Ext.refl)⟩
theorem to_some {e : Expr} {te : TTE} (h : TE X e te) : TOp X (some e) (oSome te) := fun M S0 H0 E tk => ⟨fun pins s σ H Q I ⟨τ, S, Qt, rel, q, k⟩ => (po_some (h M S0 H0 E tk)).run pins s σ H Q I
  ⟨τ, S, _, rel, q, fun z S1 v H1 ⟨i, e, hq⟩ o1 x1 r1 => by
    subst e
    cases r1
    exact ⟨i, rfl, k _ S1 H1 hq o1 x1⟩⟩⟩
theorem txt_cut (z : List Sg) (lo hi : Option Int) : cutS (txt z) lo hi = txt (cutT z lo hi) := by
  unfold cutS cutT txt
  show (⟨_⟩ : Str) = _
  congr 1
  have l : (Str.mk (z.map (·.val)).toArray).length = z.length := txt_len z
  rw [l]
  simp [List.map_drop, List.map_take]
theorem te_slice {e : Expr} {lo hi : Option Expr} {te : TTE} {tl th : TTO} {p2 : Pos} (he : TE X e te) (hl : TOp X lo tl) (hh : TOp X hi th) : TE X (.Subscript e (.Slice lo hi none p2) pos) (cSl te tl th) := fun M S0 H0 E tk =>
  (pe_slice (sl_list.or (sl_tupF.or sl_str)) (he M S0 H0 E tk) (hl M S0 H0 E tk) (hh M S0 H0 E tk)).weak fun σ H Q ⟨τ, S, Qt, rel, h, k⟩ => ⟨τ, S, _, rel, h, fun z S1 v H1 h1 o1 x1 r1 =>
    ⟨τ, S1, _, rel.step o1 x1, h1, fun l S2 H2 h2 o2 x2 => ⟨τ, S2, _, (rel.step o1 x1).step o2 x2, h2, fun u S3 H3 h3 o3 x3 => by
      obtain ⟨w, e, hq⟩ := h3
      have r3 := Rep.ext (x2.trans x3) _ _ r1
      have fin := fun v H' o4 x4 r4 => k w S3 v H' hq o4 (((x1.trans x2).trans x3).trans x4) r4
      unfold slT at e
      split at e
      · rename_i ts h1
        obtain rfl := Option.some.inj e
        obtain ⟨p, xs, rfl, q1, r1⟩ := res_lst o3 r3 h1
        exact .inl ⟨p, xs, rfl, SqL.of q1, fun p n => fin _ _ (o3.new n) (Ext.new n) (.lst ⟨upd_same, o3.free n, o3.nom n⟩ (Reps.ext (Ext.new n) _ _ (r1.cut l u)))⟩
      · rename_i ts h1
        obtain rfl := Option.some.inj e
        obtain rfl := res_id h1 fun _ z => nomatch z
        cases r3 with
        | tup a1 a2 =>
          refine .inr (.inl ⟨_, _, rfl, a1.sq, fun hw => ?_, fun _ p ob n nd => ?_⟩)
          · refine fin _ _ o3 Ext.refl ?_
            have e2 : cutT ts l u = ts := by
              unfold cutT
              rw [a2.length, hw.1, hw.2]
              simp [← a2.length]
            rw [e2]
            exact .tup a1 a2
          · exact fin _ _ (o3.new n) (Ext.new n) (.tup (.inl ⟨ob, ⟨upd_same, nd⟩, o3.free n, o3.nom n⟩) (Reps.ext (Ext.new n) _ _ (a2.cut l u)))
      · rename_i y h1
        obtain rfl := res_id h1 fun _ z => nomatch z
        split at e
        · rename_i hz
          obtain rfl := Option.some.inj e
          cases r3
          exact .inr (.inr ⟨txt y, rfl, by rw [txt_len]; exact hz, by rw [txt_cut]; exact fin _ _ o3 Ext.refl (.str _)⟩)
        · cases e
      · rename_i ns h1
        obtain rfl := res_id h1 fun _ z => nomatch z
        obtain rfl := Option.some.inj e
        cases r3 with
        | scr a1 =>
          refine .inl ⟨_, _, rfl, a1.sq, fun p n => fin _ _ (o3.new n) (Ext.new n) (.lst ⟨upd_same, o3.free n, o3.nom n⟩ ?_)⟩
          have : cutV (ns.map V.int) l u = (cutT ns l u).map V.int := by
            unfold cutV cutT
            rw [List.length_map]
            simp [List.map_drop, List.map_take]
          rw [this]
          exact reps_ints _
      · cases e⟩⟩⟩
end
end TL
namespace TL
open PySem PySem.Spec PyProof.Rows L2
section
variable {X : Cx} {x : Str} {p pos : Pos} {e : Expr} {es : List Expr} {ta : TTA} {bid Ty : String}
def CallT (X : Cx) (f : Value) (g : Sto → List T → Option T) : Prop := CallR X f fun xs H Q => ∃ M S ts t, StoOk (gdOf X M) H S ∧ Reps (gdOf X M) H S ts xs ∧ g S ts = some t ∧ ∀ v H', StoOk (gdOf X M) H' S → Ext S H S H' → Rep (gdOf X M) H' S t v → Q v H'
def cFn (g : Sto → List T → Option T) (a : TTA) : TTE := fun τ S Q E => a τ S (fun ts S1 => ∃ t, g S1 ts = some t ∧ Q t S1) E
theorem te_fnB {g : Sto → List T → Option T} (hc : CallT X (.builtin bid) g) (hg : Gl X x) (hm : X.mg x = none) (hv : bootBuiltins x = some (.builtin bid)) (ha : TA X (e :: es) ta) (hn : x ≠ "__name__" := by decide) (hdb : (x == ("__debug__" : Str)) = false := by decide)
    (he : starEach (e :: es) X.env = (false, eval e X.env) :: starEach es X.env := by rfl) (hpl : (backTo pos (starEach es X.env)).any (·.1) = false := by rfl) : TE X (.Call (.Name x p) (e :: es) [] pos) (cFn g ta) := fun M S0 H0 E tk =>
  (pe_callB hc hg hm hv (ha M S0 H0 E tk) hn hdb he hpl).weak fun σ H Q ⟨τ, S, Qt, rel, q, k⟩ => ⟨τ, S, _, rel, q, fun ts S1 vs H1 ⟨t, e, hq⟩ o1 x1 r1 => ⟨M, S1, ts, t, o1, r1, e, fun v H' o2 x2 r2 => k t S1 v H' hq o2 (x1.trans x2) r2⟩⟩
theorem te_fnT {g : Sto → List T → Option T} (hc : CallT X (.type Ty) g) (hg : Gl X x) (hm : X.mg x = none) (hv : bootBuiltins x = some (.type Ty)) (ha : TA X (e :: es) ta) (hn : x ≠ "__name__" := by decide) (hdb : (x == ("__debug__" : Str)) = false := by decide)
    (he : starEach (e :: es) X.env = (false, eval e X.env) :: starEach es X.env := by rfl) (hpl : (backTo pos (starEach es X.env)).any (·.1) = false := by rfl) : TE X (.Call (.Name x p) (e :: es) [] pos) (cFn g ta) := fun M S0 H0 E tk =>
  (pe_callTy hc hg hm hv (ha M S0 H0 E tk) hn hdb he hpl).weak fun σ H Q ⟨τ, S, Qt, rel, q, k⟩ => ⟨τ, S, _, rel, q, fun ts S1 vs H1 ⟨t, e, hq⟩ o1 x1 r1 => ⟨M, S1, ts, t, o1, r1, e, fun v H' o2 x2 r2 => k t S1 v H' hq o2 (x1.trans x2) r2⟩⟩
theorem Reps.one {G : Gd} {H : Hp} {S : Sto} {t : T} {vs : List V} (r : Reps G H S [t] vs) : ∃ v, vs = [v] ∧ Rep G H S t v := by
  cases r with
  | cons a b => cases b; exact ⟨_, rfl, a⟩
theorem Reps.twos {G : Gd} {H : Hp} {S : Sto} {t u : T} {vs : List V} (r : Reps G H S [t, u] vs) : ∃ v w, vs = [v, w] ∧ Rep G H S t v ∧ Rep G H S u w := by
  cases r with
  | cons a b => cases b with
    | cons b c => cases c; exact ⟨_, _, rfl, a, b⟩
def lenF (S : Sto) : List T → Option T
  | [t] => match res S t with
    | .lst ts => some (.int ts.length)
    | .tup ts => some (.int ts.length)
    | .str z => if z.length ≤ sizeLine then some (.int z.length) else none
    | _ => none
  | _ => none
theorem fn_len : CallT X (.builtin "len") lenF := by
  intro pins s σ H xs us Q I r h
  obtain ⟨M, S, ts, t, o, rs, e, fin⟩ := h
  unfold lenF at e
  split at e
  · rename_i y
    obtain ⟨v, rfl, ry⟩ := rs.one
    split at e
    · rename_i zs hz
      obtain rfl := Option.some.inj e
      obtain ⟨a, ws, rfl, h1, h2⟩ := res_lst o ry hz
      exact call_len pins s σ H _ us Q I r ⟨_, _, rfl, .inl ⟨ws, SqL.of h1, rfl⟩, by rw [← h2.length]; exact fin _ H o Ext.refl (.int _)⟩
    · rename_i zs hz
      obtain rfl := Option.some.inj e
      obtain rfl := res_id hz fun _ z => nomatch z
      cases ry with
      | tup h1 h2 => exact call_len pins s σ H _ us Q I r ⟨_, _, rfl, .inr ⟨_, h1.sq, rfl⟩, by rw [← h2.length]; exact fin _ H o Ext.refl (.int _)⟩
    · rename_i z hz
      obtain rfl := res_id hz fun _ z => nomatch z
      split at e
      · rename_i hl
        obtain rfl := Option.some.inj e
        cases ry
        exact call_len pins s σ H _ us Q I r ⟨_, _, rfl, ⟨by rw [txt_len]; exact hl, rfl⟩, by rw [txt_len]; exact fin _ H o Ext.refl (.int _)⟩
      · cases e
    · cases e
  · cases e
def absF (_ : Sto) : List T → Option T
  | [.int i] => some (.int (if i < 0 then -i else i))
  | _ => none
theorem fn_abs : CallT X (.builtin "abs") absF := by
  intro pins s σ H xs us Q I r h
  obtain ⟨M, S, ts, t, o, rs, e, fin⟩ := h
  unfold absF at e
  split at e
  · rename_i i
    obtain rfl := Option.some.inj e
    obtain ⟨v, rfl, ry⟩ := rs.one
    cases ry
    exact call_abs pins s σ H _ us Q I r ⟨i, rfl, fin _ H o Ext.refl (.int _)⟩
  · cases e
def intF (_ : Sto) : List T → Option T
  | [.int i] => some (.int i)
  | [.bl b] => some (.int (if b then 1 else 0))
  | _ => none
theorem fn_int : CallT X (.type "int") intF := by
  intro pins s σ H xs us Q I r h
  obtain ⟨M, S, ts, t, o, rs, e, fin⟩ := h
  unfold intF at e
  split at e
  · rename_i i
    obtain rfl := Option.some.inj e
    obtain ⟨v, rfl, ry⟩ := rs.one
    cases ry
    exact call_int1 pins s σ H _ us Q I r (.inl ⟨i, rfl, fin _ H o Ext.refl (.int _)⟩)
  · rename_i i
    obtain rfl := Option.some.inj e
    obtain ⟨v, rfl, ry⟩ := rs.one
    cases ry
    exact call_int1 pins s σ H _ us Q I r (.inr ⟨i, rfl, fin _ H o Ext.refl (.int _)⟩)
  · cases e
def tupleF (S : Sto) : List T → Option T
  | [t] => match res S t with
    | .lst ts => some (.tup ts)
    | .tup ts => some (.tup ts)
    | _ => none
  | _ => none
def listF (S : Sto) : List T → Option T
  | [t] => match res S t with
    | .lst ts => some (.lst ts)
    | .tup ts => some (.lst ts)
    | _ => none
  | _ => none
def max2F (_ : Sto) : List T → Option T
  | [.int i, .int j] => some (.int (if j > i then j else i))
  | _ => none
def min2F (_ : Sto) : List T → Option T
  | [.int i, .int j] => some (.int (if j < i then j else i))
  | _ => none
theorem fn_max2 (hc : X.calm = true) : CallT X (.builtin "max") max2F := by
  intro pins s σ H xs us Q I r h
  obtain ⟨M, S, ts, t, o, rs, e, fin⟩ := h
  unfold max2F at e
  split at e
  · rename_i i j
    obtain rfl := Option.some.inj e
    obtain ⟨v, w, rfl, r1, r2⟩ := rs.twos
    cases r1
    cases r2
    exact call_max2 hc pins s σ H _ us Q I r ⟨i, j, rfl, fin _ _ o Ext.refl (.int _)⟩
  · cases e
theorem fn_min2 (hc : X.calm = true) : CallT X (.builtin "min") min2F := by
  intro pins s σ H xs us Q I r h
  obtain ⟨M, S, ts, t, o, rs, e, fin⟩ := h
  unfold min2F at e
  split at e
  · rename_i i j
    obtain rfl := Option.some.inj e
    obtain ⟨v, w, rfl, r1, r2⟩ := rs.twos
    cases r1
    cases r2
    exact call_min2 hc pins s σ H _ us Q I r ⟨i, j, rfl, fin _ _ o Ext.refl (.int _)⟩
  · cases e

def leT' (x y : T) : Bool := !ltt y x
/-- all alike, and of tuples with something in them, or of none -/
def sortOk (ts : List T) : Bool := ts.all (fun x => okd x && ts.all fun y => alk x y) && (ts.all (fun x => match x with | .tup (_ :: _) => true | _ => false) || ts.all fun x => match x with | .tup _ => false | .non => false | _ => true)
theorem sortOk_of {ts : List T} (h : sortOk ts = true) : (∀ x ∈ ts, okd x = true) ∧ PySem.W.AllAlike (ts.map dat) ∧ PySem.W.Sortable (ts.map dat) ∧ ∀ x ∈ ts, ∀ y ∈ ts, PySem.W.dataLt (dat x) (dat y) = ltt x y := by
  simp only [sortOk, Bool.and_eq_true, Bool.or_eq_true, List.all_eq_true] at h
  obtain ⟨h1, h2⟩ := h
  have ok : ∀ x ∈ ts, okd x = true := fun x hx => (h1 x hx).1
  have al : ∀ x ∈ ts, ∀ y ∈ ts, alk x y = true := fun x hx y hy => (h1 x hx).2 y hy
  refine ⟨ok, fun d hd d' hd' => ?_, ?_, fun x hx y hy => ?_⟩
  · obtain ⟨x, hx, rfl⟩ := List.mem_map.mp hd
    obtain ⟨y, hy, rfl⟩ := List.mem_map.mp hd'
    rw [alk_dat x y (okd_plain (ok x hx)) (okd_plain (ok y hy))]
    exact al x hx y hy
  · rcases h2 with h2 | h2
    · refine .inl fun d hd => ?_
      obtain ⟨x, hx, rfl⟩ := List.mem_map.mp hd
      have := h2 x hx
      cases x with
      | tup l =>
        cases l with
        | nil => cases this
        | cons a b => exact ⟨_, _, rfl⟩
      | _ => cases this
    · refine .inr fun d hd => ?_
      obtain ⟨x, hx, rfl⟩ := List.mem_map.mp hd
      have := h2 x hx
      have pl := okd_plain (ok x hx)
      cases x <;> first | (cases this; done) | (cases pl; done) | exact ⟨(fun z => nomatch z), fun _ z => nomatch z⟩
  · by_cases hn : x = .non
    · subst hn
      have hyn := al _ hx y hy
      have hxx := h2
      cases y <;> first | (simp [alk] at hyn; done) | skip
      rcases h2 with h2 | h2
      · exact absurd (h2 _ hx) (by simp)
      · exact absurd (h2 _ hx) (by simp)
    · exact ltt_dat x y (okd_plain (ok x hx)) (okd_plain (ok y hy)) (al x hx y hy) hn
def sortedF (S : Sto) : List T → Option T
  | [t] => match res S t with
    | .lst ts => if (sortOk ts && decide (ts.length ≤ sizeLine)) = true then some (.lst (ts.mergeSort leT')) else none
    | .tup ts => if (sortOk ts && decide (ts.length ≤ sizeLine)) = true then some (.lst (ts.mergeSort leT')) else none
    | _ => none
  | _ => none
end
end TL
namespace TL
open PySem PySem.Spec PyProof.Rows L2
theorem mergeSort_leT (ts : List T) (h : ∀ x ∈ ts, ∀ y ∈ ts, PySem.W.dataLt (dat x) (dat y) = ltt x y) : ts.mergeSort (PySem.W.dataLe false dat) = ts.mergeSort leT' :=
  PySem.W.sort_congr fun a ha b hb => by
    rw [PySem.W.dataLe_eq]
    show (!PySem.W.dataLt (dat b) (dat a)) = !ltt b a
    rw [h b hb a ha]
section
variable {X : Cx} {pins : List (Addr × Obj)} {s : Shared} {σ : L2.St} {H : Hp} {S : Sto} {M : Addr → Prop} {Q : VK}
end
end TL
namespace TL
open PySem PySem.Spec PyProof.Rows L2
abbrev NoE : T → Sto → Prop := fun _ _ => False
theorem takesN {X : Cx} {M : Addr → Prop} {S0 : Sto} {H0 : Hp} : Takes X (wOf X M S0 H0 EN) := takes0.imp fun c d σ H ⟨_, _, _, _, _, z⟩ => z.elim
def sqv : T → Option (List T)
  | .lst zs => some zs
  | .tup zs => some zs
  | _ => none
def cApp (o e : TTE) : TTE := fun τ S Q E => o τ S (fun x S1 => ∃ a us, x = .ref a ∧ S1 a = some (.lst us) ∧ e τ S1 (fun y S2 => ∃ ts, S2 a = some (.lst ts) ∧ ts.length < sizeLine ∧ Q .non (ups S2 a (.lst (ts ++ [y])))) E) E
def cExt (o e : TTE) : TTE := fun τ S Q E => o τ S (fun x S1 => ∃ a us, x = .ref a ∧ S1 a = some (.lst us) ∧ e τ S1 (fun y S2 => ∃ ts zs, S2 a = some (.lst ts) ∧ sqv (res S2 y) = some zs ∧ ts.length + zs.length ≤ sizeLine ∧ Q .non (ups S2 a (.lst (ts ++ zs)))) E) E
def cPop (o : TTE) : TTE := fun τ S Q E => o τ S (fun x S1 => ∃ a ts y, x = .ref a ∧ S1 a = some (.lst ts) ∧ ts.getLast? = some y ∧ Q y (ups S1 a (.lst ts.dropLast))) E
def cClr (o : TTE) : TTE := fun τ S Q E => o τ S (fun x S1 => ∃ a ts, x = .ref a ∧ S1 a = some (.lst ts) ∧ Q .non (ups S1 a (.lst []))) E
def gIx (o i : TTE) : TTG := fun z τ S Q => o τ S (fun x S1 => i τ S1 (fun k S2 => ∃ a ts n j, x = .ref a ∧ S2 a = some (.lst ts) ∧ k = .int n ∧ ixN ts.length n = some j ∧ Q τ (ups S2 a (.lst (ts.set j z)))) NoE) NoE
section
variable {X : Cx} {o e i : Expr} {to te ti : TTE} {apos cpos pos : Pos}
theorem ty_list {M : Addr → Prop} {S : Sto} {H : Hp} {a : Addr} {us : List T} (ok : StoOk (gdOf X M) H S) (h : S a = some (.lst us)) : tyV X.K "list" (.ref a) H := by
  obtain ⟨xs, h1, _⟩ := ok.at_ a _ h
  exact .inl ⟨rfl, xs, SqL.of h1⟩
/-- a cell of a list is written -/
theorem cell_set {M : Addr → Prop} {S : Sto} {H : Hp} {a : Addr} {ts us : List T} {ys : List V} (ok : StoOk (gdOf X M) H S) (h : S a = some (.lst ts)) (r : Reps (gdOf X M) H S us ys) :
    StoOk (gdOf X M) (upd H a (.lst ys)) (ups S a (.lst us)) ∧ Ext S H (ups S a (.lst us)) (upd H a (.lst ys)) :=
  have x : Ext S H (ups S a (.lst us)) (upd H a (.lst ys)) := Ext.cell (.inr ⟨_, h⟩)
  ⟨ok.cell (.inr ⟨_, h⟩) ⟨ys, upd_same, Reps.ext x _ _ r⟩, x⟩
theorem te_app (ho : TE X o to) (he : TE X e te) (hbase : attributeBase o "append" X.env (eval o X.env) = eval o X.env := by rfl)
    (hfew : ((backTo cpos (starEach [e] X.env)).all (fun x => !x.1) && (backToKw cpos (keywordEach [] X.env)).all (fun x => x.1.isSome) && decide (([e] : List Expr).length + ([] : List Keyword).length + (if ([] : List Keyword).isEmpty then 0 else 1) < 30)) = true := by rfl)
    (hline : (apos.endLine == cpos.line) = true := by rfl) (hs : starEach [e] X.env = (false, eval e X.env) :: starEach [] X.env := by rfl) (hplain : (backTo cpos (starEach [] X.env)).any (·.1) = false := by rfl) :
    TE X (.Call (.Attribute o "append" apos) [e] [] cpos) (cApp to te) := fun M S0 H0 E tk =>
  (pe_bm PySem.F.plainAttrs_list PySem.F.slot_list_append PySem.F.type_list_append mt_append (ho M S0 H0 E tk) (ta_cons he ta_nil hs M S0 H0 E tk) hbase hfew hline hs hplain).weak fun σ H Q ⟨τ, S, Qt, rel, h, k⟩ =>
    ⟨τ, S, _, rel, h, fun z S1 v H1 ⟨a, us, ez, hs1, h1⟩ o1 x1 r1 => by
      subst ez
      cases r1
      refine ⟨ty_list o1 hs1, τ, S1, fun zs S2 => ∃ y, zs = [y] ∧ ∃ ts, S2 a = some (.lst ts) ∧ ts.length < sizeLine ∧ Qt .non (ups S2 a (.lst (ts ++ [y]))), rel.step o1 x1, ?_, fun zs S2 vs H2 h2 o2 x2 r2 => ?_⟩
      · show te τ S1 (fun y S2 => ∃ y', [y] = [y'] ∧ ∃ ts, S2 a = some (.lst ts) ∧ ts.length < sizeLine ∧ Qt .non (ups S2 a (.lst (ts ++ [y'])))) fun x S' => E x τ S'
        have e : ∀ (y : T) (S2 : Sto), (∃ y', [y] = [y'] ∧ ∃ ts, S2 a = some (.lst ts) ∧ ts.length < sizeLine ∧ Qt .non (ups S2 a (.lst (ts ++ [y'])))) = ∃ ts, S2 a = some (.lst ts) ∧ ts.length < sizeLine ∧ Qt .non (ups S2 a (.lst (ts ++ [y]))) := fun y S2 => by
          simp only [List.cons.injEq, and_true, exists_eq_left']
        simp only [e]
        exact h1
      · obtain ⟨y, rfl, ts, q1, q2, q3⟩ := h2
        obtain ⟨w, rfl, rw1⟩ := r2.one
        obtain ⟨xs, p1, p2⟩ := o2.at_ a _ q1
        have l := p2.length
        obtain ⟨o3, x3⟩ := cell_set (us := ts ++ [y]) (ys := xs ++ [w]) o2 q1 (p2.append (.cons rw1 .nil))
        exact ⟨a, xs, w, rfl, rfl, p1, by omega, k _ _ _ _ q3 o3 ((x1.trans x2).trans x3) .non⟩⟩
/-- xs[i] = v, xs a list -/
theorem tg_ix {vs : List Nat} (ho : TE X o to) (hi : TE X i ti) (ha : ∀ v, assign (.Subscript o i pos) X.env v = (do
      let ov ← holding [v] (eval o X.env)
      let iv ← holding [v, ov] (eval i X.env)
      standAt pos
      holding [v, ov, iv] (setItem ov iv v)
      release [v, ov, iv] []) := by intro _; rfl) : TGt X vs (.Subscript o i pos) (gIx to ti) := fun M S0 H0 E tk =>
  (pg_sub (ho M S0 H0 EN takesN) (hi M S0 H0 EN takesN) set_list ha).weak fun v σ H Q ⟨τ, S, z, Qt, rel, hz, h, k⟩ => ⟨τ, S, _, rel, h, fun x S1 xv H1 h1 o1 x1 r1 =>
    ⟨τ, S1, _, rel.step o1 x1, h1, fun y S2 yv H2 ⟨a, ts, n, j, ex, hs2, ey, hj, h2⟩ o2 x2 r2 => by
      subst ex ey
      cases r1
      cases r2
      obtain ⟨xs, p1, p2⟩ := o2.at_ a _ hs2
      have x12 := x1.trans x2
      obtain ⟨o3, x3⟩ := cell_set (us := ts.set j z) (ys := xs.set j v) o2 hs2 (p2.set (Rep.ext x12 _ _ hz) j)
      exact ⟨a, xs, n, j, rfl, rfl, p1, by rw [← p2.length]; exact hj, k _ _ _ _ ((rel.step o2 x12).step o3 x3) (x12.trans x3) rfl h2⟩⟩⟩
end
inductive Kd where
  | non | bool | int | str | tup | lst | dct
  deriving DecidableEq
def Kd.nm : Kd → String
  | .non => "NoneType"
  | .bool => "bool"
  | .int => "int"
  | .str => "str"
  | .tup => "tuple"
  | .lst => "list"
  | .dct => "dict"
def Kd.is : Kd → Kd → Bool
  | .bool, .int => true
  | a, b => decide (a = b)
def kdOf (S : Sto) : T → Option Kd
  | .non => some .non
  | .bl _ => some .bool
  | .int _ => some .int
  | .str _ => some .str
  | .tup _ => some .tup
  | .lst _ => some .lst
  | .dct false _ _ => some .dct
  | .ref a => match S a with
    | some (.lst _) => some .lst
    | some (.dct false _ _) => some .dct
    | _ => none
  | _ => none
def isiT (ks : List Kd) (S : Sto) (x : T) : Option T := (kdOf S x).map fun k => .bl (ks.any fun c => k.is c)
section
variable {X : Cx} {a : Expr} {ta : TTE} {p p2 pos tpos : Pos} {c : Str}
end
end TL
namespace TL
open PySem PySem.Spec PyProof.Rows L2
def repS (n : Nat) (x : List Sg) : List Sg := (List.replicate n x).flatten
theorem repS_succ (n : Nat) (x : List Sg) : repS (n + 1) x = x ++ repS n x := by simp [repS, List.replicate_succ]
theorem repS_nil (n : Nat) : repS n [] = [] := by
  induction n with
  | zero => rfl
  | succ n ih => rw [repS_succ, ih]; rfl
theorem repS_one (x : List Sg) : repS 1 x = x := by simp [repS]
theorem txt_repS (n : Nat) (x : List Sg) : (⟨(List.replicate n (txt x).cps).foldl (· ++ ·) #[]⟩ : Str) = txt (repS n x) := by
  have h : ∀ (n : Nat) (acc : Array Nat), (List.replicate n (txt x).cps).foldl (· ++ ·) acc = acc ++ (txt (repS n x)).cps := by
    intro n
    induction n with
    | zero => intro acc; simp [repS, txt]
    | succ n ih =>
      intro acc
      rw [List.replicate_succ, List.foldl_cons, ih, repS_succ]
      simp [txt]
  rw [h n #[]]
  simp [txt]
theorem txt_mul (x : List Sg) (n : Int) : Txt.mul (txt x) n = txt (repS n.toNat x) := by
  unfold Txt.mul
  split
  · rename_i h
    have : n.toNat = 0 := by omega
    rw [this]
    rfl
  · split
    · rename_i h h2
      simp only [Bool.or_eq_true, beq_iff_eq] at h2
      rcases h2 with h2 | h2
      · subst h2
        show txt x = txt (repS 1 x)
        rw [repS_one]
      · rw [txt_len] at h2
        have : x = [] := List.eq_nil_of_length_eq_zero h2
        subst this
        rw [repS_nil]
    · exact txt_repS _ _
def mulS (x : List Sg) (n : Int) : Bool := decide (x.length * n.toNat ≤ 1000000) && (decide (n < 1000000) && decide (-1000000 < n))
theorem mulS_ok {x : List Sg} {n : Int} (h : mulS x n = true) : MulOk (txt x) n := by
  simp only [mulS, Bool.and_eq_true, decide_eq_true_eq] at h
  obtain ⟨h1, h2, h3⟩ := h
  refine ⟨by rw [decide_eq_false (by omega), decide_eq_false (by omega)]; rfl, fun h4 _ => ?_, fun h4 _ => ?_⟩
  · rw [txt_len]
    have hn : 0 < n := by omega
    have h5 : (x.length : Int) * n ≤ 1000000 := by
      have : ((x.length * n.toNat : Nat) : Int) ≤ ((1000000 : Nat) : Int) := Int.ofNat_le.mpr h1
      rw [Int.natCast_mul, Int.toNat_of_nonneg (by omega)] at this
      exact this
    have : (x.length : Int) ≤ (2 ^ 63 - 1) / n := by
      apply Int.le_ediv_of_mul_le hn
      omega
    omega
  · rw [txt_len]
    unfold Builtin.Str.tooLong
    rw [sizeLine_eq]
    exact decide_eq_false (by omega)
def mulT2 (_ : Sto) (x y : T) : Option T := match x, y with
  | .int i, .int j => if mulI i j = true then some (.int (i * j)) else none
  | .str a, .int n => if mulS a n = true then some (.str (repS n.toNat a)) else none
  | _, _ => none
section
variable {X : Cx}
theorem op_mulT2 : OpT X (binaryOp .Mult) mulT2 := by
  intro pins s σ H x y v u Q I rx ry h
  obtain ⟨M, S, tx, ty, t, o, hx, hy, e, fin⟩ := h
  unfold mulT2 at e
  split at e
  · rename_i i j
    split at e
    · rename_i hz
      obtain rfl := Option.some.inj e
      cases hx
      cases hy
      exact op_mulW pins s σ H _ _ v u Q I rx ry ⟨i, j, rfl, rfl, by unfold CMulW; exact of_decide_eq_true hz, fin _ H o Ext.refl (.int _)⟩
    · cases e
  · rename_i a n
    split at e
    · rename_i hz
      obtain rfl := Option.some.inj e
      cases hx
      cases hy
      obtain ⟨t1, rfl⟩ := rx
      obtain ⟨t2, rfl⟩ := ry
      refine SB.mul (mulS_ok hz) fun t' k => ⟨.str _, H, I.tok k, ⟨t', rfl⟩, ?_⟩
      rw [txt_mul]
      exact fin _ H o Ext.refl (.str _)
    · cases e
  · cases e

def strI (i : Int) : List Sg := q (Str.ofString (toString i))
theorem strI_signs (i : Int) : ∀ c ∈ (Str.ofString (toString i)).cps.toList, c < 128 := by
  intro c hc
  rw [signs_ofString] at hc
  obtain ⟨ch, h1, rfl⟩ := List.mem_map.mp hc
  have dig : ∀ n : Nat, ∀ ch ∈ (Nat.repr n).toList, ch.toNat < 128 := fun n ch h => by
    rw [Nat.toList_repr] at h
    have r := digit_range (Nat.isDigit_of_mem_toDigits (by decide) (by decide) h)
    omega
  cases i with
  | ofNat m => exact dig m ch h1
  | negSucc m =>
    have e : toString (Int.negSucc m) = "-" ++ Nat.repr (m + 1) := rfl
    rw [e, String.toList_append, List.mem_append] at h1
    rcases h1 with h1 | h1
    · have : ch = '-' := by simpa using h1
      subst this
      decide
    · exact dig _ ch h1
theorem q_txt {s : Str} (h : ∀ c ∈ s.cps.toList, c < 128) : txt (q s) = s := by
  have : (q s).map (·.val) = s.cps.toList := by
    unfold q
    rw [List.map_map]
    conv => rhs; rw [← List.map_id s.cps.toList]
    apply List.map_congr_left
    intro c hc
    show c % 128 = c
    exact Nat.mod_eq_of_lt (h c hc)
  show (⟨((q s).map (·.val)).toArray⟩ : Str) = s
  rw [this]
theorem txt_strI (i : Int) : txt (strI i) = Str.ofString (toString i) := q_txt (strI_signs i)
def strF (_ : Sto) : List T → Option T
  | [.int i] => if i.natAbs.log2 < 1000 then some (.str (strI i)) else none
  | _ => none
theorem fn_str : CallT X (.type "str") strF := by
  intro pins s σ H xs us Q I r h
  obtain ⟨M, S, ts, t, o, rs, e, fin⟩ := h
  unfold strF at e
  split at e
  · rename_i i
    split at e
    · obtain rfl := Option.some.inj e
      obtain ⟨v, rfl, ry⟩ := rs.one
      cases ry
      refine call_str_int pins s σ H _ us Q I r ⟨i, rfl, by omega, ?_⟩
      have := fin (.str (txt (strI i))) H o Ext.refl (.str _)
      rw [txt_strI] at this
      exact this
    · cases e
  · cases e

/-- a method of a thing of the kind k, with its arguments -/
def MetT (X : Cx) (id : String) (f : Sto → T → List T → Option T) : Prop := MtR X id fun x xs H Q => ∃ M S tx ts t, StoOk (gdOf X M) H S ∧ Rep (gdOf X M) H S tx x ∧ Reps (gdOf X M) H S ts xs ∧ f S tx ts = some t ∧ ∀ v H', StoOk (gdOf X M) H' S → Ext S H S H' → Rep (gdOf X M) H' S t v → Q v H'
def cM (k : T → Bool) (f : Sto → T → List T → Option T) (o : TTE) (a : TTA) : TTE := fun τ S Q E => o τ S (fun x S1 => k x = true ∧ a τ S1 (fun ys S2 => ∃ t, f S2 x ys = some t ∧ Q t S2) E) E
def isStr : T → Bool
  | .str _ => true
  | _ => false
def isTup : T → Bool
  | .tup _ => true
  | _ => false
theorem isStr_is {t : T} (h : isStr t = true) : ∃ x, t = .str x := by cases t <;> first | exact ⟨_, rfl⟩ | cases h
theorem isTup_is {t : T} (h : isTup t = true) : ∃ x, t = .tup x := by cases t <;> first | exact ⟨_, rfl⟩ | cases h
variable {o e : Expr} {es : List Expr} {to te : TTE} {ta : TTA} {id : String} {name : Str} {apos cpos : Pos} {f : Sto → T → List T → Option T}
theorem te_sm1 (slot : Slot "str" name id) (ty : typeOf (.builtin id) = pure (.type "method_descriptor")) (hm : MetT X id f) (ho : TE X o to) (he : TE X e te)
    (hs : starEach [e] X.env = [(false, eval e X.env)] := by rfl) (hbase : attributeBase o name X.env (eval o X.env) = eval o X.env := by rfl) (hline : (apos.endLine == cpos.line) = true := by rfl) :
    TE X (.Call (.Attribute o name apos) [e] [] cpos) (cM isStr f to (cCons te cNil)) := fun M S0 H0 E tk =>
  (pe_m1 slot ty hm (ho M S0 H0 E tk) (he M S0 H0 E tk) hs hbase hline).weak fun σ H Q ⟨τ, S, Qt, rel, h, k⟩ => ⟨τ, S, _, rel, h, fun zx S1 x H1 ⟨hk, h1⟩ o1 x1 r1 => by
    obtain ⟨y, rfl⟩ := isStr_is hk
    cases r1
    refine ⟨⟨_, rfl⟩, τ, S1, _, rel.step o1 x1, h1, fun zy S2 w H2 ⟨t, e, hq⟩ o2 x2 r2 => ⟨M, S2, _, [zy], t, o2, .str y, .cons r2 .nil, e, fun v H' o3 x3 r3 => k t S2 v H' hq o3 ((x1.trans x2).trans x3) r3⟩⟩⟩
/-- a method of a written tuple, called by its name -/
theorem te_tm {x : Str} {p : Addr} {npos : Pos} {ts : List T} (slot : Slot "tuple" name id) (ty : typeOf (.builtin id) = pure (.type "method_descriptor")) (hm : MetT X id f) (hg : Gl X x) (hmx : X.mg x = some (.ref p)) (hst : ∃ ob, X.K.lookup p = some ob ∧ ob.cls = .type "tuple" ∧ ob.dict = none)
    (hr : ∀ M H S, Rep (gdOf X M) H S (.tup ts) (.ref p)) (ha : TA X (e :: es) ta) (hd : (x == ("__debug__" : Str)) = false := by decide)
    (hbase : attributeBase (.Name x npos) name X.env (eval (.Name x npos) X.env) = eval (.Name x npos) X.env := by rfl)
    (hfew : ((backTo cpos (starEach (e :: es) X.env)).all (fun x => !x.1) && (backToKw cpos (keywordEach [] X.env)).all (fun x => x.1.isSome) && decide ((e :: es).length + ([] : List Keyword).length + (if ([] : List Keyword).isEmpty then 0 else 1) < 30)) = true := by rfl)
    (hline : (apos.endLine == cpos.line) = true := by rfl) (hs : starEach (e :: es) X.env = (false, eval e X.env) :: starEach es X.env := by rfl) (hplain : (backTo cpos (starEach es X.env)).any (·.1) = false := by rfl) :
    TE X (.Call (.Attribute (.Name x npos) name apos) (e :: es) [] cpos) (cM isTup f (cC (.tup ts)) ta) := fun M S0 H0 E tk =>
  (pe_bm PySem.F.plainAttrs_tuple slot ty hm (pe_glob hg hmx (show RelV (.ref p) (.ref p) from rfl) hd) (ha M S0 H0 E tk) hbase hfew hline hs hplain).weak fun σ H Q ⟨τ, S, Qt, rel, ⟨_, h⟩, k⟩ => by
    refine ⟨.inr (.inl ⟨rfl, hst⟩), τ, S, _, rel, h, fun zs S2 vs H2 ⟨t, e, hq⟩ o2 x2 r2 => ⟨M, S2, _, zs, t, o2, hr _ _ _, r2, e, fun v H' o3 x3 r3 => k t S2 v H' hq o3 (x2.trans x3) r3⟩⟩
def strsOf : List T → Option (List (List Sg))
  | [] => some []
  | .str x :: ts => (strsOf ts).map (x :: ·)
  | _ :: _ => none
theorem strsOf_is : ∀ {ts : List T} {xs : List (List Sg)}, strsOf ts = some xs → ts = xs.map T.str
  | [], xs, e => by
    obtain rfl := Option.some.inj e
    rfl
  | t :: ts, xs, e => by
    cases t with
    | str x =>
      obtain ⟨ys, h1, rfl⟩ := Option.map_eq_some_iff.mp (show (strsOf ts).map (x :: ·) = some xs from e)
      rw [strsOf_is h1]
      rfl
    | _ => cases e
theorem strsOf_map (xs : List (List Sg)) : strsOf (xs.map T.str) = some xs := by
  induction xs with
  | nil => rfl
  | cons x xs ih =>
    show (strsOf (xs.map T.str)).map (x :: ·) = _
    rw [ih]
    rfl
theorem reps_strs {G : Gd} {H : Hp} {S : Sto} : ∀ {xs : List (List Sg)} {vs : List V}, Reps G H S (xs.map T.str) vs → vs = (xs.map txt).map V.str
  | [], _, r => by cases r; rfl
  | x :: xs, _, r => by
    cases r with
    | cons a b =>
      cases a
      rw [reps_strs b]
      rfl
/-- joined -/
def jnL (a : List Sg) : List (List Sg) → List Sg
  | [] => []
  | x :: xs => x ++ (xs.map (a ++ ·)).flatten
theorem txt_join (a : List Sg) (xs : List (List Sg)) : Txt.join (txt a) (xs.map txt) = txt (jnL a xs) := by
  unfold Txt.join Builtin.Str.glued
  cases xs with
  | nil => rfl
  | cons x xs =>
    have h : ∀ (xs : List (List Sg)) (acc : Array Nat), (xs.map txt).foldl (fun acc p => acc ++ (txt a).cps ++ p.cps) acc = acc ++ (txt (xs.map (a ++ ·)).flatten).cps := by
      intro xs
      induction xs with
      | nil => intro acc; simp [txt]
      | cons y ys ih =>
        intro acc
        rw [List.map_cons, List.foldl_cons, ih]
        simp [txt]
    show (⟨(xs.map txt).foldl (fun acc p => acc ++ (txt a).cps ++ p.cps) (txt x).cps⟩ : Str) = _
    rw [h]
    simp [txt, jnL]
def joinSz (a : List Sg) (xs : List (List Sg)) : Bool := decide ((xs.map (·.length)).sum + xs.length * a.length ≤ 1000000)
def joinF (S : Sto) (o : T) (ys : List T) : Option T := match o, ys with
  | .str a, [y] => match res S y with
    | .lst ts => match strsOf ts with
      | some xs => if joinSz a xs = true then some (.str (jnL a xs)) else none
      | none => none
    | .tup ts => match strsOf ts with
      | some xs => if joinSz a xs = true then some (.str (jnL a xs)) else none
      | none => none
    | _ => none
  | _, _ => none
/-- the first place of z -/
def plc (z : List Sg) : List (List Sg) → Option Nat
  | [] => none
  | x :: xs => if x = z then some 0 else (plc z xs).map (· + 1)
theorem plc_at {z : List Sg} : ∀ {xs : List (List Sg)} {j : Nat}, plc z xs = some j → xs[j]? = some z ∧ ∀ m, m < j → xs[m]? ≠ some z
  | [], _, e => by cases e
  | x :: xs, j, e => by
    unfold plc at e
    split at e
    · rename_i h
      obtain rfl := Option.some.inj e
      subst h
      exact ⟨rfl, fun m h => by omega⟩
    · rename_i h
      obtain ⟨i, h1, rfl⟩ := Option.map_eq_some_iff.mp e
      obtain ⟨a, b⟩ := plc_at h1
      refine ⟨by simpa using a, fun m hm => ?_⟩
      cases m with
      | zero => simp; exact h
      | succ m => simpa using b m (by omega)
def tixF (_ : Sto) (o : T) (ys : List T) : Option T := match o, ys with
  | .tup ts, [.str z] => match strsOf ts with
    | some xs => (plc z xs).map fun j => .int (j : Nat)
    | none => none
  | _, _ => none
theorem mt_tixT : MetT X "tuple.index" tixF := by
  intro pins s σ H x xs v us Q I rx rs h
  obtain ⟨M, S, tx, ts, t, o, hx, hs, e, fin⟩ := h
  unfold tixF at e
  split at e
  · rename_i zs z
    obtain ⟨w, rfl, ry⟩ := hs.one
    cases ry
    split at e
    · rename_i ys hy
      obtain ⟨j, hj, rfl⟩ := Option.map_eq_some_iff.mp e
      have := strsOf_is hy
      subst this
      cases hx with
      | tup a b =>
        have := reps_strs b
        subst this
        obtain ⟨p1, p2⟩ := plc_at hj
        refine mt_tup_index pins s σ H _ _ v us Q I rx rs ⟨_, ys.map txt, txt z, j, rfl, rfl, a.sq, by rw [List.getElem?_map, p1]; rfl, fun m hm e => ?_, fin _ H o Ext.refl (.int _)⟩
        rw [List.getElem?_map] at e
        cases q : ys[m]? with
        | none => rw [q] at e; cases e
        | some y =>
          rw [q] at e
          have := txt_inj (Option.some.inj e)
          subst this
          exact p2 m hm q
    · cases e
  · cases e

def cChain (f g : Sto → T → T → Option T) (a b c : TTE) : TTE := fun τ S Q E => a τ S (fun x S1 => b τ S1 (fun y S2 => ∃ k, f S2 x y = some (.bl k) ∧ if k = true then c τ S2 (fun z S3 => ∃ w, g S3 y z = some w ∧ Q w S3) E else Q (.bl false) S2) E) E
variable {a b c : Expr} {tb tc : TTE} {pos : Pos}
theorem te_glob {x : Str} {t : T} {v : V} {u : Value} (hg : Gl X x) (hm : X.mg x = some u) (r : RelV v u) (ht : ∀ M H S, Rep (gdOf X M) H S t v) (hd : (x == ("__debug__" : Str)) = false := by decide) : TE X (.Name x pos) (cC t) := te_const (pe_glob hg hm r hd) ht
end
end TL
namespace TL
open PySem PySem.Spec PyProof.Rows L2
/-- a def of the module by its name keeps its promise -/
def Okf (P : Program) (w : World) (K : PySem.W.Frag) (mg : Str → Option Value) (base : Heap) (k : Nat) (x : Str) (ps : List Str) (sp : SpT) : Prop :=
  ∃ fd, FnOk P w K mg base (L2N.CX P w) k (He.ga K x) fd ps (liftSp P K w sp) ∧ mg x = some (.ref (He.ga K x)) ∧ PySem.W.keepIn K (.ref (He.ga K x)) = true ∧ Binds K fd ps []
section
variable {X : Cx} {j k : Nat} {ps : List Str} {sp : SpT} {x : Str} {p pos : Pos} {e : Expr} {es : List Expr} {ta : TTA}
theorem te_callO (F : Okf X.prog X.w X.K X.mg X.base k x ps sp) (hr : Room j X.A) (hkj : k ≤ j) (hg : Gl X x) (ha : TA X (e :: es) ta) (hdb : (x == ("__debug__" : Str)) = false := by decide)
    (he : starEach (e :: es) X.env = (false, eval e X.env) :: starEach es X.env := by rfl) (hpl : (backTo pos (starEach es X.env)).any (·.1) = false := by rfl) : TE X (.Call (.Name x p) (e :: es) [] pos) (cCall sp ta) := by
  obtain ⟨fd, h1, h2, h3, h4⟩ := F
  exact te_call h1 (hr.mono hkj) hg h2 h3 h4 ha hdb he hpl
end
theorem u64 {k : Nat} {A : Around} (r : Room k A) : A.units + 64 < cLine := r.units
theorem u65 {k : Nat} {A : Around} (r : Room k A) : A.units + 65 < cLine := by have := r.un; omega
theorem u70 {k : Nat} {A : Around} (r : Room k A) : A.units + 70 < cLine := by have := r.un; omega

theorem noDic_ok {K : PySem.W.Frag} {x : Str} (h : noDic K x = true) : ∃ ob, K.lookup (He.ga K x) = some ob ∧ ob.cls = .type "tuple" ∧ ob.dict = none := by
  unfold noDic at h
  split at h
  · rename_i q
    exact ⟨_, q, congrArg Value.type (of_decide_eq_true h), rfl⟩
  · cases h
theorem stT_of {K : PySem.W.Frag} {x : Str} {vs : List He.Dv} (h : He.tupB K x vs = true) (hd : noDic K x = true) : StT K (He.ga K x) (vs.map (He.Dv.v K)) := by
  obtain ⟨o, its, n, a1, a2, a3⟩ := (He.tupB_ok h (fun _ => none)).resolve_left (by rintro (h | ⟨_, h⟩) <;> cases h)
  obtain ⟨ob, b1, _, b3⟩ := noDic_ok hd
  rw [a1] at b1
  cases b1
  exact ⟨o, its, n, a1, a2, b3, a3⟩
def lits (xs : List Str) : Bool := xs.all fun x => x.cps.toList.all fun c => decide (c < 128)
theorem reps_lits {G : Gd} {H : Hp} {S : Sto} : ∀ {xs : List Str}, lits xs = true → Reps G H S (xs.map fun x => .str (q x)) ((xs.map He.Dv.str).map (He.Dv.v G.K))
  | [], _ => .nil
  | x :: xs, h => by
    simp only [lits, List.all_cons, Bool.and_eq_true] at h
    refine .cons ?_ (reps_lits (xs := xs) (by simpa only [lits] using h.2))
    have e : txt (q x) = x := q_txt fun c hc => of_decide_eq_true (List.all_eq_true.mp h.1 c hc)
    show Rep G H S (.str (q x)) (.str x)
    have := Rep.str (G := G) (H := H) (S := S) (q x)
    rw [e] at this
    exact this
theorem rep_texts {K : PySem.W.Frag} {x : Str} {xs : List Str} (h : He.tupB K x (xs.map He.Dv.str) = true) (hl : lits xs = true) (hd : noDic K x = true) : ∀ (G : Gd) (H : Hp) (S : Sto), G.K = K → Rep G H S (.tup (xs.map fun x => .str (q x))) (.ref (He.ga K x)) := fun G H S e => by
  subst e
  exact .tup (.inr (stT_of h hd)) (reps_lits hl)

def sp1 (p : T → Sto → (T → Sto → Prop) → (T → Sto → Prop) → Prop) : SpT := fun ts S Q E => ∃ a, ts = [a] ∧ p a S Q E
def sp2 (p : T → T → Sto → (T → Sto → Prop) → (T → Sto → Prop) → Prop) : SpT := fun ts S Q E => ∃ a b, ts = [a, b] ∧ p a b S Q E
def sp3 (p : T → T → T → Sto → (T → Sto → Prop) → (T → Sto → Prop) → Prop) : SpT := fun ts S Q E => ∃ a b c, ts = [a, b, c] ∧ p a b c S Q E
def sp4 (p : T → T → T → T → Sto → (T → Sto → Prop) → (T → Sto → Prop) → Prop) : SpT := fun ts S Q E => ∃ a b c d, ts = [a, b, c, d] ∧ p a b c d S Q E
def sp5 (p : T → T → T → T → T → Sto → (T → Sto → Prop) → (T → Sto → Prop) → Prop) : SpT := fun ts S Q E => ∃ a b c d e, ts = [a, b, c, d, e] ∧ p a b c d e S Q E
theorem te_globR {X : Cx} {x : Str} {t : T} {p : Addr} {pos : Pos} (hg : Gl X x) (hm : X.mg x = some (.ref p)) (ht : ∀ M H S, Rep (gdOf X M) H S t (.ref p)) (hd : (x == ("__debug__" : Str)) = false := by decide) : TE X (.Name x pos) (cC t) :=
  te_glob hg hm (show RelV (.ref p) (.ref p) from rfl) ht hd
/-- what is to be shown of a def's tree -/
def VC (N : List Str) (sp : SpT) (c : TTS) : Prop := ∀ ts S Q E, sp ts S Q E → c { nx := fun _ S' => Fin Q .non S', rt := Fin Q } (startT N ts) S (fun x _ S' => FinX E x S')
end TL
namespace TL
open PySem PySem.Spec PyProof.Rows L2
section
variable {S : Sto} {i j : Int} {x y : List Sg} {xs ys ts : List T} {a b : T} {p : Addr}
theorem ex_ite {α : Type} {c : Prop} [Decidable c] {v : α} {P : α → Prop} : (∃ z, (if c then some v else none) = some z ∧ P z) ↔ c ∧ P v := by
  constructor
  · rintro ⟨z, e, h⟩
    split at e
    · cases e; exact ⟨by assumption, h⟩
    · cases e
  · rintro ⟨h1, h2⟩
    exact ⟨v, if_pos h1, h2⟩
theorem addT_int : addT S (.int i) (.int j) = some (.int (i + j)) := rfl
theorem addT_str : addT S (.str x) (.str y) = if x.length + y.length ≤ sizeLine then some (.str (x ++ y)) else none := rfl
theorem addT_lst : addT S (.lst xs) (.lst ys) = if xs.length + ys.length ≤ sizeLine then some (.lst (xs ++ ys)) else none := rfl
theorem addT_tup : addT S (.tup xs) (.tup ys) = if xs.length + ys.length ≤ sizeLine then some (.tup (xs ++ ys)) else none := rfl
theorem subT_int : subT S (.int i) (.int j) = some (.int (i - j)) := rfl
theorem mulT2_int : mulT2 S (.int i) (.int j) = if mulI i j = true then some (.int (i * j)) else none := rfl
theorem mulT2_str : mulT2 S (.str x) (.int j) = if mulS x j = true then some (.str (repS j.toNat x)) else none := rfl
theorem fdivT_int : fdivT S (.int i) (.int j) = if divI i j = true then some (.int (i.fdiv j)) else none := rfl
theorem modT_int : modT S (.int i) (.int j) = if modI i j = true then some (.int (i.fmod j)) else none := rfl
theorem powT_int : powT S (.int i) (.int j) = if powI i j = true then some (.int (i ^ j.toNat)) else none := rfl
theorem negT_int : negT S (.int i) = some (.int (-i)) := rfl
theorem okd_str : okd (.str x) = true := rfl
theorem eqT_int : eqT S (.int i) (.int j) = some (.bl (decide (i = j))) := rfl
theorem neT_int : neT S (.int i) (.int j) = some (.bl (!decide (i = j))) := rfl
theorem eqT_str : eqT S (.str x) (.str y) = some (.bl (decide (x = y))) := rfl
theorem neT_str : neT S (.str x) (.str y) = some (.bl (!decide (x = y))) := rfl
theorem eqT_bl {k l : Bool} : eqT S (.bl k) (.bl l) = some (.bl (k == l)) := rfl
theorem neT_bl {k l : Bool} : neT S (.bl k) (.bl l) = some (.bl (!(k == l))) := rfl
theorem ltT_int : ltT S (.int i) (.int j) = some (.bl (decide (i < j))) := by simp [ltT, cmpOk, okd, plain, dep, alk, ltt]
theorem gtT_int : gtT S (.int i) (.int j) = some (.bl (decide (j < i))) := by simp [gtT, cmpOk, okd, plain, dep, alk, ltt]
theorem leT_int : leT S (.int i) (.int j) = some (.bl (decide (i ≤ j))) := by
  simp only [leT, cmpOk, okd, plain, dep, alk, ltt, Bool.and_true, Nat.zero_le, decide_true, if_true, Option.some.injEq, T.bl.injEq]
  by_cases h : i ≤ j
  · rw [decide_eq_true h, decide_eq_false (by omega)]; rfl
  · rw [decide_eq_false h, decide_eq_true (by omega)]; rfl
theorem geT_int : geT S (.int i) (.int j) = some (.bl (decide (j ≤ i))) := by
  simp only [geT, cmpOk, okd, plain, dep, alk, ltt, Bool.and_true, Nat.zero_le, decide_true, if_true, Option.some.injEq, T.bl.injEq]
  by_cases h : j ≤ i
  · rw [decide_eq_true h, decide_eq_false (by omega)]; rfl
  · rw [decide_eq_false h, decide_eq_true (by omega)]; rfl
theorem ixT_lst : ixT S (.lst xs) (.int i) = L2.atI xs i := rfl
theorem ixT_tup : ixT S (.tup xs) (.int i) = L2.atI xs i := rfl
theorem ixT_str : ixT S (.str x) (.int i) = if x.length ≤ sizeLine then (L2.atI x i).map fun c => .str [c] else none := rfl
theorem res_ref {ts : List T} (h : S p = some (.lst ts)) : res S (.ref p) = .lst ts := by simp only [res, h]
theorem ixT_ref (h : S p = some (.lst xs)) : ixT S (.ref p) (.int i) = L2.atI xs i := by simp only [ixT, res_ref h]
theorem atI_natE {α : Type} {xs : List α} {n : Nat} : L2.atI xs (n : Int) = xs[n]? := by
  unfold L2.atI ixN
  by_cases h : n < xs.length
  · have : ((n : Int) < (xs.length : Int)) := by omega
    simp [h, this]
  · have h2 : ¬ ((n : Int) < (xs.length : Int)) := by omega
    simp [h, h2]
theorem atI_0 {α : Type} {u : α} {xs : List α} : L2.atI (u :: xs) 0 = some u := atI_natE (n := 0)
theorem atI_1 {α : Type} {u v : α} {xs : List α} : L2.atI (u :: v :: xs) 1 = some v := atI_natE (n := 1)
theorem atI_2 {α : Type} {u v w : α} {xs : List α} : L2.atI (u :: v :: w :: xs) 2 = some w := atI_natE (n := 2)
theorem atI_3 {α : Type} {u v w z : α} {xs : List α} : L2.atI (u :: v :: w :: z :: xs) 3 = some z := atI_natE (n := 3)
theorem ixT_ups {i : Int} : ixT (ups S p (.lst xs)) (.ref p) (.int i) = L2.atI xs i := ixT_ref ups_same
theorem ixN_30 : ixN 3 0 = some 0 := rfl
theorem ixN_31 : ixN 3 1 = some 1 := rfl
theorem ixN_32 : ixN 3 2 = some 2 := rfl
theorem lenF_lst : lenF S [.lst xs] = some (.int xs.length) := rfl
theorem lenF_tup : lenF S [.tup xs] = some (.int xs.length) := rfl
theorem lenF_str : lenF S [.str x] = if x.length ≤ sizeLine then some (.int x.length) else none := rfl
theorem lenF_ref (h : S p = some (.lst xs)) : lenF S [.ref p] = some (.int xs.length) := by simp only [lenF, res_ref h]
theorem lenF_ups : lenF (ups S p (.lst xs)) [.ref p] = some (.int xs.length) := lenF_ref ups_same
theorem absF_int : absF S [.int i] = some (.int (if i < 0 then -i else i)) := rfl
theorem intF_int : intF S [.int i] = some (.int i) := rfl
theorem intF_bl {k : Bool} : intF S [.bl k] = some (.int (if k = true then 1 else 0)) := rfl
theorem max2F_int : max2F S [.int i, .int j] = some (.int (if j > i then j else i)) := rfl
theorem min2F_int : min2F S [.int i, .int j] = some (.int (if j < i then j else i)) := rfl
theorem strF_int : strF S [.int i] = if i.natAbs.log2 < 1000 then some (.str (strI i)) else none := rfl
theorem isi_str {ks : List Kd} : isiT ks S (.str x) = some (.bl (ks.any fun c => Kd.is .str c)) := rfl
theorem isi_int {ks : List Kd} : isiT ks S (.int i) = some (.bl (ks.any fun c => Kd.is .int c)) := rfl
theorem isi_tup {ks : List Kd} : isiT ks S (.tup xs) = some (.bl (ks.any fun c => Kd.is .tup c)) := rfl
theorem isi_lst {ks : List Kd} : isiT ks S (.lst xs) = some (.bl (ks.any fun c => Kd.is .lst c)) := rfl
theorem slT_lst {lo hi : Option Int} : slT S (.lst xs) lo hi = some (.lst (cutT xs lo hi)) := rfl
theorem slT_tup {lo hi : Option Int} : slT S (.tup xs) lo hi = some (.tup (cutT xs lo hi)) := rfl
theorem slT_str {lo hi : Option Int} : slT S (.str x) lo hi = if x.length ≤ sizeLine then some (.str (cutT x lo hi)) else none := rfl
theorem slT_scr {ns : List Int} {lo hi : Option Int} : slT S (.scr ns) lo hi = some (.lst ((cutT ns lo hi).map T.int)) := rfl
theorem ups_ups {c d : Cell} : ups (ups S p c) p d = ups S p d := by
  funext b
  unfold ups
  split <;> rfl
theorem ups_eq {c : Cell} (h : S p = some c) : ups S p c = S := by
  funext b
  unfold ups
  split
  · rename_i e; subst e; exact h.symm
  · rfl
end
theorem sp1_at {p : T → Sto → (T → Sto → Prop) → (T → Sto → Prop) → Prop} {a : T} {S : Sto} {Q E : T → Sto → Prop} : sp1 p [a] S Q E = p a S Q E := by
  apply propext
  exact ⟨fun ⟨x, e, h⟩ => by cases e; exact h, fun h => ⟨_, rfl, h⟩⟩
theorem sp2_at {p : T → T → Sto → (T → Sto → Prop) → (T → Sto → Prop) → Prop} {a b : T} {S : Sto} {Q E : T → Sto → Prop} : sp2 p [a, b] S Q E = p a b S Q E := by
  apply propext
  exact ⟨fun ⟨x, y, e, h⟩ => by cases e; exact h, fun h => ⟨_, _, rfl, h⟩⟩
theorem sp3_at {p : T → T → T → Sto → (T → Sto → Prop) → (T → Sto → Prop) → Prop} {a b c : T} {S : Sto} {Q E : T → Sto → Prop} : sp3 p [a, b, c] S Q E = p a b c S Q E := by
  apply propext
  exact ⟨fun ⟨x, y, z, e, h⟩ => by cases e; exact h, fun h => ⟨_, _, _, rfl, h⟩⟩
theorem sp4_at {p : T → T → T → T → Sto → (T → Sto → Prop) → (T → Sto → Prop) → Prop} {a b c d : T} {S : Sto} {Q E : T → Sto → Prop} : sp4 p [a, b, c, d] S Q E = p a b c d S Q E := by
  apply propext
  exact ⟨fun ⟨x, y, z, w, e, h⟩ => by cases e; exact h, fun h => ⟨_, _, _, _, rfl, h⟩⟩
theorem sp5_at {p : T → T → T → T → T → Sto → (T → Sto → Prop) → (T → Sto → Prop) → Prop} {a b c d e : T} {S : Sto} {Q E : T → Sto → Prop} : sp5 p [a, b, c, d, e] S Q E = p a b c d e S Q E := by
  apply propext
  exact ⟨fun ⟨x, y, z, w, u, e, h⟩ => by cases e; exact h, fun h => ⟨_, _, _, _, _, rfl, h⟩⟩

theorem log2_lt {n k : Nat} (h : n < 2 ^ k) (hk : 0 < k) : n.log2 < k := by
  by_cases h0 : n = 0
  · subst h0; simpa using hk
  · exact (Nat.log2_lt h0).mpr h
theorem cut_le {α : Type} (xs : List α) (lo : Option Int) (k : Int) (hk : 0 ≤ k) : (cutT xs lo (some k)).length ≤ k.toNat := by
  obtain ⟨n, rfl⟩ := Int.eq_ofNat_of_zero_le hk
  unfold cutT
  rw [HT.sIx_nat, List.length_take, Int.toNat_natCast]
  omega
/-- nothing is changed: a filter and a map -/
theorem compT_pure {g : TTG} {c : TTB} {e : TTE} {own : List Nat} {gd : Sto → Prop} {τ : TEnv} {K : List T → Sto → Prop} (p : T → Bool) (f : T → T) {S : Sto} (hgd : gd S) : ∀ (xs acc : List T), acc.length + xs.length ≤ sizeLine → K (acc ++ (xs.filter p).map f) S →
    (∀ x ∈ xs, ∀ (R : T → Sto → Prop) (N : Sto → Prop), (p x = true → R (f x) S) → (p x = false → N S) → g x (wipeT τ own) S fun τ1 S1 => c τ1 S1 (fun k S2 => if k = true then e τ1 S2 R (fun _ _ => False) else N S2) (fun _ _ => False)) →
    compT g c e own gd τ K xs acc S
  | [], acc, _, h, _ => ⟨hgd, by simpa using h⟩
  | x :: xs, acc, hl, h, hs => by
    rw [List.length_cons] at hl
    refine ⟨hgd, hs x List.mem_cons_self _ _ (fun hp => ⟨by omega, ?_⟩) fun hp => ?_⟩
    · refine compT_pure p f hgd xs _ (by rw [List.length_append]; simp; omega) ?_ fun y hy => hs y (List.mem_cons_of_mem _ hy)
      rw [List.filter_cons_of_pos hp] at h
      simpa using h
    · refine compT_pure p f hgd xs _ (by omega) ?_ fun y hy => hs y (List.mem_cons_of_mem _ hy)
      rwa [List.filter_cons_of_neg (by simp [hp])] at h
/-- nothing is changed: a map -/
theorem compT_map {g : TTG} {c : TTB} {e : TTE} {own : List Nat} {gd : Sto → Prop} {τ : TEnv} {K : List T → Sto → Prop} (f : T → T) {S : Sto} {xs : List T} (hgd : gd S) (hl : xs.length ≤ sizeLine) (hk : K (xs.map f) S)
    (hs : ∀ x ∈ xs, ∀ (R : T → Sto → Prop) (N : Sto → Prop), R (f x) S → g x (wipeT τ own) S fun τ1 S1 => c τ1 S1 (fun k S2 => if k = true then e τ1 S2 R (fun _ _ => False) else N S2) (fun _ _ => False)) : compT g c e own gd τ K xs [] S :=
  compT_pure (fun _ => true) f hgd xs [] (by simpa using hl) (by rw [List.filter_eq_self.mpr (fun _ _ => rfl)]; simpa using hk) fun x hx R N h _ => hs x hx R N (h rfl)

/-- more than enough -/
abbrev big : Nat := 1000000000000000000000000000000
/-- a pen that was drawn from n times at most -/
def PenC (n : Nat) (c : Cell) : Prop := ∃ (ns : List Int) (at_ rest : Int), c = .lst [.lst (ns.map T.int), .int at_, .int rest] ∧ 0 ≤ at_ ∧ at_ ≤ n ∧ 0 ≤ rest ∧ ns.length ≤ 63
theorem PenC.mono {m n : Nat} {c : Cell} (h : PenC m c) (k : m ≤ n) : PenC n c := by
  obtain ⟨ns, at_, rest, e, h1, h2, h3, h4⟩ := h
  exact ⟨ns, at_, rest, e, h1, by omega, h3, h4⟩
theorem mulI_b {i j : Int} (h1 : i.natAbs < 2 ^ 250) (h2 : j.natAbs < 2 ^ 250) : mulI i j = true := by
  unfold mulI
  have a := log2_lt h1 (by decide)
  have b := log2_lt h2 (by decide)
  exact decide_eq_true (by omega)
theorem divI_b {i j : Int} (h1 : 0 < j) (h2 : j < 1000000000000000000000000000001) : divI i j = true := by
  unfold divI
  rw [decide_eq_true (by omega), decide_eq_true (Nat.lt_trans (log2_lt (k := 250) (by omega) (by decide)) (by decide))]
  rfl
theorem modI_b {i j : Int} (h1 : 0 < j) : modI i j = true := by
  unfold modI
  exact decide_eq_true (by omega)
theorem fmod_lo {i j : Int} (h : 0 < j) : 0 ≤ i.fmod j := Int.fmod_nonneg_of_pos i h
theorem fmod_hi {i j : Int} (h : 0 < j) : i.fmod j < j := Int.fmod_lt_of_pos i h
theorem fdiv_lo {i j : Int} (h0 : 0 ≤ i) (h : 0 < j) : 0 ≤ i.fdiv j := Int.fdiv_nonneg h0 (by omega)
end TL
namespace TL
open PySem PySem.Spec PyProof.Rows L2
theorem law_start {P : Program} {K : PySem.W.Frag} {w : World} {sp : SpT} {H : Hp} {a : Addr} {ns : List Int} (h : sp [.scr ns] (fun _ => none) (fun z _ => z = .bl true) fun _ _ => False) (hO : Only H) (hS : SqL K H a (ns.map V.int)) :
    liftSp P K w sp [.ref a] H (fun v _ => v = .bl true) fun _ _ _ => False := by
  refine ⟨fun _ => False, [T.scr ns], fun _ => none, fun z _ => z = T.bl true, fun _ _ => False, .cons (.scr ?_) .nil, ⟨fun a c e => (nomatch e), fun _ m => False.elim m, fun _ m => False.elim m⟩, h, fun z S' v H' e _ _ r => ?_, fun x S' cls d H' q => False.elim q⟩
  · rcases hS with (hS | ⟨o, hS⟩) | hS
    · rcases hO a with z | ⟨o, xs, z⟩ <;> rw [z] at hS <;> cases hS
    · exact .inl ⟨o, hS, rfl, fun z => z⟩
    · exact .inr hS
  · subst e
    cases r
    rfl
theorem cx_none {P : Program} {w : World} {H : Hp} {s : Shared} {e : Value} {s' : Shared} (h : L2N.CX P w [] H s (fun _ _ _ => False) e s') : False := by
  obtain ⟨_, _, _, _, _, _, _, _, _, _, _, _, z⟩ := h
  exact z
/-- the law's def keeps its promise: the law holds -/
theorem walk_tl {l : PySem.W.OpenLaw} {k : Nat} {q : Program} {loose : List Str} {XP : (Str → Option Value) → Heap → Prop} {YP : World → Heap → Prop} {d : DefRec} {x y : Str} {sp : SpT}
    (hn : l.most = some 63) (hdf : d.params.defaults = []) (hr : Room k callerA) (hd : d.name = y) (hs : ∀ ns : List Int, ns.length ≤ 63 → sp [.scr ns] (fun _ => none) (fun z _ => z = .bl true) fun _ _ => False)
    (F : ∀ (w : World) (mg : Str → Option Value) (h : Heap), YP w h → h.Ns mainGlobals mg → ∃ K : PySem.W.Frag, K.In h ∧ mg y = some (.ref (He.ga K y)) ∧
      ∃ fd : FuncData, (∀ (s : Shared) (u : Value), BindsTo s fd ⟨[u], []⟩ [(x, u)]) ∧ ∀ base : Heap, K.In base → base.Ns mainGlobals mg → FnOk l.prog w K mg base (L2N.CX l.prog w) k (He.ga K y) fd [x] (liftSp l.prog K w sp)) :
    PySem.W.WalkO q loose XP YP l.row.toRowW d [] (fun f vs => PySem.call f vs) := by
  subst hd
  refine Att.attach_call hn hdf fun w s₀ s₁ mg mb fa o pm cd doc a vs ns G Y ho hd hcd hmg hobj hints hlen hg => ?_
  obtain ⟨K, KX, hm, fd, hb, hF⟩ := F w mg _ Y G.T.g
  cases hmg.symm.trans hm
  exact law_call KX G.T.g G.T.b G.T.builtins G.T.nolimit hg hobj hints (Nat.le_trans hlen (by decide)) hr hF hb (fun H hO hS => law_start (hs ns hlen) hO hS) fun H e s' => cx_none
/-- a row of facts, one by its place -/
theorem all_at {bs : List Bool} (h : bs.all id = true) (i : Nat) {b : Bool} (e : bs[i]? = some b := by rfl) : b = true := List.all_eq_true.mp h b (List.mem_of_getElem? e)
/-- a def's promise, its binding for a law's call -/
theorem law_def {K : PySem.W.Frag} {x y : Str} {qual : Str} {params : Arguments} {body : List Stmt} {scope : Scope} {fd : FuncData} (F : FunD K y qual params body scope [] [] (He.ga K y) fd)
    (h : ∀ (kV doc pm : Value) (an : Option Addr) (cdv ct : Value) (us : List Value), us.length = 1 → bindArgs (PySem.W.fnOf y qual params body scope .none kV doc pm an cdv ct) ⟨us, []⟩ = pure (([x] : List Str).zip us)) (s : Shared) (u : Value) : BindsTo s fd ⟨[u], []⟩ [(x, u)] :=
  (FunD.bindsA (ps := [x]) F h) s [u] rfl
end TL
namespace TL
open PySem PySem.Spec PyProof.Rows L2
section
variable {P : Program} {w : World}
/-- is of no class statement, n deep -/
def NoCls (P : Program) (w : World) (n : Nat) (s : Shared) (v : Value) : Prop := ∀ (A : Around) (E : Value → Shared → Prop) (Q : Bool → Shared → Prop), Q false s → wpAny (model P w) A (ofAClassStatement n v) Q E s
/-- the question of the hash is answered, somehow -/
def HashBy (P : Program) (w : World) (n : Nat) (s : Shared) (v : Value) : Prop := ∀ (A : Around) (E : Value → Shared → Prop) (Q : Bool → Shared → Prop), (∀ b, Q b s) → wpAny (model P w) A (hashByValue n v) Q E s
theorem NoCls.row {n : Nat} {s : Shared} {b : Addr} {o : Obj} {us : Array Value} {m : Nat} (h1 : s.heap.get? b = some o) (h2 : o.cls = .type "tuple") (h3 : o.data = .seq us m) (hq : ∀ u ∈ us.toList, NoCls P w n s u) : NoCls P w (n + 1) s (.ref b) := fun A E Q h => by
  have ty : s.TypeIs (.ref b) "tuple" := ⟨o, h1, h2⟩
  have same : (("tuple" : String) == "tuple") = true := by decide
  unfold ofAClassStatement
  refine wpAny_bind (wpAny_typeOf ty ?_)
  simp only [same, if_true]
  first | refine wpAny_bind (wpAny_pure ?_) | skip
  simp only [Bool.not_true, Bool.false_eq_true, if_false]
  refine wpAny_bind (wpAny_seqItems h1 h3 ?_)
  refine wpAny_bind ?_
  show wpAny _ _ (forIn us _ _) _ _ s
  rw [← Array.forIn_toList]
  refine wpAny_forIn_list _ (fun more z s' => z.1 = none ∧ s' = s ∧ ∀ u ∈ more, NoCls P w n s u) _ ?_ ?_ _ _ ⟨rfl, rfl, hq⟩
  · rintro u more z s' ⟨hz, rfl, all⟩
    refine wpAny_bind (all u List.mem_cons_self _ _ _ ?_)
    simp only [Bool.false_eq_true, if_false]
    exact wpAny_pure ⟨rfl, rfl, fun y hy => all y (List.mem_cons_of_mem _ hy)⟩
  · rintro ⟨z1, z2⟩ s' ⟨hz, rfl, _⟩
    obtain rfl : z1 = none := hz
    exact wpAny_pure h
theorem HashBy.row {n : Nat} {s : Shared} {b : Addr} {o : Obj} {us : Array Value} {m : Nat} (h1 : s.heap.get? b = some o) (h2 : o.cls = .type "tuple") (h3 : o.data = .seq us m) (hq : ∀ u ∈ us.toList, HashBy P w n s u) : HashBy P w (n + 1) s (.ref b) := fun A E Q h => by
  have ty : s.TypeIs (.ref b) "tuple" := ⟨o, h1, h2⟩
  unfold hashByValue
  refine wpAny_bind (wpAny_specialOf ty F.slot_tuple_hash.lookup ?_)
  show wpAny _ _ (seqItems? (.ref b) >>= _) _ _ s
  refine wpAny_bind (wpAny_seqItems h1 h3 ?_)
  refine wpAny_bind ?_
  show wpAny _ _ (forIn us _ _) _ _ s
  rw [← Array.forIn_toList]
  refine wpAny_forIn_list _ (fun more z s' => z.1 = none ∧ s' = s ∧ ∀ u ∈ more, HashBy P w n s u) _ ?_ ?_ _ _ ⟨rfl, rfl, hq⟩
  · rintro u more z s' ⟨hz, rfl, all⟩
    refine wpAny_bind (all u List.mem_cons_self _ _ _ fun c => ?_)
    cases c with
    | true =>
      simp only [Bool.not_true, Bool.false_eq_true, if_false]
      exact wpAny_pure ⟨rfl, rfl, fun y hy => all y (List.mem_cons_of_mem _ hy)⟩
    | false =>
      simp only [Bool.not_false, if_true]
      exact wpAny_pure (wpAny_pure (h false))
  · rintro ⟨z1, z2⟩ s' ⟨hz, rfl, _⟩
    obtain rfl : z1 = none := hz
    exact wpAny_pure (h true)
mutual
theorem noCls_key : ∀ (k : NestedKey) (v : Value) (n : Nat) (s : Shared), NestedIs s.heap k v → k.depth ≤ n → NoCls P w n s v
  | .none, _, n, s, x, _ => by cases x; intro A E Q h; cases n <;> exact wpAny_pure h
  | .num _, _, n, s, x, _ => by cases x <;> (intro A E Q h; cases n <;> exact wpAny_pure h)
  | .text _, _, n, s, x, _ => by cases x; intro A E Q h; cases n <;> exact wpAny_pure h
  | .tup ks, _, n, s, x, hn => by
    cases x with
    | tup h1 h2 h3 h4 =>
      simp only [NestedKey.depth] at hn
      cases n with
      | zero => omega
      | succ n => exact .row h1 h2 h3 (noCls_keys ks _ n s h4 (by omega))
theorem noCls_keys : ∀ (ks : List NestedKey) (vs : List Value) (n : Nat) (s : Shared), NestedAll s.heap ks vs → NestedKey.depthAll ks ≤ n → ∀ v ∈ vs, NoCls P w n s v
  | [], _, _, _, x, _, v, hv => by cases x; cases hv
  | k :: ks, _, n, s, x, hn, v, hv => by
    cases x with
    | cons x1 x2 =>
      simp only [NestedKey.depthAll] at hn
      rcases List.mem_cons.mp hv with e | hv
      · subst e; exact noCls_key k _ n s x1 (by omega)
      · exact noCls_keys ks _ n s x2 (by omega) v hv
end
mutual
theorem hashBy_key : ∀ (k : NestedKey) (v : Value) (n : Nat) (s : Shared), NestedIs s.heap k v → k.depth ≤ n → HashBy P w n s v
  | .none, _, n, s, x, _ => by cases x; intro A E Q h; cases n <;> exact wpAny_pure (h _)
  | .num _, _, n, s, x, _ => by cases x <;> (intro A E Q h; cases n <;> exact wpAny_pure (h _))
  | .text _, _, n, s, x, _ => by cases x; intro A E Q h; cases n <;> exact wpAny_pure (h _)
  | .tup ks, _, n, s, x, hn => by
    cases x with
    | tup h1 h2 h3 h4 =>
      simp only [NestedKey.depth] at hn
      cases n with
      | zero => omega
      | succ n => exact .row h1 h2 h3 (hashBy_keys ks _ n s h4 (by omega))
theorem hashBy_keys : ∀ (ks : List NestedKey) (vs : List Value) (n : Nat) (s : Shared), NestedAll s.heap ks vs → NestedKey.depthAll ks ≤ n → ∀ v ∈ vs, HashBy P w n s v
  | [], _, _, _, x, _, v, hv => by cases x; cases hv
  | k :: ks, _, n, s, x, hn, v, hv => by
    cases x with
    | cons x1 x2 =>
      simp only [NestedKey.depthAll] at hn
      rcases List.mem_cons.mp hv with e | hv
      · subst e; exact hashBy_key k _ n s x1 (by omega)
      · exact hashBy_keys ks _ n s x2 (by omega) v hv
end
/-- an element: the tuple at the address is this key -/
def El (h : Heap) (p : NestedKey × Addr) : Prop := NestedIs h p.1 (.ref p.2) ∧ p.1.depth ≤ 8
theorem El.at {h h' : Heap} {p : NestedKey × Addr} (x : El h p) (hk : ∀ b o us n, h.get? b = some o → o.data = .seq us n → h'.get? b = some o) : El h' p := ⟨NestedIs.at hk _ _ x.1, x.2⟩
theorem El.but {h h' : Heap} {p : NestedKey × Addr} {a : Addr} {o : Obj} {es : Array (Int × Value)} {ep : Nat} {t : SetTable} (x : El h p) (h1 : h.get? a = some o) (h2 : o.data = .set es ep t) (sb : Heap.SameBut a h h') : El h' p :=
  x.at fun b u us n g1 g2 => (sb.2 b fun e => by subst e; rw [h1] at g1; cases g1; rw [h2] at g2; cases g2).trans g1
/-- a search among such elements shows nothing -/
theorem el_unseen {A : Around} {E : Value → Shared → Prop} {s : Shared} {p : NestedKey × Addr} {Q : Bool → Shared → Prop} (hp : El s.heap p) {ys : List Value} (hy : ∀ y ∈ ys, ∃ p', y = Value.ref p'.2 ∧ El s.heap p') (h : Q false s) :
    wpAny (model P w) A (searchCouldBeSeen (.ref p.2) ys) Q E s := by
  unfold searchCouldBeSeen
  refine wpAny_bind ?_
  refine wpAny_forIn_list _ (fun more z s' => z.1 = none ∧ s' = s ∧ ∀ y ∈ more, ∃ p', y = Value.ref p'.2 ∧ El s.heap p') _ ?_ ?_ _ _ ⟨rfl, rfl, hy⟩
  · rintro y more z s' ⟨hz, rfl, all⟩
    obtain ⟨p', rfl, hp'⟩ := all y List.mem_cons_self
    have left : ∀ y ∈ more, ∃ p', y = Value.ref p'.2 ∧ El s'.heap p' := fun u hu => all u (List.mem_cons_of_mem _ hu)
    dsimp only
    by_cases hv : (p.2 == p'.2 || (carriedByValue (.ref p.2) && carriedByValue (.ref p'.2))) = true
    · exact wp_if_pos hv (wpAny_pure ⟨rfl, rfl, left⟩)
    · refine wp_if_neg hv (wpAny_bind (quiet_key _ _ 8 _ hp.1 hp.2 _ _ _ ?_))
      simp only [Bool.not_true, Bool.false_eq_true, if_false]
      refine wpAny_bind (quiet_key _ _ 8 _ hp'.1 hp'.2 _ _ _ ?_)
      simp only [Bool.not_true, Bool.false_eq_true, if_false]
      refine wpAny_bind (noCls_key _ _ 8 _ hp.1 hp.2 _ _ _ ?_)
      simp only [Bool.false_eq_true, if_false]
      refine wpAny_bind (noCls_key _ _ 8 _ hp'.1 hp'.2 _ _ _ ?_)
      simp only [Bool.false_eq_true, if_false]
      exact wpAny_pure ⟨rfl, rfl, left⟩
  · rintro ⟨z1, z2⟩ s' ⟨hz, rfl, _⟩
    obtain rfl : z1 = none := hz
    exact wpAny_pure h

abbrev hw (w : World) (p : NestedKey × Addr) : Int := p.1.hash w
def rowS (w : World) (L : List (NestedKey × Addr)) : List (Int × Value) := L.map fun p => (hw w p, Value.ref p.2)
structure TabS (w : World) (h : Heap) (a : Addr) (L : List (NestedKey × Addr)) (es : Array (Int × Value)) (ep : Nat) (t : SetTable) : Prop where
  obj : ∃ o, h.get? a = some o ∧ o.ExactSet ∧ o.data = .set es ep t
  row : es.toList = rowS w L
  tab : TabOk t (L.map (hw w))
  ndp : (L.map (·.1)).Nodup
  els : ∀ p ∈ L, El h p
  led : w.params.followText "set-order" = true ∨ t.led = true
  gap : L.length * 5 < t.mask * 3
  few : L.length < 64
section
variable {h : Heap} {a : Addr} {L : List (NestedKey × Addr)} {es : Array (Int × Value)} {ep : Nat} {t : SetTable}
theorem row_len (e : es.toList = rowS w L) : es.size = L.length := by
  have := congrArg List.length e
  rwa [rowS, Array.length_toList, List.length_map] at this
theorem row_at (e : es.toList = rowS w L) {i : Nat} {p : NestedKey × Addr} (hp : L[i]? = some p) : es[i]? = some (hw w p, Value.ref p.2) := by
  have : es.toList[i]? = some (hw w p, Value.ref p.2) := by rw [e, rowS, List.getElem?_map, hp]; rfl
  rwa [Array.getElem?_toList] at this
theorem TabS.fits (R : TabS w h a L es ep t) : t.fits es.size = true := by
  have z1 := R.tab.sz
  have z2 := row_len R.row
  have z3 := R.gap
  rw [List.length_map] at z1
  simp only [SetTable.fits, SetTable.fill, R.tab.dm, Bool.and_eq_true, beq_iff_eq, decide_eq_true_eq]
  exact ⟨by omega, by simp; omega⟩
theorem TabS.gw (R : TabS w h a L es ep t) : ¬ t.gaveWay = true := by
  simp only [SetTable.gaveWay, mask_odd R.tab.mok]
  decide
end
/-- the c-th step of a hash's way -/
abbrev pr (m : Nat) (x : Int) (c : Nat) : SetTable.Probe := nth m (runAt m (SetTable.bits x % (m + 1)) (SetTable.bits x)) c
theorem nth_dummy (m : Nat) : ∀ (n : Nat) (p : SetTable.Probe), p.dummy = none → (nth m p n).dummy = none
  | 0, _, h => h
  | n + 1, p, h => nth_dummy m n (adv m p) (by unfold adv; split <;> exact h)
theorem pr_dummy (m : Nat) (x : Int) (c : Nat) : (pr m x c).dummy = none := nth_dummy m c _ rfl
theorem pr_on (m : Nat) (x : Int) (c d : Nat) : nth m (pr m x c) d = pr m x (c + d) := (nth_add m c _ d).symm
section
variable {A : Around} {E : Value → Shared → Prop} {s : Shared} {a : Addr} {L : List (NestedKey × Addr)} {es : Array (Int × Value)} {ep : Nat} {t : SetTable} {p : NestedKey × Addr}
theorem tab_from (R : TabS w s.heap a L es ep t) (hp : El s.heap p) (hu : A.units + 8 < cLine) {K : Nat} (kf : K < 10 * SetTable.turns t.mask) (kn : way t.mask (hw w p) K ∉ t.place.toList) (kb : ∀ c, c < K → way t.mask (hw w p) c ∈ t.place.toList)
    {Q : SetFound → Shared → Prop} (yes : p.1 ∈ L.map (·.1) → Q (.there none) s) (no : p.1 ∉ L.map (·.1) → Q (.free (way t.mask (hw w p) K) false) s) (f : Nat) :
    ∀ (c : Nat) (stand : Option SetTable.Probe), stand.getD (t.probeStart (hw w p)) = pr t.mask (hw w p) c → c ≤ K → K - c < f →
      (∀ (i : Nat) (p' : NestedKey × Addr), L[i]? = some p' → p'.1 = p.1 → ∃ c', c ≤ c' ∧ c' < K ∧ t.place.toList[i]? = some (way t.mask (hw w p) c')) → wpAny (model P w) A (setSearchFrom a (.ref p.2) (hw w p) true f stand) Q E s := by
  induction f with
  | zero => intro c stand _ _ z; exact absurd z (Nat.not_lt_zero _)
  | succ f ih =>
    intro c stand at_ ck fuel near
    obtain ⟨o, g1, g2, g3⟩ := R.obj
    rw [setSearchFrom_succ]
    refine wpAny_bind (wpAny_setState_of g1 g3 R.fits ?_)
    dsimp only
    refine wp_if_neg R.gw ?_
    try refine wpAny_bind (wpAny_pure ?_)
    have ways : ∀ d, (nth t.mask (pr t.mask (hw w p) c) d).j = way t.mask (hw w p) (c + d) := fun d => congrArg SetTable.Probe.j (pr_on _ _ c d)
    have told : ∀ (i : Nat) (p' : NestedKey × Addr), L[i]? = some p' → (fun i => (es[i]?.map (·.1)).getD 0) i = hw w p' := fun i p' z => by
      show (es[i]?.map (·.1)).getD 0 = _
      rw [row_at R.row z]
      rfl
    have spec := go_spec t R.tab.ris R.tab.dm (fun i => (es[i]?.map (·.1)).getD 0) (hw w p) (10 * SetTable.turns t.mask) (K - c) _ (pr_dummy t.mask (hw w p) c) (by omega)
      (fun d hd => by rw [ways]; exact kb _ (by omega)) (by rw [ways, Nat.add_sub_of_le ck]; exact kn)
    rcases spec with ⟨d, i, hd, hi, hh, away, met⟩ | ⟨away, met⟩
    · have met' : t.probe (fun i => (es[i]?.map (·.1)).getD 0) (hw w p) (stand.getD (t.probeStart (hw w p))) = some (.candidate (way t.mask (hw w p) (c + d)) i (pr t.mask (hw w p) (c + (d + 1)))) := by
        rw [at_, ← ways, ← pr_on]
        exact met
      rw [met']
      dsimp only
      rw [ways] at hi
      have il : i < L.length := by
        have z1 : i < t.place.toList.length := (List.getElem?_eq_some_iff.mp hi).1
        have z2 := R.tab.sz
        rw [List.length_map] at z2
        rw [Array.length_toList] at z1
        omega
      obtain ⟨e, he⟩ : ∃ e, L[i]? = some e := ⟨_, List.getElem?_eq_getElem il⟩
      have hm : e ∈ L := List.mem_of_getElem? he
      have live := slot_live R.tab.ris hi
      have go : wpAny (model P w) A (searchRest a (.ref p.2) (hw w p) true f es t (way t.mask (hw w p) (c + d)) i (pr t.mask (hw w p) (c + (d + 1)))) Q E s := by
        unfold searchRest
        rw [row_at R.row he]
        dsimp only
        refine wpAny_bind (wpAny_holding ((nestedKind P w).eqBool hu (R.els e hm) hp ?_))
        refine wpAny_bind (wpAny_setState_of g1 g3 R.fits ?_)
        dsimp only
        by_cases same : e.1 = p.1
        · exact wp_if_pos (by simp [same]) (wpAny_pure (yes (List.mem_map.mpr ⟨e, hm, same⟩)))
        · refine wp_if_neg (by simp [same]) ?_
          try refine wpAny_bind (wpAny_pure ?_)
          rw [sameMem]
          dsimp only
          simp only [if_true, live, row_at R.row he]
          refine wpAny_bind (wpAny_isSame_ref_self (wpAny_bind (wpAny_pure ?_)))
          simp only [if_true]
          refine wp_if_neg (by simp [same]) (ih (c + (d + 1)) _ rfl (by omega) (by omega) fun i' p' hp' hk => ?_)
          obtain ⟨c', b1, b2, b3⟩ := near i' p' hp' hk
          refine ⟨c', ?_, b2, b3⟩
          rcases Nat.lt_trichotomy c' (c + d) with z | z | z
          · refine absurd ?_ (away (c' - c) i' (by omega) (by rw [ways, Nat.add_sub_of_le b1]; exact b3))
            exact (told i' p' hp').trans (congrArg (NestedKey.hash w) hk)
          · subst z
            have live' := slot_live R.tab.ris b3
            rw [live] at live'
            injection live' with z
            subst z
            rw [he] at hp'
            cases hp'
            exact absurd hk same
          · omega
      by_cases hl : t.led = true
      · refine wp_if_neg (by simp [hl]) ?_
        try refine wpAny_bind (wpAny_pure ?_)
        exact go
      · refine wp_if_pos (by simp [hl]) (wpAny_bind (el_unseen hp (fun y hy => ?_) ?_))
        · obtain ⟨r, hr, rfl⟩ := List.mem_map.mp hy
          have hr2 : r ∈ es.toList := by
            have : r ∈ es ∧ r.1 = hw w p := by simpa using hr
            simpa using this.1
          rw [R.row] at hr2
          obtain ⟨p', hp', rfl⟩ := List.mem_map.mp hr2
          exact ⟨p', rfl, R.els p' hp'⟩
        · refine wp_if_neg (by decide) ?_
          try refine wpAny_bind (wpAny_pure ?_)
          exact go
    · have met' : t.probe (fun i => (es[i]?.map (·.1)).getD 0) (hw w p) (stand.getD (t.probeStart (hw w p))) = some (.empty (way t.mask (hw w p) K) none) := by
        have z : way t.mask (hw w p) K = (nth t.mask (pr t.mask (hw w p) c) (K - c)).j := by rw [ways, Nat.add_sub_of_le ck]
        rw [at_, z]
        exact met
      rw [met']
      dsimp only
      refine wpAny_pure (no fun hm => ?_)
      obtain ⟨p', hp', hk⟩ := List.mem_map.mp hm
      obtain ⟨i', hi', e'⟩ := List.getElem_of_mem hp'
      have at' : L[i']? = some p' := by rw [List.getElem?_eq_getElem hi', e']
      obtain ⟨c', b1, b2, b3⟩ := near i' p' at' hk
      refine away (c' - c) i' (by omega) (by rw [ways, Nat.add_sub_of_le b1]; exact b3) ?_
      exact (told i' p' at').trans (congrArg (NestedKey.hash w) hk)
/-- the search as adding asks for it -/
theorem tab_search (R : TabS w s.heap a L es ep t) (hp : El s.heap p) (hu : A.units + 8 < cLine) {Q : SetFound → Shared → Prop} (yes : p.1 ∈ L.map (·.1) → Q (.there none) s)
    (no : ∀ K, p.1 ∉ L.map (·.1) → way t.mask (hw w p) K ∉ t.place.toList → (∀ c, c < K → way t.mask (hw w p) c ∈ t.place.toList) → Q (.free (way t.mask (hw w p) K) false) s) :
    wpAny (model P w) A (setSearch a (.ref p.2) (hw w p) true) Q E s := by
  obtain ⟨K, kf, kn, kb⟩ := R.tab.first (by have := R.gap; rw [List.length_map]; omega) (hw w p)
  have small : K < 100000 := by
    have : 10 * SetTable.turns t.mask ≤ 1420 := by
      simp only [SetTable.turns]
      rcases R.tab.mok with z | z | z <;> omega
    omega
  unfold setSearch
  refine tab_from R hp hu kf kn kb yes (fun z => no K z kn kb) 100000 0 none rfl (Nat.zero_le _) (by omega) fun i p' hp' hk => ?_
  have hi : (L.map (hw w))[i]? = some (hw w p) := by
    rw [List.getElem?_map, hp']
    exact congrArg some (congrArg (NestedKey.hash w) hk)
  have il : i < t.place.toList.length := by
    have z1 : i < L.length := (List.getElem?_eq_some_iff.mp hp').1
    have z2 := R.tab.sz
    rw [List.length_map] at z2
    rw [Array.length_toList]
    omega
  have pl := List.getElem?_eq_getElem il
  obtain ⟨c, hc, e⟩ := R.tab.before kn hi pl
  exact ⟨c, Nat.zero_le _, hc, by rw [pl, e]⟩
/-- the elements in another order -/
theorem row_order {order : Array Nat} (e : es.toList = rowS w L) (hp : order.toList.Perm (List.range L.length)) :
    ∃ L', (order.filterMap (es[·]?)).toList = rowS w L' ∧ L'.Perm L ∧ L'.map (hw w) = order.toList.map fun i => (es.map (·.1)).getD i 0 := by
  have size := row_len e
  have pick : ∀ l : List Nat, (∀ i ∈ l, i < L.length) → l.filterMap (fun i => es[i]?) = rowS w (l.filterMap fun i => L[i]?) ∧ (l.filterMap fun i => L[i]?).map (hw w) = l.map fun i => (es.map (·.1)).getD i 0 := fun l => by
    induction l with
    | nil => exact fun _ => ⟨rfl, rfl⟩
    | cons i l ih =>
      intro all
      obtain ⟨e1, e2⟩ := ih fun j hj => all j (List.mem_cons_of_mem _ hj)
      have il := all i List.mem_cons_self
      obtain ⟨q, hq⟩ : ∃ q, L[i]? = some q := ⟨_, List.getElem?_eq_getElem il⟩
      have ent := row_at e hq
      rw [List.filterMap_cons_some ent, List.filterMap_cons_some hq, e1, List.map_cons, List.map_cons, e2]
      refine ⟨rfl, ?_⟩
      have : (es.map (·.1))[i]? = some (hw w q) := by rw [Array.getElem?_map, ent]; rfl
      simp [Array.getD_eq_getD_getElem?, this]
  obtain ⟨e1, e2⟩ := pick order.toList fun i hi => List.mem_range.mp (hp.mem_iff.mp hi)
  refine ⟨_, by simpa using e1, ?_, e2⟩
  refine (hp.filterMap _).trans ?_
  have whole : ∀ n, n ≤ L.length → (List.range n).filterMap (fun i => L[i]?) = L.take n := fun n => by
    induction n with
    | zero => exact fun _ => rfl
    | succ n ih =>
      intro hn
      have q := List.getElem?_eq_getElem (show n < L.length from hn)
      rw [List.range_succ, List.filterMap_append, ih (by omega), List.take_succ, q, List.filterMap_cons_some q]
      rfl
  rw [whole _ (Nat.le_refl _), List.take_length]
/-- the table laid anew, larger -/
theorem tab_relay {o : Obj} (g1 : s.heap.get? a = some o) (g2 : o.ExactSet) (g3 : o.data = .set es ep t) (rw_ : es.toList = rowS w L) (pl : t.place.size = es.size) (dm : t.dummies = #[]) (fl : es.size ≤ t.mask) (nd : (L.map (·.1)).Nodup) (els : ∀ p ∈ L, El s.heap p)
    (led : w.params.followText "set-order" = true ∨ t.led = true) (few : L.length < 64) {wanted M : Nat} (hW : SetTable.sizeAbove wanted - 1 = M) (hM : MaskOk M) (hz : SetTable.sizeAbove wanted ≤ 128) (gap : L.length * 5 < M * 3) {Q : Unit → Shared → Prop}
    (hQ : ∀ h' L' es' ep' t', Heap.SameBut a s.heap h' → TabS w h' a L' es' ep' t' → L'.Perm L → Q () { s with heap := h' }) : wpAny (model P w) A (setRelay a wanted) Q E s := by
  have size := row_len rw_
  have fits : t.fits es.size = true := by
    simp only [SetTable.fits, SetTable.fill, dm, Bool.and_eq_true, beq_iff_eq, decide_eq_true_eq]
    exact ⟨pl, by simp; omega⟩
  obtain ⟨t', order, q1, q2, q3, q4, q5, q6, q7⟩ := relaid_ok t (hs := es.map (·.1)) (wanted := wanted) hW hM (by rw [Array.size_map]; omega)
  rw [Array.size_map, size] at q2
  obtain ⟨L', r1, r2, r3⟩ := row_order rw_ q2
  rw [← r3] at q3
  have size' : (order.filterMap (es[·]?)).size = es.size := by rw [row_len r1, r2.length_eq, size]
  have sl := sizeLine_eq
  rw [setRelay_eq]
  refine wpAny_bind (wpAny_setState_of g1 g3 fits ?_)
  dsimp only
  refine wp_if_neg (by omega) ?_
  try refine wpAny_bind (wpAny_pure ?_)
  rw [q1]
  dsimp only
  refine wpAny_bind (wp_if_neg (by rw [size']; simp) ?_)
  try refine wpAny_bind (wpAny_pure ?_)
  refine wpAny_pure ?_
  dsimp only
  refine wpAny_storeSet_of g1 g3 ?_ (by omega)
  have sb : Heap.SameBut a s.heap (s.heap.update a (Obj.putSet (order.filterMap (es[·]?)) t')) := Heap.SameBut.update ..
  refine hQ _ L' _ (ep + 1) t' sb ⟨⟨_, store_at g1 g3, ⟨g2.1, g2.2.1, g2.2.2⟩, rfl⟩, r1, q3, (r2.map (·.1)).nodup_iff.mpr nd, fun p hp => (els p (r2.mem_iff.mp hp)).but g1 g3 sb, by rw [q5]; exact led, ?_, by rw [r2.length_eq]; exact few⟩ r2
  rw [r2.length_eq, q4]
  exact gap
/-- one more is put in -/
theorem tab_add (R : TabS w s.heap a L es ep t) (hp : El s.heap p) (hu : A.units + 8 < cLine) (few : L.length + 1 < 64) {Q : Bool → Shared → Prop}
    (hQ : ∀ b h' L' es' ep' t', Heap.SameBut a s.heap h' → TabS w h' a L' es' ep' t' → (p.1 ∈ L.map (·.1) → L' = L) → (p.1 ∉ L.map (·.1) → L'.Perm (p :: L)) → Q b { s with heap := h' }) :
    wpAny (model P w) A (setAddHashed a (.ref p.2) (hw w p)) Q E s := by
  obtain ⟨o, g1, g2, g3⟩ := R.obj
  have size := row_len R.row
  have gap := R.gap
  have sl := sizeLine_eq
  unfold setAddHashed
  refine wpAny_holding ?_
  rw [show (100000 : Nat) = 99999 + 1 from rfl, setAddHashedIn_succ]
  refine wpAny_bind (wpAny_setState_of g1 g3 R.fits ?_)
  dsimp only
  refine wp_if_neg (by simp [byScan, Value.scannable]) ?_
  try refine wpAny_bind (wpAny_pure ?_)
  refine wpAny_bind (tab_search R hp hu (fun hm => ?_) fun K hm hK hb => ?_)
  · dsimp only
    exact wpAny_pure (hQ false s.heap L es ep t (Heap.SameBut.refl a s.heap) R (fun _ => rfl) fun z => absurd hm z)
  dsimp only
  refine wpAny_bind (wpAny_setState_of g1 g3 R.fits ?_)
  dsimp only
  obtain ⟨q1, q2, q3, q4, q5, q6, q7, q8, q9⟩ := R.tab.put hK hb
  generalize hpt : t.put (way t.mask (hw w p) K) = pt at q1 q3 q4 q5 q6 q7 q8 q9 ⊢
  obtain ⟨t1, j⟩ := pt
  dsimp only at q1 q3 q4 q5 q6 q7 q8 q9 ⊢
  subst q1
  have new : (SetTable.insertAt es (SetTable.below t.place (way t.mask (hw w p) K)) (hw w p, Value.ref p.2)).toList = rowS w (L.take (SetTable.below t.place (way t.mask (hw w p) K)) ++ p :: L.drop (SetTable.below t.place (way t.mask (hw w p) K))) := by
    rw [SetTable.toList_insertAt, R.row]
    simp only [rowS, List.map_append, List.map_cons, List.map_take, List.map_drop]
  generalize hj : SetTable.below t.place (way t.mask (hw w p) K) = j at q2 q3 new ⊢
  have pm := put_perm L j p
  have tab1 : TabOk t1 ((L.take j ++ p :: L.drop j).map (hw w)) := by
    rw [List.map_append, List.map_cons, List.map_take, List.map_drop]
    exact q3
  generalize SetTable.insertAt es j (hw w p, Value.ref p.2) = es1 at new ⊢
  generalize L.take j ++ p :: L.drop j = L1 at pm tab1 new
  have len1 : L1.length = L.length + 1 := pm.length_eq
  have size1 := row_len new
  have nd1 : (L1.map (·.1)).Nodup := (pm.map (·.1)).nodup_iff.mpr (by rw [List.map_cons]; exact List.nodup_cons.mpr ⟨hm, R.ndp⟩)
  have led1 : w.params.followText "set-order" = true ∨ t1.led = true := by rw [q5]; exact R.led
  /- whatever is told of the hash -/
  have rest : ∀ t2 : SetTable, TabOk t2 (L1.map (hw w)) → t2.mask = t.mask → t2.led = t1.led → t2.place = t1.place → t2.dummies = t1.dummies → wpAny (model P w) A (do
        storeSet a es1 t2
        if (!false && t2.tooFull) = true then do
            setRelay a (SetTable.grown (es.size + 1))
            pure true
          else pure true) Q E s := fun t2 tab2 m2 l2 p2 d2 => by
    refine wpAny_bind (wpAny_storeSet_of g1 g3 ?_ (by omega))
    have sb : Heap.SameBut a s.heap (s.heap.update a (Obj.putSet es1 t2)) := Heap.SameBut.update ..
    have k1 := store_at (es' := es1) (t' := t2) g1 g3
    generalize s.heap.update a (Obj.putSet es1 t2) = h1 at sb k1 ⊢
    have els1 : ∀ q ∈ L1, El h1 q := fun q hq => by
      rcases List.mem_cons.mp (pm.mem_iff.mp hq) with e | hq
      · subst e; exact hp.but g1 g3 sb
      · exact (R.els q hq).but g1 g3 sb
    have fill2 : t2.fill = L1.length := by
      have := tab2.sz
      rw [List.length_map] at this
      simp only [SetTable.fill, tab2.dm]
      simp [this]
    by_cases full : t2.tooFull = true
    · have much : (L.length + 1) * 5 ≥ t.mask * 3 := by
        have := full
        simp only [SetTable.tooFull, decide_eq_true_eq, fill2, len1, m2] at this
        exact this
      have two : (t.mask = 7 ∧ L.length = 4) ∨ (t.mask = 31 ∧ L.length = 18) := by
        rcases R.tab.mok with e | e | e
        · exact .inl ⟨e, by rw [e] at much gap; omega⟩
        · exact .inr ⟨e, by rw [e] at much gap; omega⟩
        · rw [e] at much; omega
      have go : ∀ M, SetTable.sizeAbove (SetTable.grown (L.length + 1)) - 1 = M → MaskOk M → SetTable.sizeAbove (SetTable.grown (L.length + 1)) ≤ 128 → (L.length + 1) * 5 < M * 3 →
          wpAny (model P w) A (setRelay a (SetTable.grown (es.size + 1))) (fun _ s' => wpAny (model P w) A (pure true) Q E s') E { s with heap := h1 } := fun M z1 z2 z3 z4 => by
        rw [size]
        refine tab_relay (s := { s with heap := h1 }) k1 ⟨g2.1, g2.2.1, g2.2.2⟩ rfl new (by rw [size1]; have := tab2.sz; rwa [List.length_map] at this) tab2.dm (by rw [size1, len1, m2]; rcases two with ⟨e, e2⟩ | ⟨e, e2⟩ <;> omega) nd1 els1 (by rw [l2]; exact led1) (by rw [len1]; exact few) z1 z2 z3 (by rw [len1]; exact z4) ?_
        exact fun h2 L2 es2 ep2 t3 sb2 R2 pm2 => wpAny_pure (hQ true h2 L2 es2 ep2 t3 (sb.trans sb2) R2 (fun z => absurd z hm) fun _ => pm2.trans pm)
      refine wp_if_pos (by simp [full]) (wpAny_bind ?_)
      rcases two with ⟨_, e⟩ | ⟨_, e⟩
      · exact go 31 (by rw [e, size_20]) (.inr (.inl rfl)) (by rw [e, size_20]; decide) (by omega)
      · exact go 127 (by rw [e, size_76]) (.inr (.inr rfl)) (by rw [e, size_76]; decide) (by omega)
    · refine wp_if_neg (by simp [full]) (wpAny_pure ?_)
      refine (hQ true h1 L1 es1 (ep + 1) t2 sb ⟨⟨_, k1, ⟨g2.1, g2.2.1, g2.2.2⟩, rfl⟩, new, tab2, nd1, els1, by rw [l2]; exact led1, ?_, by rw [len1]; exact few⟩ (fun z => absurd z hm) fun _ => pm)
      have := full
      simp only [SetTable.tooFull, decide_eq_true_eq, fill2, len1, m2] at this
      rw [len1, m2]
      omega
  have off : TabOk { t1 with plain := false } (L1.map (hw w)) := ⟨tab1.ris, tab1.dm, tab1.sz, tab1.mok, tab1.bd, tab1.reach⟩
  have both : ∀ b : Bool, wpAny (model P w) A (do
        storeSet a es1 (if b = true then t1 else { t1 with plain := false })
        if (!false && (if b = true then t1 else { t1 with plain := false }).tooFull) = true then do
            setRelay a (SetTable.grown (es.size + 1))
            pure true
          else pure true) Q E s := fun b => by
    cases b with
    | true => exact rest t1 tab1 q4 rfl rfl rfl
    | false => exact rest { t1 with plain := false } off q4 rfl rfl rfl
  by_cases hpl : t1.plain = true
  · exact wp_if_pos hpl (wpAny_bind (hashBy_key _ _ 8 _ hp.1 hp.2 _ _ _ both))
  · exact wp_if_neg hpl (wpAny_bind (wpAny_pure (both true)))
end
end
end TL
namespace TL
open PySem PySem.Spec PyProof.Rows L2
theorem perm_map {α β : Type} (f : α → β) {l m : List β} (p : l.Perm m) : ∀ L : List α, m = L.map f → ∃ L' : List α, L'.Perm L ∧ l = L'.map f := by
  induction p with
  | nil => exact fun L e => ⟨L, .refl _, e⟩
  | cons x _ ih =>
    intro L e
    cases L with
    | nil => cases e
    | cons y L =>
      rw [List.map_cons] at e
      injection e with e1 e2
      obtain ⟨L', p', e'⟩ := ih L e2
      exact ⟨y :: L', p'.cons y, by rw [List.map_cons, e1, e']⟩
  | swap x y l =>
    intro L e
    match L with
    | [] => cases e
    | [_] => cases e
    | u :: v :: L =>
      rw [List.map_cons, List.map_cons] at e
      injection e with e1 e2
      injection e2 with e2 e3
      exact ⟨v :: u :: L, .swap _ _ _, by rw [List.map_cons, List.map_cons, e1, e2, e3]⟩
  | trans _ _ ih1 ih2 =>
    intro L e
    obtain ⟨L1, p1, e1⟩ := ih2 L e
    obtain ⟨L2, p2, e2⟩ := ih1 L1 e1
    exact ⟨L2, p2.trans p1, e2⟩

section
variable {P : Program} {w : World} {A : Around} {E : Value → Shared → Prop} {s : Shared}
abbrev mk (P : Program) (w : World) := mixKind P w
def rowK (P : Program) (w : World) (p : Key × Value) : Int × Value := ((mk P w).hash p.1, p.2)
def Sc (P : Program) (w : World) (p : Key × Value) : Prop := (mk P w).is p.1 p.2 = true ∧ p.2.scannable = true
structure ScanS (P : Program) (w : World) (h : Heap) (a : Addr) (L : List (Key × Value)) (es : Array (Int × Value)) (ep : Nat) (t : SetTable) : Prop where
  obj : ∃ o, h.get? a = some o ∧ o.ExactSet ∧ o.data = .set es ep t
  row : es.toList = L.map (rowK P w)
  els : ∀ p ∈ L, Sc P w p
  ndp : (L.map (·.1)).Nodup
  few : L.length < scanBound
  fits : t.fits es.size = true
  ris : Ris t.place.toList
  led : w.params.followText "set-order" = true ∨ t.led = true
variable {a : Addr} {L : List (Key × Value)} {es : Array (Int × Value)} {ep : Nat} {t : SetTable} {p : Key × Value}
theorem scan_len (e : es.toList = L.map (rowK P w)) : es.size = L.length := by
  have := congrArg List.length e
  rwa [Array.length_toList, List.length_map] at this
theorem scan_els (e : es.toList = L.map (rowK P w)) (h : ∀ p ∈ L, Sc P w p) : ElemsOf (mk P w) es.toList := fun x hx => by
  rw [e] at hx
  obtain ⟨q, hq, rfl⟩ := List.mem_map.mp hx
  exact ⟨⟨q.1, (h q hq).1, rfl⟩, (h q hq).2⟩
/-- what is laid down behind a new element -/
theorem scan_tail {g : Bool → Sem Unit} (hg : ∀ (b : Bool) (s₁ : Shared) (Q' : Unit → Shared → Prop), Q' () s₁ → wpAny (model P w) A (g b) Q' E s₁) {o : Obj} (g1 : s.heap.get? a = some o) (g2 : o.ExactSet) (g3 : o.data = .set es ep t)
    {es1 : Array (Int × Value)} {t1 : SetTable} {L1 : List (Key × Value)} (row : es1.toList = L1.map (rowK P w)) (els : ∀ p ∈ L1, Sc P w p) (nd : (L1.map (·.1)).Nodup) (few : L1.length < scanBound) (fits : t1.fits es1.size = true) (ris : Ris t1.place.toList)
    (led : w.params.followText "set-order" = true ∨ t1.led = true) {dm : Bool} {R : Option Bool → Shared → Prop}
    (hR : ∀ h' L' es' ep' t', Heap.SameBut a s.heap h' → ScanS P w h' a L' es' ep' t' → L'.Perm L1 → R (some true) { s with heap := h' }) :
    wpAny (model P w) A (do
        storeSet a es1 t1
        if (!dm && t1.tooFull) = true then do
            g (relayAll t1 es1 (SetTable.grown es1.size)).2.2
            storeSet a (relayAll t1 es1 (SetTable.grown es1.size)).1 (relayAll t1 es1 (SetTable.grown es1.size)).2.1
            pure (some true)
          else pure (some true)) R E s := by
  have size := scan_len row
  refine wpAny_bind (wpAny_storeSet_of g1 g3 ?_ (fits_of_scanBound (by omega)))
  have k1 := store_at (es' := es1) (t' := t1) g1 g3
  have sb := Heap.SameBut.update s.heap a (Obj.putSet es1 t1)
  split
  · have pm := relayAll_perm t1 es1 (SetTable.grown es1.size)
    have f2 := relayAll_fits t1 es1 (SetTable.grown es1.size)
    have r2 := relayAll_ris t1 es1 (SetTable.grown es1.size)
    have l2 := relayAll_led t1 es1 (SetTable.grown es1.size)
    generalize relayAll t1 es1 (SetTable.grown es1.size) = Z at pm f2 r2 l2 ⊢
    obtain ⟨es2, t2, gave⟩ := Z
    dsimp only at pm f2 r2 l2 ⊢
    obtain ⟨L2, p2, e2⟩ := perm_map _ pm L1 row
    have size2 := scan_len e2
    have len2 := p2.length_eq
    refine wpAny_bind (hg _ _ _ (wpAny_bind (wpAny_storeSet_of k1 rfl ?_ (fits_of_scanBound (by omega)))))
    have k2 := store_at (es' := es2) (t' := t2) k1 rfl
    exact wpAny_pure (hR _ L2 es2 _ t2 (sb.trans (Heap.SameBut.update _ a _)) ⟨⟨_, k2, g2, rfl⟩, e2, fun q hq => els q (p2.mem_iff.mp hq), (p2.map (·.1)).nodup_iff.mpr nd, by omega, f2, r2, led.imp id fun z => by rw [l2]; exact z⟩ p2)
  · exact wpAny_pure (hR _ L1 es1 _ t1 sb ⟨⟨_, k1, g2, rfl⟩, row, els, nd, few, fits, ris, led⟩ (.refl _))
/-- one more is put in -/
theorem scan_add (R : ScanS P w s.heap a L es ep t) (hp : Sc P w p) (few : L.length + 1 < scanBound) {Q : Bool → Shared → Prop}
    (hQ : ∀ b h' L' es' ep' t', Heap.SameBut a s.heap h' → ScanS P w h' a L' es' ep' t' → (p.1 ∈ L.map (·.1) → L' = L) → (p.1 ∉ L.map (·.1) → L'.Perm (p :: L)) → Q b { s with heap := h' }) :
    wpAny (model P w) A (setAddHashed a p.2 ((mk P w).hash p.1)) Q E s := by
  obtain ⟨o, g1, g2, g3⟩ := R.obj
  have size := scan_len R.row
  have els := scan_els R.row R.els
  unfold setAddHashed setAddHashedIn
  refine wpAny_holding (wpAny_bind (wpAny_setState_of g1 g3 R.fits ?_))
  dsimp only
  rw [byScan_of hp.2 (by rw [size]; exact R.few) els]
  simp only [↓reduceIte]
  unfold setAddByScan
  refine wpAny_bind (wpAny_bind (wpAny_rule (wpAny_bind (wpAny_setScan_of hp.1 g1 g3 R.fits els ?_))))
  have same : ∀ q ∈ L, (mk P w).is p.1 q.2 = true → q.1 = p.1 := fun q hq z => (mk P w).inj q.2 _ _ (R.els q hq).1 z
  cases hf : List.findIdx? (fun e => (mk P w).is p.1 e.2) es.toList with
  | some j =>
    dsimp only
    obtain ⟨hj, pj, _⟩ := List.findIdx?_eq_some_iff_getElem.mp hf
    have hm : es.toList[j] ∈ L.map (rowK P w) := by rw [← R.row]; exact List.getElem_mem hj
    obtain ⟨q, hq, e⟩ := List.mem_map.mp hm
    rw [← e] at pj
    have there : p.1 ∈ L.map (·.1) := List.mem_map.mpr ⟨q, hq, same q hq pj⟩
    exact wpAny_pure (wpAny_pure (hQ false s.heap L es ep t (Heap.SameBut.refl a s.heap) R (fun _ => rfl) fun z => absurd there z))
  | none =>
    dsimp only
    have new : p.1 ∉ L.map (·.1) := fun z => by
      obtain ⟨q, hq, e⟩ := List.mem_map.mp z
      have c := List.findIdx?_eq_none_iff.mp hf (rowK P w q) (by rw [R.row]; exact List.mem_map.mpr ⟨q, hq, rfl⟩)
      rw [← e] at c
      have c2 : (mk P w).is q.1 q.2 = false := c
      rw [(R.els q hq).1] at c2
      cases c2
    have hgw : ∀ (b : Bool) {s₁ : Shared} {Q' : Unit → Shared → Prop}, Q' () s₁ → wpAny (model P w) A (match b with | true => rule "set.scan.the-table-gave-way" | false => pure ()) Q' E s₁ := fun b s₁ Q' z => by
      cases b
      · exact wpAny_pure z
      · exact wpAny_rule z
    have pm := layNew_perm t es ((mk P w).hash p.1) p.2
    have f1 := layNew_fits t es ((mk P w).hash p.1) p.2
    have r1 := layNew_ris t es ((mk P w).hash p.1) p.2 R.ris
    have l1 := layNew_led t es ((mk P w).hash p.1) p.2
    generalize layNew t es ((mk P w).hash p.1) p.2 = Z at pm f1 r1 l1 ⊢
    obtain ⟨es1, t1, dm, gave⟩ := Z
    dsimp only at pm f1 r1 l1 ⊢
    rw [Array.toList_push, R.row] at pm
    obtain ⟨L1, p1, e1⟩ := perm_map (rowK P w) (pm.trans (List.perm_append_singleton _ _)) (p :: L) rfl
    have len1 : L1.length = L.length + 1 := p1.length_eq
    have els1 : ∀ q ∈ L1, Sc P w q := fun q hq => by
      rcases List.mem_cons.mp (p1.mem_iff.mp hq) with z | z
      · subst z; exact hp
      · exact R.els q z
    have nd1 : (L1.map (·.1)).Nodup := (p1.map (·.1)).nodup_iff.mpr (List.nodup_cons.mpr ⟨new, R.ndp⟩)
    have led1 : w.params.followText "set-order" = true ∨ t1.led = true := R.led.imp id fun z => by rw [l1]; exact z
    have fin : ∀ h' L' es' ep' t', Heap.SameBut a s.heap h' → ScanS P w h' a L' es' ep' t' → L'.Perm L1 → Q true { s with heap := h' } := fun h' L' es' ep' t' sb r pm' => hQ true h' L' es' ep' t' sb r (fun z => absurd z new) fun _ => pm'.trans p1
    refine wpAny_bind (hgw _ ?_)
    split
    · refine wpAny_bind ?_
      rw [hashByValue_scannable 8 hp.2]
      refine wpAny_pure (scan_tail ?_ g1 g2 g3 e1 els1 nd1 (by omega) ?_ ?_ ?_ ?_)
      · intro b s₁ Q' z; cases b <;> first | exact wpAny_pure z | exact wpAny_rule z
      · split
        · exact f1
        · exact SetTable.fits_plain_off f1
      · split <;> exact r1
      · split <;> exact led1
      · exact fun h' L' es' ep' t' sb r pm' => wpAny_pure (fin h' L' es' ep' t' sb r pm')
    · refine wpAny_bind (wpAny_pure ?_)
      simp only [↓reduceIte]
      refine scan_tail ?_ g1 g2 g3 e1 els1 nd1 (by omega) f1 r1 led1 ?_
      · intro b s₁ Q' z; cases b <;> first | exact wpAny_pure z | exact wpAny_rule z
      · exact fun h' L' es' ep' t' sb r pm' => wpAny_pure (fin h' L' es' ep' t' sb r pm')
end
end TL
namespace TL
open PySem PySem.Spec PyProof.Rows L2
section
variable {P : Program} {w : World} {A : Around} {E : Value → Shared → Prop} {s : Shared}
abbrev newSet (w : World) : Obj := { cls := .type "set", dict := none, data := .set #[] 0 (.fresh 0 0 (!w.params.followText "set-order")) }
/-- how a set at S is filled: Bag i h: it holds the first i things; h0: what stays -/
structure Fills (P : Program) (w : World) (U : Nat) (S : Addr) (h0 : Heap) (n : Nat) (Pv : Nat → Value → Prop) (Bag : Nat → Heap → Prop) : Prop where
  keep : ∀ i h h', Bag i h → (∀ o, h.get? S = some o → h'.get? S = some o) → (∀ b o, h0.get? b = some o → h'.get? b = some o) → Bag i h'
  step : ∀ (A : Around) (i : Nat) (v : Value) (s : Shared) (Q : Bool → Shared → Prop) (E : Value → Shared → Prop), A.units ≤ U → i < n → Pv i v → Bag i s.heap → (∀ b o, h0.get? b = some o → s.heap.get? b = some o) →
    (∀ b h' tk, s.toks ≤ tk → Heap.SameBut S s.heap h' → Bag (i + 1) h' → Q b { s with heap := h', toks := tk }) → wpAny (model P w) A (setAdd S v) Q E s
theorem fill_loop {I : Addr} {fp wr : List Addr} {G : Array GenState → Array GenState → Prop} {n U : Nat} {Pv : Nat → Value → Prop} {St : Nat → Shared → Prop} {R : Result → Shared → Prop} (W : WalksS P w A.in1 I fp wr G n Pv St) {S : Addr} {h0 : Heap} {Bag : Nat → Heap → Prop}
    (FF : Fills P w U S h0 n Pv Bag) (hS : S ∉ fp) (nS : h0.get? S = none) (nw : ∀ b ∈ wr, h0.get? b = none) (hU : A.in1.units ≤ U) (left : Nat) :
    ∀ (i : Nat) (s : Shared), n - i = left → i ≤ n → St i s → (∀ b o, h0.get? b = some o → s.heap.get? b = some o) → Bag i s.heap →
      (∀ s', Moved (S :: wr) G s s' → Bag n s'.heap → (∀ b o, h0.get? b = some o → s'.heap.get? b = some o) → R (.ok (.ret .none)) s') → codeAny (model P w) A (.builtin "set.update.loop" ⟨[.ref S, .ref I], []⟩) R s := by
  have nSw : S ∉ wr := fun z => hS (W.sub _ z)
  have more : ∀ b ∈ wr, b ∈ S :: wr := fun b => List.mem_cons_of_mem S
  have stay : ∀ {x y : Shared}, Moved wr G x y → (∀ b o, h0.get? b = some o → x.heap.get? b = some o) → ∀ b o, h0.get? b = some o → y.heap.get? b = some o := fun mv old b o z =>
    mv.heap b o (fun hb => by rw [nw b hb] at z; cases z) (old b o z)
  induction left with
  | zero =>
    intro i s hl hi st old bag hR
    obtain rfl : i = n := by omega
    refine codeAny_builtin F.entry_set_update_loop ?_
    rw [Around.under_plainId F.plain_set_update_loop _]
    show wpAny _ A.in1 (pyNext (.ref I) >>= _) _ _ s
    refine wpAny_bind (W.done s _ _ st fun s' mv => ?_)
    show wpAny _ A.in1 (ret Value.none) _ _ s'
    exact wpAny_pure (hR s' (mv.mono more) (FF.keep _ _ _ bag (fun o z => mv.heap S o nSw z) (stay mv old)) (stay mv old))
  | succ left ih =>
    intro i s hl hi st old bag hR
    have lt : i < n := by omega
    refine codeAny_builtin F.entry_set_update_loop ?_
    rw [Around.under_plainId F.plain_set_update_loop _]
    show wpAny _ A.in1 (pyNext (.ref I) >>= _) _ _ s
    refine wpAny_bind (W.item i s _ _ lt st fun v s1 hv st1 mv => ?_)
    show wpAny _ A.in1 (holding [v] (setAdd S v) >>= _) _ _ s1
    have old1 := stay mv old
    refine wpAny_bind (wpAny_holding (FF.step _ i v s1 _ _ hU lt hv (FF.keep _ _ _ bag (fun o z => mv.heap S o nSw z) old1) old1 fun b h' tk ht sb bag' => ?_))
    have old2 : ∀ b o, h0.get? b = some o → h'.get? b = some o := fun b o z => (sb.2 b (fun e => by subst e; rw [nS] at z; cases z)).trans (old1 b o z)
    refine wpAny_pure ⟨plainId_quiet F.plain_set_update_loop _, ih (i + 1) _ (by omega) lt (W.frame _ s1 _ _ st1 ht fun b hb o z => (sb.2 b fun e => hS (e ▸ hb)).trans z) old2 bag' fun s2 mv2 bag2 old3 => ?_⟩
    exact hR s2 (Moved.trans W.gtrans ((mv.mono more).then_heap ht fun b o hb z => (sb.2 b fun e => hb (e ▸ List.mem_cons_self)).trans z) mv2) bag2 old3
theorem none_at {h : Heap} {b : Addr} (hb : h.objs.size ≤ b) : h.get? b = none := by
  cases q : h.get? b with
  | none => rfl
  | some o => exact absurd (Heap.lt_size q) (Nat.not_lt.mpr hb)
/-- set(xs), xs of the class T; it: what walks it -/
theorem fill_call {T itc : String} {l : Addr} {items : Array Value} {oT : Obj} (hT : oT.cls = .type T) (sub1 : isSubtype (.type T) (.type "set") = pure false) (sub2 : isSubtype (.type T) (.type "frozenset") = pure false) (nd : (Value.type T == Value.type "dict") = false)
    (hiter : ∀ (A : Around) (E : Value → Shared → Prop) (Q : Value → Shared → Prop) (s : Shared), A.handled = none → s.heap.get? l = some oT → Q (.ref s.heap.objs.size) { s with heap := s.heap.push { cls := .type itc, data := .fields #[.ref l, .int 0 0] } } → wpAny (model P w) A (pyIter (.ref l)) Q E s)
    {St : Addr → Nat → Heap → Prop} (hwalk : ∀ (A : Around) (I : Addr), A.handled = none → l ≠ I → Walks P w A I [I, l] [I] items.size (fun i v => items[i]? = some v) (St I))
    (hst : ∀ (h : Heap) (I : Addr), h.get? I = some { cls := .type itc, dict := none, data := .fields #[.ref l, .int 0 0] } → h.get? l = some oT → St I 0 h)
    {Q : Value → Shared → Prop} (hh : A.handled = none) (hl : s.heap.get? l = some oT) {Bag : Nat → Heap → Prop} (FF : Fills P w A.in1.in1.in1.units s.heap.objs.size s.heap items.size (fun i v => items[i]? = some v) Bag)
    (bag0 : ∀ h : Heap, h.get? s.heap.objs.size = some (newSet w) → (∀ b o, s.heap.get? b = some o → h.get? b = some o) → Bag 0 h)
    (fin : ∀ (h' : Heap) (tk : Nat), Bag items.size h' → (∀ b o, s.heap.get? b = some o → h'.get? b = some o) → Q (.ref s.heap.objs.size) { s with heap := h', toks := tk }) :
    wpAny (model P w) A (call (.type "set") [.ref l]) Q E s := by
  obtain ⟨c, tl, hmro⟩ := F.called_set.mro
  have hmade := F.called_set.made
  have hsub := F.called_set.sub
  refine wpAny_call (codeAny_of_tree ?_)
  show wpAny _ _ (callAny (.type "set") _) _ _ _
  refine wpAny_pure ⟨Code.quiet_builtin _ (by decide +kernel), codeAny_builtin F.entry_type_call ?_⟩
  rw [Around.under_plain (weight_type_call_type "set" [.ref l] []) rfl]
  have h1 := F.called_set.notType
  have h2 := F.called_set.canCreate
  have hct := F.typeCall_set_1 (.ref l)
  repeat (any_goals (first | assumption | wp_step))
  refine codeAny_mono (code_set_led1 (.ref l) (E := E) (Q₁ := fun obj s₁ => obj = .ref s.heap.objs.size ∧ s₁ = { s with heap := s.heap.push (newSet w) }) ⟨rfl, rfl⟩) fun r s₁ hr => ?_
  cases r with
  | error e => exact hr
  | ok fl =>
    cases fl with
    | ret obj =>
      obtain ⟨rfl, rfl⟩ := hr
      have hS : (s.heap.push (newSet w)).get? s.heap.objs.size = some (newSet w) := Heap.get?_push_size _ rfl
      have ty : Shared.TypeIs { s with heap := s.heap.push (newSet w) } (.ref s.heap.objs.size) "set" := ⟨_, hS, rfl⟩
      have hli := F.called_set.init.lookup
      have hbi := F.called_set.init.bind (.ref s.heap.objs.size)
      repeat (any_goals (first | assumption | wp_step))
      refine codeAny_mono (codeAny_call_builtin (R := wants (fun r s₂ => r = .none ∧ ∃ h' tk, s₂ = { s with heap := h', toks := tk } ∧ Bag items.size h' ∧ (∀ b o, s.heap.get? b = some o → h'.get? b = some o)) E)
        F.called_set.init.plain F.entry_set_init (check_set_init_1 ty ?_)) fun r₂ s₂ hr₂ => ?_
      · have hl' : (s.heap.push (newSet w)).get? l = some oT := Heap.get?_push_of_some _ hl
        obtain ⟨oc, od, odt, osl⟩ := oT
        obtain rfl : oc = .type T := hT
        unfold Builtin.«set.__init__» noKeywords Builtin.Frozenset.updateFrom
        generalize hPI : pyIter = PI
        wp_walk
        subst hPI
        have lt : l < s.heap.objs.size := Heap.lt_size hl
        have size : (s.heap.push (newSet w)).objs.size = s.heap.objs.size + 1 := Heap.size_push ..
        refine hiter _ _ _ _ (by simp [hh]) hl' (wpAny_bind (wpAny_runValue ?_))
        refine fill_loop (hwalk _ _ (by simp [hh]) ?_).toS FF ?_ (none_at (Nat.le_refl _)) (fun b hb => none_at ?_) (Nat.le_refl _) (items.size - 0) 0 _ rfl (Nat.zero_le _) ?_ ?_ ?_ ?_
        · show l ≠ (s.heap.push (newSet w)).objs.size
          exact Nat.ne_of_lt (by rw [size]; exact Nat.lt_succ_of_lt lt)
        · show s.heap.objs.size ∉ [(s.heap.push (newSet w)).objs.size, l]
          simp only [List.mem_cons, List.not_mem_nil, or_false, not_or]
          exact ⟨Nat.ne_of_lt (by rw [size]; exact Nat.lt_succ_self _), Nat.ne_of_gt lt⟩
        · have hb' : b = (s.heap.push (newSet w)).objs.size := List.mem_singleton.mp hb
          rw [hb', size]
          omega
        · exact hst _ _ (Heap.get?_push_size _ rfl) (Heap.get?_push_of_some _ hl')
        · exact fun b o z => Heap.get?_push_of_some _ (Heap.get?_push_of_some _ z)
        · exact bag0 _ (Heap.get?_push_of_some _ hS) fun b o z => Heap.get?_push_of_some _ (Heap.get?_push_of_some _ z)
        · intro s' mv bag old
          obtain ⟨h', g', d', tk, os'⟩ := s'
          obtain rfl : g' = s.gens := mv.gens
          obtain rfl : d' = s.drawn := mv.drawn
          obtain rfl : os' = s.os := mv.os
          refine wpAny_pure ?_
          show wpAny _ _ (ret Value.none) _ _ _
          exact wpAny_pure ⟨rfl, h', tk, rfl, bag, old⟩
      · cases r₂ with
        | error e => exact hr₂
        | ok fl₂ =>
          cases fl₂ with
          | ret r =>
            obtain ⟨rfl, h', tk, rfl, bag, old⟩ := hr₂
            repeat (any_goals (first | assumption | wp_step))
            exact fin h' tk bag old
          | _ => exact hr₂.elim
    | _ => exact hr.elim
theorem fill_list {l : Addr} {items : Array Value} {Q : Value → Shared → Prop} (hh : A.handled = none) (hl : s.heap.IsList l items) {Bag : Nat → Heap → Prop} (FF : Fills P w A.in1.in1.in1.units s.heap.objs.size s.heap items.size (fun i v => items[i]? = some v) Bag)
    (bag0 : ∀ h : Heap, h.get? s.heap.objs.size = some (newSet w) → (∀ b o, s.heap.get? b = some o → h.get? b = some o) → Bag 0 h)
    (fin : ∀ (h' : Heap) (tk : Nat), Bag items.size h' → (∀ b o, s.heap.get? b = some o → h'.get? b = some o) → Q (.ref s.heap.objs.size) { s with heap := h', toks := tk }) : wpAny (model P w) A (call (.type "set") [.ref l]) Q E s := by
  obtain ⟨o, h1, h2, n, h3⟩ := hl
  exact fill_call (itc := "list_iterator") h2 F.sub_list_set F.sub_list_frozenset (by decide) (fun A' E' Q' s' hh' hl' q => wpAny_pyIter_list ⟨o, hl', h2, n, h3⟩ q) (fun A' I hh' ne => Walks.list hh' I l ne items) (fun h I z1 z2 => ⟨⟨_, z1, rfl, rfl⟩, ⟨o, z2, h2, n, h3⟩⟩) hh h1 FF bag0 fin
theorem fill_tuple {l : Addr} {items : Array Value} {Q : Value → Shared → Prop} (hh : A.handled = none) (hl : s.heap.IsTuple l items) {Bag : Nat → Heap → Prop} (FF : Fills P w A.in1.in1.in1.units s.heap.objs.size s.heap items.size (fun i v => items[i]? = some v) Bag)
    (bag0 : ∀ h : Heap, h.get? s.heap.objs.size = some (newSet w) → (∀ b o, s.heap.get? b = some o → h.get? b = some o) → Bag 0 h)
    (fin : ∀ (h' : Heap) (tk : Nat), Bag items.size h' → (∀ b o, s.heap.get? b = some o → h'.get? b = some o) → Q (.ref s.heap.objs.size) { s with heap := h', toks := tk }) : wpAny (model P w) A (call (.type "set") [.ref l]) Q E s := by
  obtain ⟨o, h1, h2, n, h3⟩ := hl
  exact fill_call (itc := "tuple_iterator") h2 F.sub_tuple_set F.sub_tuple_frozenset (by decide) (fun A' E' Q' s' hh' hl' q => wpAny_pyIter_tuple ⟨o, hl', h2, n, h3⟩ q) (fun A' I hh' ne => Walks.tuple hh' I l ne items) (fun h I z1 z2 => ⟨⟨_, z1, rfl, rfl⟩, ⟨o, z2, h2, n, h3⟩⟩) hh h1 FF bag0 fin
end
end TL
namespace TL
open PySem PySem.Spec PyProof.Rows L2
mutual
def kx : T → Bool
  | .int _ => true
  | .str _ => true
  | .tup ts => kxs ts
  | _ => false
def kxs : List T → Bool
  | [] => true
  | t :: ts => kx t && kxs ts
end
mutual
theorem kx_plain : ∀ t : T, kx t = true → plain t = true
  | .int _, _ => rfl
  | .str _, _ => rfl
  | .tup ts, h => kxs_plain ts h
  | .non, h => by cases h
  | .bl _, h => by cases h
  | .lst _, h => by cases h
  | .ref _, h => by cases h
  | .exc _ _ _, h => by cases h
  | .dct _ _ _, h => by cases h
  | .obj _ _ _, h => by cases h
  | .fn _, h => by cases h
  | .scr _, h => by cases h
theorem kxs_plain : ∀ ts : List T, kxs ts = true → plains ts = true
  | [], _ => rfl
  | t :: ts, h => by
    simp only [kxs, Bool.and_eq_true] at h
    simp only [plains, Bool.and_eq_true]
    exact ⟨kx_plain t h.1, kxs_plain ts h.2⟩
end
mutual
def kf : T → NestedKey
  | .int i => .num i
  | .str x => .text (txt x)
  | .tup ts => .tup (kfs ts)
  | _ => .none
def kfs : List T → List NestedKey
  | [] => []
  | t :: ts => kf t :: kfs ts
end
mutual
theorem kf_inj : ∀ x y : T, kx x = true → kx y = true → kf x = kf y → x = y
  | .int i, y, _, hy, e => by
    cases y with
    | int j => injection e with e; rw [e]
    | str z => cases e
    | tup z => cases e
    | _ => cases hy
  | .str i, y, _, hy, e => by
    cases y with
    | str j => injection e with e; rw [txt_inj e]
    | int z => cases e
    | tup z => cases e
    | _ => cases hy
  | .tup xs, y, hx, hy, e => by
    cases y with
    | tup ys => injection e with e; rw [kfs_inj xs ys hx hy e]
    | int z => cases e
    | str z => cases e
    | _ => cases hy
  | .non, _, h, _, _ => by cases h
  | .bl _, _, h, _, _ => by cases h
  | .lst _, _, h, _, _ => by cases h
  | .ref _, _, h, _, _ => by cases h
  | .exc _ _ _, _, h, _, _ => by cases h
  | .dct _ _ _, _, h, _, _ => by cases h
  | .obj _ _ _, _, h, _, _ => by cases h
  | .fn _, _, h, _, _ => by cases h
  | .scr _, _, h, _, _ => by cases h
theorem kfs_inj : ∀ xs ys : List T, kxs xs = true → kxs ys = true → kfs xs = kfs ys → xs = ys
  | [], [], _, _, _ => rfl
  | [], _ :: _, _, _, e => by cases e
  | _ :: _, [], _, _, e => by cases e
  | x :: xs, y :: ys, hx, hy, e => by
    simp only [kxs, Bool.and_eq_true] at hx hy
    injection e with e1 e2
    rw [kf_inj x y hx.1 hy.1 e1, kfs_inj xs ys hx.2 hy.2 e2]
end
mutual
theorem kf_dep : ∀ t : T, kx t = true → (kf t).depth = dep t
  | .int _, _ => rfl
  | .str _, _ => rfl
  | .tup ts, h => by simp only [kf, NestedKey.depth, dep]; rw [kfs_dep ts h]
  | .non, h => by cases h
  | .bl _, h => by cases h
  | .lst _, h => by cases h
  | .ref _, h => by cases h
  | .exc _ _ _, h => by cases h
  | .dct _ _ _, h => by cases h
  | .obj _ _ _, h => by cases h
  | .fn _, h => by cases h
  | .scr _, h => by cases h
theorem kfs_dep : ∀ ts : List T, kxs ts = true → NestedKey.depthAll (kfs ts) = deps ts
  | [], _ => rfl
  | t :: ts, h => by
    simp only [kxs, Bool.and_eq_true] at h
    simp only [kfs, NestedKey.depthAll, deps]
    rw [kf_dep t h.1, kfs_dep ts h.2]
end
mutual
theorem eqt_kx : ∀ x y : T, kx x = true → kx y = true → (eqt x y = true ↔ x = y)
  | .int i, y, _, hy => by
    cases y with
    | int j => simp [eqt]
    | str z => simp [eqt]
    | tup z => simp [eqt]
    | _ => cases hy
  | .str i, y, _, hy => by
    cases y with
    | str j => simp [eqt]
    | int z => simp [eqt]
    | tup z => simp [eqt]
    | _ => cases hy
  | .tup xs, y, hx, hy => by
    cases y with
    | tup ys =>
      simp only [eqt, T.tup.injEq]
      exact eqts_kx xs ys hx hy
    | int z => simp [eqt]
    | str z => simp [eqt]
    | _ => cases hy
  | .non, _, h, _ => by cases h
  | .bl _, _, h, _ => by cases h
  | .lst _, _, h, _ => by cases h
  | .ref _, _, h, _ => by cases h
  | .exc _ _ _, _, h, _ => by cases h
  | .dct _ _ _, _, h, _ => by cases h
  | .obj _ _ _, _, h, _ => by cases h
  | .fn _, _, h, _ => by cases h
  | .scr _, _, h, _ => by cases h
theorem eqts_kx : ∀ xs ys : List T, kxs xs = true → kxs ys = true → (eqts xs ys = true ↔ xs = ys)
  | [], [], _, _ => by simp [eqts]
  | [], _ :: _, _, _ => by simp [eqts]
  | _ :: _, [], _, _ => by simp [eqts]
  | x :: xs, y :: ys, hx, hy => by
    simp only [kxs, Bool.and_eq_true] at hx hy
    simp only [eqts, Bool.and_eq_true, List.cons.injEq]
    rw [eqt_kx x y hx.1 hy.1, eqts_kx xs ys hx.2 hy.2]
end
theorem strLt_total {x y : List Sg} (h1 : strLt x y = false) (h2 : strLt y x = false) : x = y := by
  simp only [strLt, decide_eq_false_iff_not] at h1 h2
  exact map_val_inj (List.le_antisymm (List.not_lt.mp h2) (List.not_lt.mp h1))
mutual
theorem ltt_total : ∀ x y : T, kx x = true → kx y = true → alk x y = true → ltt x y = false → ltt y x = false → x = y
  | .int i, y, _, hy, ha, h1, h2 => by
    cases y with
    | int j =>
      simp only [ltt, decide_eq_false_iff_not] at h1 h2
      have : i = j := by omega
      rw [this]
    | str z => simp [alk] at ha
    | tup z => simp [alk] at ha
    | _ => cases hy
  | .str i, y, _, hy, ha, h1, h2 => by
    cases y with
    | str j => rw [strLt_total h1 h2]
    | int z => simp [alk] at ha
    | tup z => simp [alk] at ha
    | _ => cases hy
  | .tup xs, y, hx, hy, ha, h1, h2 => by
    cases y with
    | tup ys => rw [ltts_total xs ys hx hy (by simpa [alk] using ha) h1 h2]
    | int z => simp [alk] at ha
    | str z => simp [alk] at ha
    | _ => cases hy
  | .non, _, h, _, _, _, _ => by cases h
  | .bl _, _, h, _, _, _, _ => by cases h
  | .lst _, _, h, _, _, _, _ => by cases h
  | .ref _, _, h, _, _, _, _ => by cases h
  | .exc _ _ _, _, h, _, _, _, _ => by cases h
  | .dct _ _ _, _, h, _, _, _, _ => by cases h
  | .obj _ _ _, _, h, _, _, _, _ => by cases h
  | .fn _, _, h, _, _, _, _ => by cases h
  | .scr _, _, h, _, _, _, _ => by cases h
theorem ltts_total : ∀ xs ys : List T, kxs xs = true → kxs ys = true → alks xs ys = true → ltts xs ys = false → ltts ys xs = false → xs = ys
  | [], [], _, _, _, _, _ => rfl
  | [], _ :: _, _, _, _, h, _ => by simp [ltts] at h
  | _ :: _, [], _, _, _, _, h => by simp [ltts] at h
  | x :: xs, y :: ys, hx, hy, ha, h1, h2 => by
    simp only [kxs, Bool.and_eq_true] at hx hy
    simp only [alks, Bool.and_eq_true] at ha
    rw [ltts_eq] at h1 h2
    by_cases e : x = y
    · subst e
      have r := (eqt_kx x x hx.1 hx.1).mpr rfl
      rw [if_pos r] at h1 h2
      rw [ltts_total xs ys hx.2 hy.2 ha.2 h1 h2]
    · have n1 : ¬ eqt x y = true := fun z => e ((eqt_kx x y hx.1 hy.1).mp z)
      have n2 : ¬ eqt y x = true := fun z => e ((eqt_kx y x hy.1 hx.1).mp z).symm
      rw [if_neg n1] at h1
      rw [if_neg n2] at h2
      exact absurd (ltt_total x y hx.1 hy.1 ha.1 h1 h2) e
end
def dedupT : List T → List T
  | [] => []
  | t :: ts => if (dedupT ts).any (eqt t) = true then dedupT ts else t :: dedupT ts
theorem kxs_all : ∀ {ts : List T}, kxs ts = true ↔ ∀ t ∈ ts, kx t = true
  | [] => by simp [kxs]
  | t :: ts => by simp [kxs, kxs_all (ts := ts)]
theorem dedupT_mem : ∀ {ts : List T}, kxs ts = true → ∀ x, x ∈ dedupT ts ↔ x ∈ ts
  | [], _, x => by simp [dedupT]
  | t :: ts, h, x => by
    simp only [kxs, Bool.and_eq_true] at h
    have ih := dedupT_mem h.2
    unfold dedupT
    split
    · rename_i ha
      obtain ⟨y, hy, e⟩ := List.any_eq_true.mp ha
      have ky : kx y = true := kxs_all.mp h.2 y ((ih y).mp hy)
      obtain rfl := (eqt_kx t y h.1 ky).mp e
      rw [List.mem_cons, ih]
      exact ⟨.inr, fun z => z.elim (fun e => e ▸ (ih t).mp hy) id⟩
    · rw [List.mem_cons, List.mem_cons, ih]
theorem dedupT_nodup : ∀ {ts : List T}, kxs ts = true → (dedupT ts).Nodup
  | [], _ => List.nodup_nil
  | t :: ts, h => by
    simp only [kxs, Bool.and_eq_true] at h
    unfold dedupT
    split
    · exact dedupT_nodup h.2
    · rename_i ha
      refine List.nodup_cons.mpr ⟨fun z => ha (List.any_eq_true.mpr ⟨t, z, (eqt_kx t t h.1 h.1).mpr rfl⟩), dedupT_nodup h.2⟩
theorem nodup_le {α : Type} : ∀ {l m : List α}, l.Nodup → (∀ x ∈ l, x ∈ m) → l.length ≤ m.length
  | [], _, _, _ => Nat.zero_le _
  | x :: l, m, hn, hs => by
    obtain ⟨m1, m2, rfl⟩ := List.append_of_mem (hs x List.mem_cons_self)
    have := nodup_le (l := l) (m := m1 ++ m2) (List.nodup_cons.mp hn).2 fun y hy => by
      have := hs y (List.mem_cons_of_mem _ hy)
      simp only [List.mem_append, List.mem_cons] at this ⊢
      rcases this with z | z | z
      · exact .inl z
      · subst z; exact absurd hy (List.nodup_cons.mp hn).1
      · exact .inr z
    simp only [List.length_cons, List.length_append] at this ⊢
    omega
theorem nodup_perm {α : Type} : ∀ {l m : List α}, l.Nodup → m.Nodup → (∀ x, x ∈ l ↔ x ∈ m) → l.Perm m
  | [], m, _, _, h => by
    cases m with
    | nil => exact .refl _
    | cons y m => exact absurd ((h y).mpr List.mem_cons_self) (by simp)
  | x :: l, m, hn, hm, h => by
    obtain ⟨m1, m2, rfl⟩ := List.append_of_mem ((h x).mp List.mem_cons_self)
    have p : (m1 ++ x :: m2).Perm (x :: (m1 ++ m2)) := List.perm_middle
    have nd := p.nodup_iff.mp hm
    refine List.Perm.trans (List.Perm.cons x (nodup_perm (List.nodup_cons.mp hn).2 (List.nodup_cons.mp nd).2 fun y => ?_)) p.symm
    have hy := h y
    have e : y ∈ m1 ++ x :: m2 ↔ y = x ∨ y ∈ m1 ++ m2 := by rw [p.mem_iff, List.mem_cons]
    rw [e, List.mem_cons] at hy
    constructor
    · intro z
      rcases hy.mp (.inr z) with z2 | z2
      · subst z2; exact absurd z (List.nodup_cons.mp hn).1
      · exact z2
    · intro z
      rcases hy.mpr (.inr z) with z2 | z2
      · subst z2; exact absurd z (List.nodup_cons.mp nd).1
      · exact z2
/-- sorted, each once -/
def sortU (ts : List T) : List T := (dedupT ts).mergeSort leT'
theorem dataLe_trans {k : T → PyData} : ∀ a b c : T, PySem.W.dataLe false k a b = true → PySem.W.dataLe false k b c = true → PySem.W.dataLe false k a c = true := fun a b c h1 h2 => by
  rw [PySem.W.dataLe_eq] at *
  simp only [cond_false, Bool.not_eq_true'] at *
  cases h : PySem.W.dataLt (k c) (k a) with
  | false => rfl
  | true =>
    rcases lex_negTrans _ (PySem.W.keyToks (k b)) _ h with z | z
    · exact absurd z (by rw [show PyProof.Rows.lexLt itemOrd (PySem.W.keyToks (k c)) (PySem.W.keyToks (k b)) = PySem.W.dataLt (k c) (k b) from rfl, h2]; simp)
    · exact absurd z (by rw [show PyProof.Rows.lexLt itemOrd (PySem.W.keyToks (k b)) (PySem.W.keyToks (k a)) = PySem.W.dataLt (k b) (k a) from rfl, h1]; simp)
end TL
namespace TL
open PySem PySem.Spec PyProof.Rows L2
theorem leT_data {ts : List T} (ok : sortOk ts = true) {a b : T} (ha : a ∈ ts) (hb : b ∈ ts) : PySem.W.dataLe false dat a b = leT' a b := by
  rw [PySem.W.dataLe_eq]
  show (!PySem.W.dataLt (dat b) (dat a)) = !ltt b a
  rw [(sortOk_of ok).2.2.2 b hb a ha]
section
variable {X : Cx} {pins : List (Addr × Obj)} {s : Shared} {σ : L2.St} {H : Hp} {S : Sto} {M : Addr → Prop}
mutual
theorem nested_of (I : Inv X pins σ H s) : ∀ (t : T) (v : V) (u : Value), kx t = true → Rep (gdOf X M) H S t v → RelV v u → NestedIs s.heap (kf t) u
  | .int i, _, _, _, r, ru => by
    cases r
    obtain ⟨t, rfl⟩ := ru
    exact .int i t
  | .str x, _, _, _, r, ru => by
    cases r
    obtain ⟨t, rfl⟩ := ru
    exact .text _ t
  | .tup ts, _, _, h, r, ru => by
    cases r with
    | tup h1 h2 =>
      cases ru
      obtain ⟨its, hv, ⟨ob, g1, g2, n, g3⟩, _⟩ := I.tuple h1.sq
      exact .tup g1 g2 g3 (nested_all I ts _ _ h h2 (by simpa using hv))
  | .non, _, _, h, _, _ => by cases h
  | .bl _, _, _, h, _, _ => by cases h
  | .lst _, _, _, h, _, _ => by cases h
  | .ref _, _, _, h, _, _ => by cases h
  | .exc _ _ _, _, _, h, _, _ => by cases h
  | .dct _ _ _, _, _, h, _, _ => by cases h
  | .obj _ _ _, _, _, h, _, _ => by cases h
  | .fn _, _, _, h, _, _ => by cases h
  | .scr _, _, _, h, _, _ => by cases h
theorem nested_all (I : Inv X pins σ H s) : ∀ (ts : List T) (vs : List V) (us : List Value), kxs ts = true → Reps (gdOf X M) H S ts vs → Vals vs us → NestedAll s.heap (kfs ts) us
  | [], _, _, _, r, q => by cases r; cases q; exact .nil
  | t :: ts, _, _, h, r, q => by
    simp only [kxs, Bool.and_eq_true] at h
    cases r with
    | cons r1 r2 =>
      cases q with
      | cons q1 q2 => exact .cons (nested_of I t _ _ h.1 r1 q1) (nested_all I ts _ _ h.2 r2 q2)
end
/-- what a set is, for those who walk it -/
def SetP (w : World) (h : Heap) (a : Addr) (vs : List V) : Prop := ∃ o es ep t, h.get? a = some o ∧ o.ExactSet ∧ o.data = .set es ep t ∧ t.fits es.size = true ∧ es.size < scanBound ∧ Ris t.place.toList ∧ (w.params.followText "set-order" = true ∨ t.led = true) ∧ Vals vs (es.toList.map (·.2))
def SetX (w : World) (a : Addr) (vs : List V) : HO := .ext fun h => SetP w h a vs
theorem setX_new {P : Program} {w : World} {H : Hp} {h : Heap} {a : Addr} {vs : List V} (R : SetP w h a vs) : ObjOk P w H h a (SetX w a vs) := by
  obtain ⟨o, es, ep, t, ho, r⟩ := R
  exact ⟨⟨o, es, ep, t, ho, r⟩, ⟨o, ho⟩, fun h1 h2 ⟨o', es', ep', t', ho', r'⟩ k => ⟨o', es', ep', t', k o' ho', r'⟩⟩
def isScan : T → Bool
  | .int _ => true
  | .str _ => true
  | _ => false
def setOk (ts : List T) : Bool := kxs ts && ((ts.all isTup && (decide (deps ts ≤ 8) && decide ((dedupT ts).length ≤ 62))) || (ts.all isScan && decide ((dedupT ts).length + 2 < scanBound)))
/-- rows of trees, their values -/
theorem zip_refs {G : Gd} : ∀ {ts : List T} {vs : List V} {us : List Value}, ts.all isTup = true → Reps G H S ts vs → Vals vs us → ∃ ks : List (T × Addr), ts = ks.map (·.1) ∧ us = (ks.map fun p => Value.ref p.2) ∧ ∀ p ∈ ks, Rep G H S p.1 (.ref p.2)
  | [], _, _, _, r, q => by cases r; cases q; exact ⟨[], rfl, rfl, fun p hp => by cases hp⟩
  | t :: ts, _, _, h, r, q => by
    simp only [List.all_cons, Bool.and_eq_true] at h
    cases r with
    | cons r1 r2 =>
      cases q with
      | cons q1 q2 =>
        obtain ⟨ks, e1, e2, hk⟩ := zip_refs h.2 r2 q2
        obtain ⟨x, rfl⟩ := isTup_is h.1
        cases r1 with
        | tup a b =>
          cases q1
          refine ⟨(.tup x, _) :: ks, by rw [List.map_cons, e1], by rw [List.map_cons, e2], fun p hp => ?_⟩
          rcases List.mem_cons.mp hp with e | hp
          · subst e; exact .tup a b
          · exact hk p hp
theorem zip_vals {G : Gd} : ∀ {ts : List T} {vs : List V} {us : List Value}, Reps G H S ts vs → Vals vs us → ∃ ks : List (T × Value), ts = ks.map (·.1) ∧ us = ks.map (·.2) ∧ ∀ p ∈ ks, ∃ v, RelV v p.2 ∧ Rep G H S p.1 v
  | [], _, _, r, q => by cases r; cases q; exact ⟨[], rfl, rfl, fun p hp => by cases hp⟩
  | t :: ts, _, _, r, q => by
    cases r with
    | cons r1 r2 =>
      cases q with
      | cons q1 q2 =>
        obtain ⟨ks, e1, e2, hk⟩ := zip_vals r2 q2
        refine ⟨(t, _) :: ks, by rw [List.map_cons, e1], by rw [List.map_cons, e2], fun p hp => ?_⟩
        rcases List.mem_cons.mp hp with e | hp
        · subst e; exact ⟨_, q1, r1⟩
        · exact hk p hp
theorem take_at {α : Type} {l : List α} {i : Nat} {x : α} (h : l[i]? = some x) : l.take (i + 1) = l.take i ++ [x] := by rw [List.take_add_one, h]; rfl
/-- what a set that is filled holds of the first i things -/
structure GotT {α : Type} (ks : List (T × α)) (i : Nat) (L : List (T × α)) : Prop where
  sub : ∀ p ∈ L, p ∈ ks.take i
  all : ∀ p ∈ ks.take i, p.1 ∈ L.map (·.1)
theorem GotT.old {α : Type} {ks L : List (T × α)} {i : Nat} {p : T × α} (g : GotT ks i L) (h : ks[i]? = some p) (hm : p.1 ∈ L.map (·.1)) : GotT ks (i + 1) L := by
  constructor
  · intro q hq
    rw [take_at h]
    exact List.mem_append_left _ (g.sub q hq)
  · intro q hq
    rw [take_at h] at hq
    rcases List.mem_append.mp hq with z | z
    · exact g.all q z
    · rw [List.mem_singleton.mp z]; exact hm
theorem GotT.new {α : Type} {ks L L' : List (T × α)} {i : Nat} {p : T × α} (g : GotT ks i L) (h : ks[i]? = some p) (pm : L'.Perm (p :: L)) : GotT ks (i + 1) L' := by
  constructor
  · intro q hq
    rw [take_at h]
    rcases List.mem_cons.mp (pm.mem_iff.mp hq) with e | z
    · rw [e]; simp
    · exact List.mem_append_left _ (g.sub q z)
  · intro q hq
    rw [(pm.map (·.1)).mem_iff, List.map_cons]
    rw [take_at h] at hq
    rcases List.mem_append.mp hq with z | z
    · exact List.mem_cons_of_mem _ (g.all q z)
    · rw [List.mem_singleton.mp z]; exact List.mem_cons_self
def kpA (p : T × Addr) : NestedKey × Addr := (kf p.1, p.2)
def kb : T → Key
  | .int i => .inl i
  | .str x => .inr (txt x)
  | _ => .inl 0
def kpB (p : T × Value) : Key × Value := (kb p.1, p.2)
theorem kb_inj {x y : T} (hx : isScan x = true) (hy : isScan y = true) (e : kb x = kb y) : x = y := by
  cases x <;> first | (cases hx; done) | skip
  all_goals (cases y <;> first | (cases hy; done) | skip)
  · injection e with e; rw [e]
  · cases e
  · cases e
  · injection e with e; rw [txt_inj e]
/-- a bag of tuples -/
def BagA (w : World) (n0 : Addr) (ks : List (T × Addr)) (i : Nat) (h : Heap) : Prop := ∃ (L : List (T × Addr)) (es : Array (Int × Value)) (ep : Nat) (t : SetTable), TabS w h n0 (L.map kpA) es ep t ∧ GotT ks i L
def BagB (P : Program) (w : World) (n0 : Addr) (ks : List (T × Value)) (i : Nat) (h : Heap) : Prop := ∃ (L : List (T × Value)) (es : Array (Int × Value)) (ep : Nat) (t : SetTable), ScanS P w h n0 (L.map kpB) es ep t ∧ GotT ks i L
theorem fillsA {P : Program} {w : World} {U n0 : Nat} {h0 : Heap} {ks : List (T × Addr)} {items : Array Value} (hi : items.toList = ks.map fun p => Value.ref p.2) (hu : U + 8 < cLine) (hk : kxs (ks.map (·.1)) = true) (few : (dedupT (ks.map (·.1))).length ≤ 62)
    (els : ∀ p ∈ ks, El h0 (kpA p)) : Fills P w U n0 h0 items.size (fun i v => items[i]? = some v) (BagA w n0 ks) where
  keep := fun i h h' ⟨L, es, ep, t, R, g⟩ kS k0 => by
    obtain ⟨o, g1, g2, g3⟩ := R.obj
    refine ⟨L, es, ep, t, ⟨⟨o, kS o g1, g2, g3⟩, R.row, R.tab, R.ndp, fun p hp => ?_, R.led, R.gap, R.few⟩, g⟩
    obtain ⟨q, hq, rfl⟩ := List.mem_map.mp hp
    exact (els q (List.mem_of_mem_take (g.sub q hq))).at fun b o us n z _ => k0 b o z
  step := fun A i v s Q E hA hn hv ⟨L, es, ep, t, R, g⟩ k0 hQ => by
    have hv2 : (ks.map fun p => Value.ref p.2)[i]? = some v := by rw [← hi, Array.getElem?_toList]; exact hv
    rw [List.getElem?_map] at hv2
    obtain ⟨p, hp, rfl⟩ := Option.map_eq_some_iff.mp hv2
    have hm : p ∈ ks := List.mem_of_getElem? hp
    have el : El s.heap (kpA p) := (els p hm).at fun b o us n z _ => k0 b o z
    have ndT : (L.map (·.1)).Nodup := by
      have := R.ndp
      rw [List.map_map] at this
      have e : ((fun x : NestedKey × Addr => x.1) ∘ kpA) = kf ∘ fun x : T × Addr => x.1 := rfl
      rw [e, ← List.map_map] at this
      exact List.Pairwise.of_map kf (fun _ _ hne e => hne (congrArg kf e)) this
    have kxm : ∀ q ∈ ks, kx q.1 = true := fun q hq => kxs_all.mp hk _ (List.mem_map.mpr ⟨q, hq, rfl⟩)
    have len : L.length ≤ 62 := by
      have := nodup_le ndT fun x hx => by
        obtain ⟨q, hq, rfl⟩ := List.mem_map.mp hx
        exact (dedupT_mem hk q.1).mpr (List.mem_map.mpr ⟨q, List.mem_of_mem_take (g.sub q hq), rfl⟩)
      rw [List.length_map] at this
      omega
    have keyIff : (kpA p).1 ∈ (L.map kpA).map (·.1) ↔ p.1 ∈ L.map (·.1) := by
      constructor
      · intro z
        obtain ⟨r, hr, e⟩ := List.mem_map.mp z
        obtain ⟨q, hq, rfl⟩ := List.mem_map.mp hr
        exact List.mem_map.mpr ⟨q, hq, kf_inj _ _ (kxm q (List.mem_of_mem_take (g.sub q hq))) (kxm p hm) e⟩
      · intro z
        obtain ⟨q, hq, e⟩ := List.mem_map.mp z
        exact List.mem_map.mpr ⟨kpA q, List.mem_map.mpr ⟨q, hq, rfl⟩, congrArg kf e⟩
    unfold setAdd
    refine wpAny_holding (wpAny_bind ((nestedKind P w).pyHash (k := kf p.1) (show A.units + 8 < cLine by omega) el ?_))
    refine tab_add (s := { s with toks := s.toks + (kf p.1).draws }) (p := kpA p) R el (show A.units + 8 < cLine by omega) (by rw [List.length_map]; omega) fun b h' L' es' ep' t' sb R' c1 c2 => ?_
    refine hQ b h' _ (Nat.le_add_right _ _) sb ?_
    by_cases hin : p.1 ∈ L.map (·.1)
    · have := c1 (keyIff.mpr hin)
      subst this
      exact ⟨L, es', ep', t', R', g.old hp hin⟩
    · have pm := c2 fun z => hin (keyIff.mp z)
      obtain ⟨L1, p1, e1⟩ := perm_map kpA pm (p :: L) rfl
      subst e1
      exact ⟨L1, es', ep', t', R', g.new hp p1⟩
theorem fillsB {P : Program} {w : World} {U n0 : Nat} {h0 : Heap} {ks : List (T × Value)} {items : Array Value} (hi : items.toList = ks.map (·.2)) (hk : ∀ p ∈ ks, isScan p.1 = true ∧ Sc P w (kpB p)) (kt : kxs (ks.map (·.1)) = true) (few : (dedupT (ks.map (·.1))).length + 2 < scanBound) :
    Fills P w U n0 h0 items.size (fun i v => items[i]? = some v) (BagB P w n0 ks) where
  keep := fun i h h' ⟨L, es, ep, t, R, g⟩ kS k0 => by
    obtain ⟨o, g1, g2, g3⟩ := R.obj
    exact ⟨L, es, ep, t, ⟨⟨o, kS o g1, g2, g3⟩, R.row, R.els, R.ndp, R.few, R.fits, R.ris, R.led⟩, g⟩
  step := fun A i v s Q E hA hn hv ⟨L, es, ep, t, R, g⟩ k0 hQ => by
    have hv2 : (ks.map (·.2))[i]? = some v := by rw [← hi, Array.getElem?_toList]; exact hv
    rw [List.getElem?_map] at hv2
    obtain ⟨p, hp, rfl⟩ := Option.map_eq_some_iff.mp hv2
    have hm : p ∈ ks := List.mem_of_getElem? hp
    have ndT : (L.map (·.1)).Nodup := by
      have := R.ndp
      rw [List.map_map] at this
      have e : ((fun x : Key × Value => x.1) ∘ kpB) = kb ∘ fun x : T × Value => x.1 := rfl
      rw [e, ← List.map_map] at this
      exact List.Pairwise.of_map kb (fun _ _ hne e => hne (congrArg kb e)) this
    have len : L.length ≤ (dedupT (ks.map (·.1))).length := by
      have := nodup_le (m := dedupT (ks.map (·.1))) ndT fun x hx => by
        obtain ⟨q, hq, rfl⟩ := List.mem_map.mp hx
        exact (dedupT_mem kt _).mpr (List.mem_map.mpr ⟨q, List.mem_of_mem_take (g.sub q hq), rfl⟩)
      rw [List.length_map] at this
      exact this
    have keyIff : (kpB p).1 ∈ (L.map kpB).map (·.1) ↔ p.1 ∈ L.map (·.1) := by
      constructor
      · intro z
        obtain ⟨r, hr, e⟩ := List.mem_map.mp z
        obtain ⟨q, hq, rfl⟩ := List.mem_map.mp hr
        exact List.mem_map.mpr ⟨q, hq, kb_inj (hk q (List.mem_of_mem_take (g.sub q hq))).1 (hk p hm).1 e⟩
      · intro z
        obtain ⟨q, hq, e⟩ := List.mem_map.mp z
        exact List.mem_map.mpr ⟨kpB q, List.mem_map.mpr ⟨q, hq, rfl⟩, congrArg kb e⟩
    unfold setAdd
    refine wpAny_holding (wpAny_bind ((mixKind P w).pyHash (hk p hm).2.1 ?_))
    refine scan_add (s := { s with toks := s.toks + 1 }) (p := kpB p) R (hk p hm).2 (by rw [List.length_map]; omega) fun b h' L' es' ep' t' sb R' c1 c2 => ?_
    refine hQ b h' _ (Nat.le_add_right _ _) sb ?_
    by_cases hin : p.1 ∈ L.map (·.1)
    · have := c1 (keyIff.mpr hin)
      subst this
      exact ⟨L, es', ep', t', R', g.old hp hin⟩
    · have pm := c2 fun z => hin (keyIff.mp z)
      obtain ⟨L1, p1, e1⟩ := perm_map kpB pm (p :: L) rfl
      subst e1
      exact ⟨L1, es', ep', t', R', g.new hp p1⟩
end
end TL
namespace TL
open PySem PySem.Spec PyProof.Rows L2
theorem deps_mem : ∀ {ts : List T} {t : T}, t ∈ ts → dep t ≤ deps ts
  | x :: xs, t, h => by
    simp only [deps]
    rcases List.mem_cons.mp h with e | h
    · subst e; omega
    · have := deps_mem h; omega
section
variable {X : Cx} {pins : List (Addr × Obj)} {s : Shared} {σ : L2.St} {H : Hp} {S : Sto} {M : Addr → Prop}
/-- the set made of values that lie as trees -/
theorem set_core (hc : X.calm = true) (hu : X.A.units + 64 < cLine) (I : Inv X pins σ H s) {ts : List T} {ws : List V} {its : List Value} {a : Addr} {Q : VK} (hv : Vals ws its) (r : Reps (gdOf X M) H S ts ws) (ok : setOk ts = true)
    (fin : ∀ us vs p, H p = none → us.Nodup → (∀ x, x ∈ us ↔ x ∈ ts) → Reps (gdOf X M) H S us vs → Q (.ref p) (upd H p (SetX X.w p vs)))
    (call_ : ∀ (Bag : Nat → Heap → Prop) (R : Value → Shared → Prop), Fills X.prog X.w X.A.in1.in1.in1.units s.heap.objs.size s.heap its.toArray.size (fun i v => its.toArray[i]? = some v) Bag →
      (∀ h : Heap, h.get? s.heap.objs.size = some (newSet X.w) → (∀ b o, s.heap.get? b = some o → h.get? b = some o) → Bag 0 h) →
      (∀ (h' : Heap) (tk : Nat), Bag its.toArray.size h' → (∀ b o, s.heap.get? b = some o → h'.get? b = some o) → R (.ref s.heap.objs.size) { s with heap := h', toks := tk }) → wpAny (model X.prog X.w) X.A (call (.type "set") [.ref a]) R X.xe s) :
    wpAny (model X.prog X.w) X.A (call (.type "set") [.ref a]) (EP X pins σ Q) X.xe s := by
  have units : X.A.in1.in1.in1.units = X.A.units + 3 := rfl
  simp only [setOk, Bool.and_eq_true, Bool.or_eq_true, decide_eq_true_eq] at ok
  obtain ⟨kt, ok⟩ := ok
  have fresh := I.hok.fresh (Nat.le_refl s.heap.objs.size)
  have led0 : X.w.params.followText "set-order" = true ∨ (!X.w.params.followText "set-order") = true := by cases X.w.params.followText "set-order" <;> simp
  rcases ok with ⟨ok1, ok2, ok3⟩ | ⟨ok1, ok2⟩
  · obtain ⟨ks, rfl, rfl, hk⟩ := zip_refs ok1 r hv
    have els : ∀ p ∈ ks, El s.heap (kpA p) := fun p hp => by
      have hm : p.1 ∈ ks.map (·.1) := List.mem_map.mpr ⟨p, hp, rfl⟩
      have kp := kxs_all.mp kt _ hm
      refine ⟨nested_of I p.1 _ _ kp (hk p hp) rfl, ?_⟩
      show (kf p.1).depth ≤ 8
      rw [kf_dep _ kp]
      have := deps_mem hm
      omega
    refine call_ (BagA X.w s.heap.objs.size ks) _ (fillsA (List.toList_toArray) (by rw [units]; omega) kt ok3 els) (fun h g1 _ => ?_) fun h' tk ⟨L, es, ep, t, R, g⟩ old => ?_
    · exact ⟨[], #[], 0, _, ⟨⟨_, g1, ⟨rfl, rfl, rfl⟩, rfl⟩, rfl, ⟨List.Pairwise.nil, rfl, rfl, .inl rfl, fun x hx => (by cases hx), fun i h j hi => (by simp at hi)⟩, List.nodup_nil, fun p hp => (by cases hp), led0, (by show 0 * 5 < 7 * 3; decide), (by show 0 < 64; decide)⟩,
        ⟨fun p hp => (by cases hp), fun p hp => (by simp at hp)⟩⟩
    · have whole : ks.take (ks.map fun p => Value.ref p.2).toArray.size = ks := List.take_of_length_le (by simp)
      have g' : GotT ks ks.length L := by
        have e : (ks.map fun p => Value.ref p.2).toArray.size = ks.length := by simp
        rw [e] at g
        exact g
      have sub : ∀ p ∈ L, p ∈ ks := fun p hp => List.mem_of_mem_take (g'.sub p hp)
      obtain ⟨o, g1, g2, g3⟩ := R.obj
      have sp : SetP X.w h' s.heap.objs.size (L.map fun p => V.ref p.2) := by
        refine ⟨o, es, ep, t, g1, g2, g3, R.fits, ?_, R.tab.ris, R.led, ?_⟩
        · have := row_len R.row
          have := R.few
          unfold scanBound
          omega
        · rw [R.row]
          have : ∀ L : List (T × Addr), Vals (L.map fun p => V.ref p.2) ((rowS X.w (L.map kpA)).map (·.2)) := fun L => by
            induction L with
            | nil => exact .nil
            | cons p L ih => exact .cons rfl ih
          exact this L
      refine ⟨.ref s.heap.objs.size, _, I.laid (t' := tk) old (Nat.le_refl _) (setX_new sp), rfl, fin (L.map (·.1)) _ _ fresh ?_ (fun x => ?_) ?_⟩
      · have := R.ndp
        rw [List.map_map] at this
        have e : ((fun x : NestedKey × Addr => x.1) ∘ kpA) = kf ∘ fun x : T × Addr => x.1 := rfl
        rw [e, ← List.map_map] at this
        exact List.Pairwise.of_map kf (fun _ _ hne e => hne (congrArg kf e)) this
      · constructor
        · intro hx
          obtain ⟨p, hp, rfl⟩ := List.mem_map.mp hx
          exact List.mem_map.mpr ⟨p, sub p hp, rfl⟩
        · intro hx
          obtain ⟨p, hp, rfl⟩ := List.mem_map.mp hx
          exact g'.all p (by rw [List.take_length]; exact hp)
      · have : ∀ L : List (T × Addr), (∀ p ∈ L, p ∈ ks) → Reps (gdOf X M) H S (L.map (·.1)) (L.map fun p => V.ref p.2) := fun L => by
          induction L with
          | nil => exact fun _ => .nil
          | cons p L ih => exact fun h => .cons (hk p (h p List.mem_cons_self)) (ih fun q hq => h q (List.mem_cons_of_mem _ hq))
        exact this L sub
  · obtain ⟨ks, rfl, rfl, hk⟩ := zip_vals r hv
    have sc : ∀ p ∈ ks, isScan p.1 = true ∧ Sc X.prog X.w (kpB p) := fun p hp => by
      have hm : p.1 ∈ ks.map (·.1) := List.mem_map.mpr ⟨p, hp, rfl⟩
      have z := List.all_eq_true.mp ok1 _ hm
      refine ⟨z, ?_⟩
      obtain ⟨v, r1, r2⟩ := hk p hp
      obtain ⟨x, u⟩ := p
      cases x <;> first | (cases z; done) | skip
      · cases r2
        obtain ⟨t, rfl⟩ := r1
        exact ⟨kV_is (k := .inl _) ⟨t, rfl⟩, rfl⟩
      · cases r2
        obtain ⟨t, rfl⟩ := r1
        exact ⟨kV_is (k := .inr _) ⟨t, rfl⟩, rfl⟩
    have few : (dedupT (ks.map (·.1))).length + 2 < scanBound := by simpa using ok2
    refine call_ (BagB X.prog X.w s.heap.objs.size ks) _ (fillsB (List.toList_toArray) sc kt few) (fun h g1 _ => ?_) fun h' tk ⟨L, es, ep, t, R, g⟩ old => ?_
    · exact ⟨[], #[], 0, _, ⟨⟨_, g1, ⟨rfl, rfl, rfl⟩, rfl⟩, rfl, fun p hp => (by cases hp), List.nodup_nil, (by show 0 < 4096; decide), (by rfl), List.Pairwise.nil, led0⟩, ⟨fun p hp => (by cases hp), fun p hp => (by simp at hp)⟩⟩
    · have g' : GotT ks ks.length L := by
        have e : (ks.map (·.2)).toArray.size = ks.length := by simp
        rw [e] at g
        exact g
      have sub : ∀ p ∈ L, p ∈ ks := fun p hp => List.mem_of_mem_take (g'.sub p hp)
      obtain ⟨o, g1, g2, g3⟩ := R.obj
      have rp : ∀ L : List (T × Value), (∀ p ∈ L, p ∈ ks) → ∃ vs, Reps (gdOf X M) H S (L.map (·.1)) vs ∧ Vals vs ((L.map kpB).map (rowK X.prog X.w) |>.map (·.2)) := fun L => by
        induction L with
        | nil => exact fun _ => ⟨[], .nil, .nil⟩
        | cons p L ih =>
          intro h
          obtain ⟨vs, h1, h2⟩ := ih fun q hq => h q (List.mem_cons_of_mem _ hq)
          obtain ⟨v, r1, r2⟩ := hk p (h p List.mem_cons_self)
          exact ⟨v :: vs, .cons r2 h1, .cons r1 h2⟩
      obtain ⟨vs, rp1, rp2⟩ := rp L sub
      have sp : SetP X.w h' s.heap.objs.size vs := by
        refine ⟨o, es, ep, t, g1, g2, g3, R.fits, ?_, R.ris, R.led, ?_⟩
        · have := scan_len R.row
          have := R.few
          omega
        · rw [R.row]
          exact rp2
      refine ⟨.ref s.heap.objs.size, _, I.laid (t' := tk) old (Nat.le_refl _) (setX_new sp), rfl, fin (L.map (·.1)) _ _ fresh ?_ (fun x => ?_) rp1⟩
      · have := R.ndp
        rw [List.map_map] at this
        have e : ((fun x : Key × Value => x.1) ∘ kpB) = kb ∘ fun x : T × Value => x.1 := rfl
        rw [e, ← List.map_map] at this
        exact List.Pairwise.of_map kb (fun _ _ hne e => hne (congrArg kb e)) this
      · constructor
        · intro hx
          obtain ⟨p, hp, rfl⟩ := List.mem_map.mp hx
          exact List.mem_map.mpr ⟨p, sub p hp, rfl⟩
        · intro hx
          obtain ⟨p, hp, rfl⟩ := List.mem_map.mp hx
          exact g'.all p (by rw [List.take_length]; exact hp)
/-- set(xs) -/
def rSet (X : Cx) : List V → Hp → VK → Prop := fun xs H Q => ∃ M S t ts, StoOk (gdOf X M) H S ∧ Reps (gdOf X M) H S [t] xs ∧ (res S t = .lst ts ∨ res S t = .tup ts) ∧ setOk ts = true ∧
  ∀ us vs p, H p = none → us.Nodup → (∀ x, x ∈ us ↔ x ∈ ts) → Reps (gdOf X M) H S us vs → Q (.ref p) (upd H p (SetX X.w p vs))
theorem cr_set (hc : X.calm = true) (hu : X.A.units + 64 < cLine) : CallR X (.type "set") (rSet X) := by
  intro pins s σ H xs us Q I r h
  obtain ⟨M, S, t, ts, o, rs, hres, ok, fin⟩ := h
  obtain ⟨v, rfl, ry⟩ := rs.one
  have hh := I.ok.hd hc
  rcases hres with e | e
  · obtain ⟨a, ws, rfl, h1, h2⟩ := res_lst o ry e
    obtain ⟨u, rfl, ru⟩ := vals1 r
    cases ru
    obtain ⟨its, hv, pl, hz⟩ := I.list (SqL.of h1)
    exact set_core hc hu I hv h2 ok fin fun Bag R FF b0 f => fill_list hh pl.isList FF b0 f
  · obtain rfl := res_id e fun _ z => nomatch z
    cases ry with
    | tup h1 h2 =>
      obtain ⟨u, rfl, ru⟩ := vals1 r
      cases ru
      obtain ⟨its, hv, pl, hz⟩ := I.tuple h1.sq
      exact set_core hc hu I hv h2 ok fin fun Bag R FF b0 f => fill_tuple hh pl FF b0 f
/-- len(a set) -/
def rLenX (X : Cx) : List V → Hp → VK → Prop := fun xs H Q => ∃ a vs, xs = [.ref a] ∧ H a = some (SetX X.w a vs) ∧ Q (.int vs.length) H
theorem cr_lenX : CallR X (.builtin "len") (rLenX X) := by
  intro pins s σ H xs us' Q I r h
  obtain ⟨a, vs, rfl, ha, q⟩ := h
  obtain ⟨u, rfl, ru⟩ := vals1 r
  cases ru
  obtain ⟨ob, es, ep, t, g1, g2, g3, g4, g5, g6, g7, g8⟩ := (show SetP X.w s.heap a vs from (I.hok a _ ha).1)
  have l3 : vs.length = es.size := by simpa using g8.length
  have g5' : es.size < 4096 := g5
  refine call_len_set g1 g2 g3 g4 (by omega) ⟨.int vs.length, H, I.tok _, ⟨_, by rw [l3]⟩, q⟩
def ssetT (S : Sto) (x : T) : Option T := match res S x with
  | .lst ts => if (setOk ts && sortOk ts) = true then some (.lst (sortU ts)) else none
  | .tup ts => if (setOk ts && sortOk ts) = true then some (.lst (sortU ts)) else none
  | _ => none
def slenT (S : Sto) (x : T) : Option T := match res S x with
  | .lst ts => if setOk ts = true then some (.int (dedupT ts).length) else none
  | .tup ts => if setOk ts = true then some (.int (dedupT ts).length) else none
  | _ => none
theorem setOk_kx {ts : List T} (h : setOk ts = true) : kxs ts = true := (Bool.and_eq_true_iff.mp h).1
variable {e : Expr} {te : TTE} {p p2 pos pos2 : Pos}
theorem set_arg {E : T → TEnv → Sto → Prop} {S0 : Sto} {H0 : Hp} (hc : X.calm = true) (hu : X.A.units + 64 < cLine) (he : PE X e (LE X M S0 H0 te E)) (hg2 : Gl X "set") (hm2 : X.mg "set" = none)
    (hs : starEach [e] X.env = (false, eval e X.env) :: starEach [] X.env := by rfl) (hpl : (backTo pos2 (starEach [] X.env)).any (·.1) = false := by rfl) : ∃ tt, PE X (.Call (.Name "set" p2) [e] [] pos2) tt ∧
      ∀ σ H Q, (∃ τ S Qt, Rel (gdOf X M) S0 H0 σ H τ S ∧ te τ S Qt (fun x S' => E x τ S') ∧ ∀ x S1 v H1, Qt x S1 → StoOk (gdOf X M) H1 S1 → Ext S H S1 H1 → Rep (gdOf X M) H1 S1 x v →
        ∃ ts, (res S1 x = .lst ts ∨ res S1 x = .tup ts) ∧ setOk ts = true ∧ ∀ us vs q, H1 q = none → us.Nodup → (∀ x, x ∈ us ↔ x ∈ ts) → Reps (gdOf X M) H1 S1 us vs → Q (.ref q) (upd H1 q (SetX X.w q vs))) → tt σ H Q :=
  ⟨_, pe_callTy (cr_set hc hu) hg2 hm2 boot_set (pa_cons he pa_nil hs) (by decide) (by decide) hs hpl, fun σ H Q ⟨τ, S, Qt, rel, h, k⟩ => ⟨τ, S, _, rel, h, fun x S1 v H1 q o1 x1 r1 => by
    obtain ⟨ts, h1, h2, h3⟩ := k x S1 v H1 q o1 x1 r1
    exact ⟨M, S1, x, ts, o1, .cons r1 .nil, h1, h2, h3⟩⟩⟩
theorem slen_is {S : Sto} {x z : T} (h : slenT S x = some z) : ∃ ts, (res S x = .lst ts ∨ res S x = .tup ts) ∧ setOk ts = true ∧ z = .int (dedupT ts).length := by
  unfold slenT at h
  split at h
  · rename_i ts e
    split at h
    · rename_i c
      exact ⟨ts, .inl e, c, (Option.some.inj h).symm⟩
    · cases h
  · rename_i ts e
    split at h
    · rename_i c
      exact ⟨ts, .inr e, c, (Option.some.inj h).symm⟩
    · cases h
  · cases h
theorem te_slen (hc : X.calm = true) (hu : X.A.units + 70 < cLine) (he : TE X e te) (hg : Gl X "len") (hm : X.mg "len" = none) (hg2 : Gl X "set") (hm2 : X.mg "set" = none)
    (hs2 : starEach [e] X.env = (false, eval e X.env) :: starEach [] X.env := by rfl) (hpl2 : (backTo pos2 (starEach [] X.env)).any (·.1) = false := by rfl)
    (hs : starEach [.Call (.Name "set" p2) [e] [] pos2] X.env = (false, eval (.Call (.Name "set" p2) [e] [] pos2) X.env) :: starEach [] X.env := by rfl) (hpl : (backTo pos (starEach [] X.env)).any (·.1) = false := by rfl) :
    TE X (.Call (.Name "len" p) [.Call (.Name "set" p2) [e] [] pos2] [] pos) (cUn slenT te) := fun M S0 H0 E tk => by
  obtain ⟨tt, h1, h2⟩ := set_arg (p2 := p2) (pos2 := pos2) hc (by omega) (he M S0 H0 E tk) hg2 hm2 hs2 hpl2
  refine (pe_callB cr_lenX hg hm PySem.boot_len (pa_cons h1 pa_nil hs) (by decide) (by decide) hs hpl).weak fun σ H Q ⟨τ, S, Qt, rel, h, k⟩ => h2 σ H _ ⟨τ, S, _, rel, h, fun x S1 v H1 ⟨z, ez, hq⟩ o1 x1 r1 => ?_⟩
  obtain ⟨ts, e1, e2, rfl⟩ := slen_is ez
  refine ⟨ts, e1, e2, fun us vs a n nd mem rp => ⟨a, vs, rfl, upd_same, ?_⟩⟩
  have kt := setOk_kx e2
  have l : us.length = (dedupT ts).length := (nodup_perm nd (dedupT_nodup kt) fun x => (mem x).trans (dedupT_mem kt x).symm).length_eq
  have l2 : us.length = vs.length := rp.length
  have := k (.int (dedupT ts).length) S1 (.int (dedupT ts).length) (upd H1 a (SetX X.w a vs)) hq (o1.new n) (x1.trans (Ext.new n)) (.int _)
  rw [← l2, l]
  exact this
end
end TL
namespace TL
open PySem PySem.Spec PyProof.Rows L2
section
variable {S : Sto} {p : Addr} {xs ts : List T}
theorem sub_offs : Sub (offs S p) S := fun a c e => by
  unfold offs at e
  split at e
  · cases e
  · exact e
/-- a list cell is given up at the end -/
theorem Fin.lst {Q : T → Sto → Prop} (h : S p = some (.lst ts)) (q : Q (.lst ts) (offs S p)) : Fin Q (.ref p) S := ⟨offs S p, .lst ts, sub_offs, .lstc h offs_same (fzs_same ts), q⟩
where fzs_same {S S2 : Sto} : ∀ ts : List T, Fzs S S2 ts ts
  | [] => .nil
  | t :: ts => .cons (.same t) (fzs_same ts)
/-- a cell that is not told of is given up -/
theorem Fin.drop {Q : T → Sto → Prop} {z : T} (h : Fin Q z (offs S p)) : Fin Q z S := by
  obtain ⟨S2, u, k1, k2, q⟩ := h
  refine ⟨S2, u, fun a c e => sub_offs a c (k1 a c e), ?_, q⟩
  exact fz_sub k2
where
  fz_sub {S2 : Sto} : ∀ {t u : T}, Fz (offs S p) S2 t u → Fz S S2 t u
    | _, _, .same t => .same t
    | _, _, .lstc h1 h2 h3 => .lstc (sub_offs _ _ h1) h2 (fzs_sub h3)
    | _, _, .dctc h1 h2 h3 => .dctc (sub_offs _ _ h1) h2 (fzs_sub h3)
    | _, _, .insc h1 h2 h3 => .insc (sub_offs _ _ h1) h2 (fzs_sub h3)
    | _, _, .tup h => .tup (fzs_sub h)
    | _, _, .lst h => .lst (fzs_sub h)
  fzs_sub {S2 : Sto} : ∀ {ts us : List T}, Fzs (offs S p) S2 ts us → Fzs S S2 ts us
    | _, _, .nil => .nil
    | _, _, .cons a b => .cons (fz_sub a) (fzs_sub b)
theorem ssetT_lst : ssetT S (.lst xs) = if (setOk xs && sortOk xs) = true then some (.lst (sortU xs)) else none := rfl
theorem ssetT_tup : ssetT S (.tup xs) = if (setOk xs && sortOk xs) = true then some (.lst (sortU xs)) else none := rfl
theorem slenT_lst : slenT S (.lst xs) = if setOk xs = true then some (.int (dedupT xs).length) else none := rfl
theorem slenT_tup : slenT S (.tup xs) = if setOk xs = true then some (.int (dedupT xs).length) else none := rfl
theorem sortedF_lst : sortedF S [.lst xs] = if (sortOk xs && decide (xs.length ≤ sizeLine)) = true then some (.lst (xs.mergeSort leT')) else none := rfl
theorem sortedF_tup : sortedF S [.tup xs] = if (sortOk xs && decide (xs.length ≤ sizeLine)) = true then some (.lst (xs.mergeSort leT')) else none := rfl
theorem tupleF_lst : tupleF S [.lst xs] = some (.tup xs) := rfl
theorem tupleF_tup : tupleF S [.tup xs] = some (.tup xs) := rfl
theorem listF_lst : listF S [.lst xs] = some (.lst xs) := rfl
theorem listF_tup : listF S [.tup xs] = some (.lst xs) := rfl
/-- strictly rising -/
def Rise (ts : List T) : Prop := ts.Pairwise fun a b => ltt a b = true
theorem pair_data {ts : List T} (ok : sortOk ts = true) : (ts.mergeSort leT').Pairwise fun a b => leT' a b = true := by
  have h : ∀ x ∈ ts, ∀ y ∈ ts, PySem.W.dataLt (dat x) (dat y) = ltt x y := (sortOk_of ok).2.2.2
  rw [← mergeSort_leT ts h]
  have total : ∀ a b : T, (PySem.W.dataLe false dat a b || PySem.W.dataLe false dat b a) = true := fun a b => by
    rw [PySem.W.dataLe_eq]
    simp only [cond_false, Bool.or_eq_true, Bool.not_eq_true']
    cases h : PySem.W.dataLt (dat b) (dat a) with
    | false => exact .inl rfl
    | true =>
      right
      cases h2 : PySem.W.dataLt (dat a) (dat b) with
      | false => rfl
      | true =>
        have := lex_trans _ _ _ h2 h
        rw [lex_irrefl] at this
        cases this
  refine (List.pairwise_mergeSort dataLe_trans total ts).imp_of_mem fun {a b} ha hb z => ?_
  rw [leT_data ok (List.mem_mergeSort.mp ha) (List.mem_mergeSort.mp hb)] at z
  exact z
/-- each once, sorted: strictly rising -/
theorem rise_sort {ts : List T} (kt : kxs ts = true) (ok : sortOk ts = true) (nd : ts.Nodup) : Rise (ts.mergeSort leT') := by
  have nd' : (ts.mergeSort leT').Nodup := (List.mergeSort_perm ts _).nodup_iff.mpr nd
  refine ((pair_data ok).and nd').imp_of_mem fun {a b} ha hb ⟨h1, h2⟩ => ?_
  have ha' := List.mem_mergeSort.mp ha
  have hb' := List.mem_mergeSort.mp hb
  cases h3 : ltt a b with
  | true => rfl
  | false =>
    have al : alk a b = true := by
      simp only [sortOk, Bool.and_eq_true, List.all_eq_true] at ok
      exact (ok.1 a ha').2 b hb'
    simp only [leT', Bool.not_eq_true'] at h1
    exact absurd (ltt_total a b (kxs_all.mp kt a ha') (kxs_all.mp kt b hb') al h3 h1) h2
end
end TL
namespace TL
open PySem PySem.Spec PyProof.Rows L2
section
variable {S : Sto} {p : Addr} {x y : List Sg} {xs : List (List Sg)}
theorem any_strs : ((xs.map T.str).any fun z => eqt z (.str x)) = decide (x ∈ xs) := by
  induction xs with
  | nil => rfl
  | cons y ys ih =>
    rw [List.map_cons, List.any_cons, ih]
    have e : eqt (.str y) (.str x) = decide (y = x) := rfl
    rw [e]
    by_cases h : y = x
    · subst h; simp
    · have h' : ¬ x = y := fun z => h z.symm
      simp [h, h']
theorem okd_strs : okd (.lst (xs.map T.str)) = true ∧ okd (.tup (xs.map T.str)) = true := by
  have p1 : plains (xs.map T.str) = true := by
    induction xs with
    | nil => rfl
    | cons y ys ih => rw [List.map_cons]; simp only [plains, ih, Bool.and_true]; rfl
  have d1 : deps (xs.map T.str) = 0 := by
    induction xs with
    | nil => rfl
    | cons y ys ih => rw [List.map_cons]; simp only [deps]; rw [ih (by rw [List.map_cons] at p1; simp only [plains, Bool.and_eq_true] at p1; exact p1.2)]; rfl
  simp only [okd, plain, dep, p1, d1]
  exact ⟨rfl, rfl⟩
theorem inQ_strs {z : T} (h : res S z = .lst (xs.map T.str) ∨ res S z = .tup (xs.map T.str)) : inQ S (.str x) z = some (decide (x ∈ xs)) := by
  unfold inQ
  rcases h with h | h
  · rw [h]
    simp only [okd_str, okd_strs.1, Bool.and_self, if_true, any_strs]
  · rw [h]
    simp only [okd_str, okd_strs.2, Bool.and_self, if_true, any_strs]
theorem inT_strs : inT S (.str x) (.lst (xs.map T.str)) = some (.bl (decide (x ∈ xs))) := by
  unfold inT; rw [inQ_strs (.inl rfl)]; rfl
theorem ninT_strs : ninT S (.str x) (.lst (xs.map T.str)) = some (.bl (!decide (x ∈ xs))) := by
  unfold ninT; rw [inQ_strs (.inl rfl)]; rfl
theorem inT_strsT : inT S (.str x) (.tup (xs.map T.str)) = some (.bl (decide (x ∈ xs))) := by
  unfold inT; rw [inQ_strs (.inr rfl)]; rfl
theorem ninT_strsT : ninT S (.str x) (.tup (xs.map T.str)) = some (.bl (!decide (x ∈ xs))) := by
  unfold ninT; rw [inQ_strs (.inr rfl)]; rfl
end
def lowers : List Sg := q "abcdefghijklmnopqrstuvwxyz"
def NameOk (x : List Sg) : Prop := 1 ≤ x.length ∧ x.length ≤ 8 ∧ ∀ c ∈ x, c ∈ lowers
instance (x : List Sg) : Decidable (NameOk x) := by unfold NameOk; infer_instance
def MKS : List (List Sg) := (["w", "m", "o"] : List Str).map q
def famT (f : List (List Sg)) : T := .tup (f.map T.str)
def folkT (x : List Sg × Nat) : T := .tup [.str x.1, .str (MKS.getD x.2 [])]
def kinT (x : List Sg × List (List Sg)) : T := .tup [.str x.1, famT x.2]
structure Book where
  folk : List (List Sg × Nat)
  unions : List (List (List Sg))
  births : List (List Sg × List (List Sg))
  adopts : List (List Sg × List (List Sg))
structure FamOk (names : List (List Sg)) (f : List (List Sg)) : Prop where
  lo : 1 ≤ f.length
  hi : f.length ≤ 2
  rise : Rise (f.map T.str)
  nd : f.Nodup
  mem : ∀ x ∈ f, x ∈ names
structure KinOk (names : List (List Sg)) (unions : List (List (List Sg))) (b : List Sg × List (List Sg)) : Prop where
  kid : b.1 ∈ names
  fam : b.2 ∈ unions
  own : b.1 ∉ b.2
structure BookOk (B : Book) : Prop where
  name : ∀ x ∈ B.folk, NameOk x.1 ∧ x.2 < 3
  nd : (B.folk.map (·.1)).Nodup
  rf : Rise (B.folk.map folkT)
  lf : B.folk.length ≤ 16
  un : ∀ f ∈ B.unions, FamOk (B.folk.map (·.1)) f
  ru : Rise (B.unions.map famT)
  lu : B.unions.length ≤ 16
  bi : ∀ b ∈ B.births, KinOk (B.folk.map (·.1)) B.unions b
  rb : Rise (B.births.map kinT)
  lb : B.births.length ≤ 24
  ad : ∀ b ∈ B.adopts, KinOk (B.folk.map (·.1)) B.unions b
  ra : Rise (B.adopts.map kinT)
  la : B.adopts.length ≤ 12
theorem kxs_strs (xs : List (List Sg)) : kxs (xs.map T.str) = true := by
  induction xs with
  | nil => rfl
  | cons y ys ih => rw [List.map_cons]; simp only [kxs, ih, Bool.and_true]; rfl
theorem sortOk_strs (xs : List (List Sg)) : sortOk (xs.map T.str) = true := by
  simp only [sortOk, Bool.and_eq_true, Bool.or_eq_true, List.all_eq_true]
  refine ⟨fun x hx => ?_, .inr fun x hx => ?_⟩
  · obtain ⟨a, ha, rfl⟩ := List.mem_map.mp hx
    refine ⟨rfl, fun y hy => ?_⟩
    obtain ⟨b, hb, rfl⟩ := List.mem_map.mp hy
    rfl
  · obtain ⟨a, ha, rfl⟩ := List.mem_map.mp hx
    rfl
theorem kxs_map {α : Type} {f : α → T} {xs : List α} (h : ∀ x ∈ xs, kx (f x) = true) : kxs (xs.map f) = true := kxs_all.mpr fun t ht => by
  obtain ⟨a, ha, rfl⟩ := List.mem_map.mp ht
  exact h a ha
theorem deps_le {ts : List T} {k : Nat} (h : ∀ t ∈ ts, dep t ≤ k) : deps ts ≤ k := by
  induction ts with
  | nil => exact Nat.zero_le _
  | cons t ts ih =>
    simp only [deps]
    have := h t List.mem_cons_self
    have := ih fun x hx => h x (List.mem_cons_of_mem _ hx)
    omega
theorem plains_map {α : Type} {f : α → T} {xs : List α} (h : ∀ x ∈ xs, plain (f x) = true) : plains (xs.map f) = true := by
  induction xs with
  | nil => rfl
  | cons y ys ih =>
    rw [List.map_cons]
    simp only [plains, h y List.mem_cons_self, ih fun x hx => h x (List.mem_cons_of_mem _ hx), Bool.and_self]
theorem okd_map {α : Type} {f : α → T} {xs : List α} (h : ∀ x ∈ xs, okd (f x) = true ∧ dep (f x) ≤ 60) : okd (.lst (xs.map f)) = true ∧ okd (.tup (xs.map f)) = true := by
  have p := plains_map (f := f) fun x hx => okd_plain (h x hx).1
  have d : deps (xs.map f) ≤ 60 := deps_le fun t ht => by
    obtain ⟨a, ha, rfl⟩ := List.mem_map.mp ht
    exact (h a ha).2
  constructor
  · show (plains (xs.map f) && decide (deps (xs.map f) + 1 ≤ 64)) = true
    rw [p, decide_eq_true (by omega)]; rfl
  · show (plains (xs.map f) && decide (deps (xs.map f) + 1 ≤ 64)) = true
    rw [p, decide_eq_true (by omega)]; rfl
theorem nodup_map {α β : Type} {f : α → β} (inj : ∀ a b, f a = f b → a = b) {l : List α} (h : l.Nodup) : (l.map f).Nodup := List.pairwise_map.mpr (h.imp fun {a b} hne e => hne (inj a b e))
theorem str_inj {a b : List Sg} (h : T.str a = T.str b) : a = b := by injection h
end TL
namespace TL
open PySem PySem.Spec PyProof.Rows L2
def SqB (b : Bool) (K : PySem.W.Frag) (H : Hp) (a : Addr) (xs : List V) : Prop := cond b (SqL K H a xs) (SqT K H a xs)
def ItB (b : Bool) (h : Heap) (it l : Addr) (i : Nat) : Prop := cond b (h.IsListIter it l i) (h.IsTupleIter it l i)
def SeB (b : Bool) (h : Heap) (l : Addr) (items : Array Value) : Prop := cond b (h.IsList l items) (h.IsTuple l items)
def objB (b : Bool) (l : Addr) : Obj := cond b { cls := .type "list_iterator", data := .fields #[.ref l, .int 0 0] } { cls := .type "tuple_iterator", data := .fields #[.ref l, .int 0 0] }
theorem ItB.at {b : Bool} {h h' : Heap} {it l : Addr} {i : Nat} (x : ItB b h it l i) (k : ∀ o, h.get? it = some o → h'.get? it = some o) : ItB b h' it l i := by
  cases b
  · exact Heap.IsTupleIter.at x k
  · exact Heap.IsListIter.at x k
theorem ItB.obj {b : Bool} {h : Heap} {it l : Addr} {i : Nat} (x : ItB b h it l i) : ∃ o, h.get? it = some o ∧ ∀ v, o.data ≠ .cell v := by
  cases b
  · obtain ⟨o, ho, _, hd⟩ := x
    exact ⟨o, ho, fun v q => by rw [hd] at q; cases q⟩
  · obtain ⟨o, ho, _, hd⟩ := x
    exact ⟨o, ho, fun v q => by rw [hd] at q; cases q⟩
theorem ItB.new {b : Bool} {h : Heap} {it l : Addr} (x : h.get? it = some (objB b l)) : ItB b h it l 0 := by
  cases b
  · exact ⟨_, x, rfl, rfl⟩
  · exact ⟨_, x, rfl, rfl⟩
section
variable {X : Cx} {pins : List (Addr × Obj)} {σ : L2.St} {H : Hp} {s : Shared}
end
/-- a row's place: a list or a tuple that stands -/
structure RowAt (G : Gd) (b : Bool) (a : Addr) (ts : List T) (S1 : Sto) (H1 : Hp) : Prop where
  get : ∀ (M' : Addr → Prop) S H, (∀ a, M' a → ¬ G.M a → H1 a = none) → StoOk (G.mask M') H S → Ext S1 H1 S H → ∃ ws, SqB b G.K H a ws ∧ Reps (G.mask M') H S ts ws
  len : ∀ S H, Ext S1 H1 S H → ∃ ws, SqB b G.K H a ws ∧ ws.length = ts.length
section
variable {G : Gd} {S1 : Sto} {H1 : Hp}
end
section
variable {X : Cx} {tg e a b : Expr} {te ta tb : TTE} {p pos tpos : Pos} {elts : List Expr} {kk : Nat}
end
end TL
namespace TL
open PySem PySem.Spec PyProof.Rows L2
def kyT : T → Option Key
  | .int i => some (.inl i)
  | .str x => some (.inr (txt x))
  | _ => none
def dLk : List T → List T → Key → Option T
  | k :: ks, v :: vs, x => if kyT k = some x then some v else dLk ks vs x
  | _, _, _ => none
def dHs : List T → Key → Bool
  | k :: ks, x => if kyT k = some x then true else dHs ks x
  | [], _ => false
def dRp : List T → List T → Key → T → List T
  | k :: ks, v :: vs, x, y => (if kyT k = some x then y else v) :: dRp ks vs x y
  | _, _, _, _ => []
def dPk (ks : List T) (x : Key) (t : T) : List T := if dHs ks x = true then ks else ks ++ [t]
def dPv (ks vs : List T) (x : Key) (y : T) : List T := if dHs ks x = true then dRp ks vs x y else vs ++ [y]
section
variable {G : Gd} {H : Hp} {S : Sto}
theorem ky_rep {t : T} {v : V} {k : Key} (r : Rep G H S t v) (e : kyT t = some k) : v = kV k := by
  cases r <;> (cases e <;> rfl)
theorem ky_of {t : T} {k : Key} (r : Rep G H S t (kV k)) : kyT t = some k := by
  cases k with
  | inl i => cases r; rfl
  | inr x =>
    have : ∀ {v : V}, Rep G H S t v → v = .str x → kyT t = some (.inr x) := fun r e => by
      cases r <;> (cases e <;> rfl)
    exact this r rfl
theorem lk_rep : ∀ {ks vs : List T} {kvs : List (Key × V)} (k : Key), Reps G H S ks (kvs.map fun p => kV p.1) → Reps G H S vs (kvs.map (·.2)) →
    (∀ t, dLk ks vs k = some t → ∃ v, valV kvs k = some v ∧ Rep G H S t v) ∧ (dLk ks vs k = none → valV kvs k = none)
  | _, _, [], k, r1, r2 => by
    cases r1; cases r2
    exact ⟨fun t e => (by cases e), fun _ => rfl⟩
  | _, _, p :: kvs, k, r1, r2 => by
    cases r1 with
    | cons a1 a2 =>
      cases r2 with
      | cons b1 b2 =>
        have ih := lk_rep k a2 b2
        have e1 := ky_of a1
        unfold dLk
        rw [e1]
        by_cases q : p.1 = k
        · rw [if_pos (by rw [q]), valV_pos q]
          exact ⟨fun t e => (by cases e; exact ⟨_, rfl, b1⟩), fun e => (by cases e)⟩
        · rw [if_neg (fun z => q (Option.some.inj z)), valV_neg q]
          exact ih
def dView (S : Sto) : T → Option (List T × List T)
  | .dct false ks vs => some (ks, vs)
  | .ref a => match S a with
    | some (.dct false ks vs) => some (ks, vs)
    | _ => none
  | _ => none
theorem dView_rep {x : T} {v : V} {p : List T × List T} (o : StoOk G H S) (r : Rep G H S x v) (e : dView S x = some p) : ∃ a kvs, v = .ref a ∧ Rd H a (.dK kvs) ∧ Reps G H S p.1 (kvs.map fun p => kV p.1) ∧ Reps G H S p.2 (kvs.map (·.2)) := by
  cases r with
  | dK h1 h2 h3 => cases e; exact ⟨_, _, rfl, h1.1, h2, h3⟩
  | ref a =>
    unfold dView at e
    cases q : S a with
    | none => simp [q] at e
    | some c =>
      cases c with
      | dct n ks vs =>
        cases n with
        | true => simp [q] at e
        | false =>
          simp only [q] at e
          cases e
          obtain ⟨kvs, h1, h2, h3⟩ := o.at_ a _ q
          exact ⟨a, kvs, rfl, .inl h1, h2, h3⟩
      | _ => simp [q] at e
  | _ => cases e
end
def dg2T (S : Sto) (x y z : T) : Option T := match dView S x, kyT y with
  | some p, some k => some ((dLk p.1 p.2 k).getD z)
  | _, _ => none
section
variable {X : Cx} {a b c o i e : Expr} {ta tb tc to ti te : TTE} {pos pos' apos cpos : Pos}
end
end TL
namespace TL
open PySem PySem.Spec PyProof.Rows L2
inductive Res (κ α : Type) where
  | ok (a : α) (k : κ)
  | exc (x : T) (k : κ)
  | bad
def PM (κ α : Type) := κ → Res κ α
section
variable {κ α β γ : Type}
def pu (a : α) : PM κ α := fun k => .ok a k
def bd (m : PM κ α) (f : α → PM κ β) : PM κ β := fun k => match m k with
  | .ok a k' => f a k'
  | .exc x k' => .exc x k'
  | .bad => .bad
def thr (x : T) : PM κ α := fun k => .exc x k
def stuck : PM κ α := fun _ => .bad
def ofO (o : Option α) : PM κ α := fun k => match o with
  | some a => .ok a k
  | none => .bad
def gd (b : Prop) [Decidable b] : PM κ Unit := if b then pu () else stuck
def lft (m : PM Unit α) : PM κ α := fun k => match m () with
  | .ok a _ => .ok a k
  | .exc x _ => .exc x k
  | .bad => .bad
def Sat (r : Res κ α) (P : α → κ → Prop) (X : T → κ → Prop) : Prop := match r with
  | .ok a k => P a k
  | .exc x k => X x k
  | .bad => False
theorem bd_pu (m : PM κ α) : bd m pu = m := by
  funext k
  unfold bd pu
  cases m k <;> rfl
theorem pu_bd (a : α) (f : α → PM κ β) : bd (pu a) f = f a := rfl
theorem bd_bd (m : PM κ α) (f : α → PM κ β) (g : β → PM κ γ) : bd (bd m f) g = bd m fun a => bd (f a) g := by
  funext k
  unfold bd
  cases m k <;> rfl
theorem stuck_bd (f : α → PM κ β) : bd (stuck : PM κ α) f = stuck := rfl
theorem thr_bd (x : T) (f : α → PM κ β) : bd (thr x : PM κ α) f = thr x := rfl
theorem lft_pu (a : α) : lft (κ := κ) (pu a) = pu a := rfl
theorem ofO_some (a : α) : ofO (κ := κ) (some a) = pu a := rfl
theorem gd_true {b : Prop} [Decidable b] (h : b) : gd (κ := κ) b = pu () := if_pos h
theorem Sat.bd {m : PM κ α} {f : α → PM κ β} {k : κ} {P : β → κ → Prop} {X : T → κ → Prop} : Sat (bd m f k) P X ↔ Sat (m k) (fun a k' => Sat (f a k') P X) X := by
  unfold TL.bd
  cases m k <;> exact Iff.rfl
theorem Sat.mono {r : Res κ α} {P P' : α → κ → Prop} {X X' : T → κ → Prop} (h : Sat r P X) (h1 : ∀ a k, P a k → P' a k) (h2 : ∀ x k, X x k → X' x k) : Sat r P' X' := by
  cases r with
  | ok a k => exact h1 _ _ h
  | exc x k => exact h2 _ _ h
  | bad => exact h
theorem Sat.lft {m : PM Unit α} {k : κ} {P : α → κ → Prop} {X : T → κ → Prop} : Sat (lft m k) P X ↔ Sat (m ()) (fun a _ => P a k) (fun x _ => X x k) := by
  unfold TL.lft
  cases m () <;> exact Iff.rfl
end
abbrev Cs := List (Addr × Cell)
def emp : Sto := fun _ => none
structure SI {κ : Type} (W : κ → Sto) (l : Cs) (k : κ) (S : Sto) : Prop where
  at_ : ∀ e ∈ l, S e.1 = some e.2
  own : ∀ e ∈ l, W k e.1 = none
  nd : (l.map (·.1)).Nodup
  base : ∀ a c, W k a = some c → S a = some c
def En : TEnv → TEnv → Prop
  | [], [] => True
  | p :: ps, t :: ts => (p = none ∨ p = t) ∧ En ps ts
  | _, _ => False
theorem En.refl : ∀ τ, En τ τ
  | [] => trivial
  | _ :: ts => ⟨.inr rfl, En.refl ts⟩
theorem En.len : ∀ {p τ : TEnv}, En p τ → p.length = τ.length
  | [], [], _ => rfl
  | _ :: _, _ :: _, h => by rw [List.length_cons, List.length_cons, En.len h.2]
  | [], _ :: _, h => h.elim
  | _ :: _, [], h => h.elim
theorem En.get : ∀ {p τ : TEnv} {i : Nat} {x : T}, En p τ → p[i]? = some (some x) → τ[i]? = some (some x)
  | [], [], _, _, _, e => by simp at e
  | _ :: _, [], _, _, h, _ => h.elim
  | [], _ :: _, _, _, h, _ => h.elim
  | p :: ps, t :: ts, 0, x, h, e => by
    rw [List.getElem?_cons_zero] at e ⊢
    cases e
    rcases h.1 with z | z
    · cases z
    · rw [← z]
  | p :: ps, t :: ts, i + 1, x, h, e => by
    rw [List.getElem?_cons_succ] at e ⊢
    exact En.get h.2 e
theorem En.set : ∀ {p τ : TEnv} {i : Nat} {x : Option T}, En p τ → En (p.set i x) (τ.set i x)
  | [], [], _, _, h => h
  | _ :: _, [], _, _, h => h.elim
  | [], _ :: _, _, _, h => h.elim
  | _ :: _, _ :: _, 0, _, h => ⟨.inr rfl, h.2⟩
  | _ :: _, _ :: _, i + 1, _, h => ⟨h.1, En.set h.2⟩
theorem En.trans : ∀ {p q τ : TEnv}, En p q → En q τ → En p τ
  | [], [], [], _, _ => trivial
  | _ :: _, _ :: _, _ :: _, h, g => ⟨h.1.elim .inl fun e => g.1.elim (fun z => .inl (e.trans z)) fun z => .inr (e.trans z), En.trans h.2 g.2⟩
  | [], _ :: _, _, h, _ => h.elim
  | _ :: _, [], _, h, _ => h.elim
  | [], [], _ :: _, _, g => g.elim
  | _ :: _, _ :: _, [], _, g => g.elim
theorem En.wipe {p τ : TEnv} (h : En p τ) (vs : List Nat) : En (wipeT p vs) (wipeT τ vs) := by
  induction vs with
  | nil => exact h
  | cons v vs ih => exact En.set ih
/-- z, seen as v -/
def Vw (l : Cs) (z v : T) : Prop := z = v ∨ (∃ a xs, z = .ref a ∧ (a, Cell.lst xs) ∈ l ∧ v = .lst xs) ∨ ∃ a n ks vs, z = .ref a ∧ (a, Cell.dct n ks vs) ∈ l ∧ v = .dct n ks vs
def VwS (S : Sto) (z v : T) : Prop := z = v ∨ (∃ a xs, z = .ref a ∧ S a = some (.lst xs) ∧ v = .lst xs) ∨ ∃ a n ks vs, z = .ref a ∧ S a = some (.dct n ks vs) ∧ v = .dct n ks vs
section
variable {κ : Type} {W : κ → Sto} {l : Cs} {k : κ} {S : Sto}
theorem Vw.at {z v : T} (i : SI W l k S) (h : Vw l z v) : VwS S z v := h.imp id (Or.imp (fun ⟨a, xs, e, m, f⟩ => ⟨a, xs, e, i.at_ _ m, f⟩) fun ⟨a, n, ks, vs, e, m, f⟩ => ⟨a, n, ks, vs, e, i.at_ _ m, f⟩)
inductive VwsS (S : Sto) : List T → List T → Prop
  | nil : VwsS S [] []
  | cons {z v : T} {zs vs : List T} : VwS S z v → VwsS S zs vs → VwsS S (z :: zs) (v :: vs)
inductive Vws (l : Cs) : List T → List T → Prop
  | nil : Vws l [] []
  | cons {z v : T} {zs vs : List T} : Vw l z v → Vws l zs vs → Vws l (z :: zs) (v :: vs)
theorem Vws.at : ∀ {zs vs : List T}, SI W l k S → Vws l zs vs → VwsS S zs vs
  | _, _, _, .nil => .nil
  | _, _, i, .cons h t => .cons (h.at i) (Vws.at i t)
theorem SI.tail {e : Addr × Cell} (i : SI W (e :: l) k S) : SI W l k S := ⟨fun x h => i.at_ x (List.mem_cons_of_mem _ h), fun x h => i.own x (List.mem_cons_of_mem _ h), (List.nodup_cons.mp i.nd).2, i.base⟩
theorem SI.nil (i : SI W l k S) : SI W [] k S := ⟨fun _ h => (nomatch h), fun _ h => (nomatch h), List.nodup_nil, i.base⟩
/-- a new cell -/
theorem SI.new {a : Addr} {c : Cell} (i : SI W l k S) (n : S a = none) : SI W ((a, c) :: l) k (ups S a c) := by
  have na : ∀ e ∈ l, e.1 ≠ a := fun e h z => by have := i.at_ e h; rw [z, n] at this; cases this
  have nw : W k a = none := by
    cases q : W k a with
    | none => rfl
    | some d => rw [i.base a d q] at n; cases n
  refine ⟨fun e h => ?_, fun e h => ?_, List.nodup_cons.mpr ⟨fun h => ?_, i.nd⟩, fun b d h => ?_⟩
  · rcases List.mem_cons.mp h with z | z
    · subst z; exact ups_same
    · rw [ups_ne (na e z)]; exact i.at_ e z
  · rcases List.mem_cons.mp h with z | z
    · subst z; exact nw
    · exact i.own e z
  · obtain ⟨e, he, q⟩ := List.mem_map.mp h
    exact na e he q
  · have : b ≠ a := fun z => by rw [z, nw] at h; cases h
    rw [ups_ne this]
    exact i.base b d h
/-- a cell written -/
theorem SI.put {a : Addr} {c d : Cell} {l1 l2 : Cs} (i : SI W (l1 ++ (a, c) :: l2) k S) : SI W (l1 ++ (a, d) :: l2) k (ups S a d) := by
  have nd := i.nd
  rw [List.map_append, List.map_cons] at nd
  have hm : ∀ e, e ∈ l1 ++ l2 → e ∈ l1 ++ (a, c) :: l2 ∧ e.1 ≠ a := fun e h => by
    obtain ⟨n1, n2, n3⟩ := List.nodup_append.mp nd
    rcases List.mem_append.mp h with z | z
    · exact ⟨List.mem_append_left _ z, fun q => n3 e.1 (List.mem_map_of_mem z) a (by simp) q⟩
    · exact ⟨List.mem_append_right _ (List.mem_cons_of_mem _ z), fun q => (List.nodup_cons.mp n2).1 (by rw [← q]; exact List.mem_map_of_mem (f := (·.1)) z)⟩
  have ow := i.own (a, c) (List.mem_append_right _ List.mem_cons_self)
  have cut : ∀ e, e ∈ l1 ++ (a, d) :: l2 → e = (a, d) ∨ e ∈ l1 ++ l2 := fun e h => by
    rcases List.mem_append.mp h with z | z
    · exact .inr (List.mem_append_left _ z)
    · rcases List.mem_cons.mp z with z | z
      · exact .inl z
      · exact .inr (List.mem_append_right _ z)
  refine ⟨fun e h => ?_, fun e h => ?_, by rw [List.map_append, List.map_cons]; exact nd, fun b e h => ?_⟩
  · rcases cut e h with z | z
    · subst z; exact ups_same
    · obtain ⟨q1, q2⟩ := hm e z
      rw [ups_ne q2]
      exact i.at_ e q1
  · rcases cut e h with z | z
    · subst z; exact ow
    · exact i.own e (hm e z).1
  · have : b ≠ a := fun z => by rw [z] at h; rw [ow] at h; cases h
    rw [ups_ne this]
    exact i.base b e h
end
def OpV (op : Sto → T → T → Option T) : Prop := ∀ S z1 v1 z2 v2 r, VwS S z1 v1 → VwS S z2 v2 → op emp v1 v2 = some r → op S z1 z2 = some r
def UnV (op : Sto → T → Option T) : Prop := ∀ S z v r, VwS S z v → op emp v = some r → op S z = some r
def FnV (f : Sto → List T → Option T) : Prop := ∀ S zs vs r, VwsS S zs vs → f emp vs = some r → f S zs = some r
theorem res_ref_emp (a : Addr) : res emp (.ref a) = .ref a := rfl
/-- either resolved alike, or a thing that no operation takes -/
theorem VwS.res {S : Sto} {z v : T} (h : VwS S z v) : res S z = v ∧ res emp v = v ∨ (∃ a, v = .ref a) ∨ ∃ n ks vs, v = .dct n ks vs := by
  rcases h with rfl | ⟨a, xs, rfl, h, rfl⟩ | ⟨a, n, ks, vs, rfl, h, rfl⟩
  · cases z with
    | ref a => exact .inr (.inl ⟨a, rfl⟩)
    | _ => exact .inl ⟨rfl, rfl⟩
  · exact .inl ⟨by simp only [TL.res, h], rfl⟩
  · exact .inr (.inr ⟨n, ks, vs, rfl⟩)
theorem res_dct_emp (n : Bool) (ks vs : List T) : res emp (.dct n ks vs) = .dct n ks vs := rfl
theorem opv_of {op : Sto → T → T → Option T} (g : T → T → Option T) (h : ∀ S x y, op S x y = g (res S x) (res S y)) (n1 : ∀ a y, g (.ref a) y = none) (n2 : ∀ a x, g x (.ref a) = none)
    (n3 : ∀ n ks vs y, g (.dct n ks vs) y = none) (n4 : ∀ n ks vs x, g x (.dct n ks vs) = none) : OpV op := fun S z1 v1 z2 v2 r h1 h2 e => by
  rw [h] at e ⊢
  rcases h1.res with ⟨e1, e1'⟩ | ⟨a, rfl⟩ | ⟨n, ks, vs, rfl⟩
  · rcases h2.res with ⟨e2, e2'⟩ | ⟨a, rfl⟩ | ⟨n, ks, vs, rfl⟩
    · rw [e1, e2, ← e1', ← e2']; rw [e1', e2'] at e ⊢; exact e
    · rw [res_ref_emp, n2] at e; cases e
    · rw [res_dct_emp, n4] at e; cases e
  · rw [res_ref_emp, n1] at e; cases e
  · rw [res_dct_emp, n3] at e; cases e
theorem unv_of {op : Sto → T → Option T} (g : T → Option T) (h : ∀ S x, op S x = g (res S x)) (n1 : ∀ a, g (.ref a) = none) (n3 : ∀ n ks vs, g (.dct n ks vs) = none) : UnV op := fun S z v r h1 e => by
  rw [h] at e ⊢
  rcases h1.res with ⟨e1, e1'⟩ | ⟨a, rfl⟩ | ⟨n, ks, vs, rfl⟩
  · rw [e1]; rw [e1'] at e; exact e
  · rw [res_ref_emp, n1] at e; cases e
  · rw [res_dct_emp, n3] at e; cases e
/-- the first by its resolution, the second as it is -/
theorem opv_of1 {op : Sto → T → T → Option T} (g : T → T → Option T) (h : ∀ S x y, op S x y = g (res S x) y) (n1 : ∀ a y, g (.ref a) y = none) (n3 : ∀ n ks vs y, g (.dct n ks vs) y = none) (n2 : ∀ x ts, g x (.lst ts) = none) (n4 : ∀ n ks vs x, g x (.dct n ks vs) = none) : OpV op := fun S z1 v1 z2 v2 r h1 h2 e => by
  rw [h] at e ⊢
  have e2 : z2 = v2 := by
    rcases h2 with q | ⟨a, xs, _, _, rfl⟩ | ⟨a, n, ks, vs, _, _, rfl⟩
    · exact q
    · rw [n2] at e; cases e
    · rw [n4] at e; cases e
  subst e2
  rcases h1.res with ⟨e1, e1'⟩ | ⟨a, rfl⟩ | ⟨n, ks, vs, rfl⟩
  · rw [e1]; rw [e1'] at e; exact e
  · rw [res_ref_emp, n1] at e; cases e
  · rw [res_dct_emp, n3] at e; cases e
/-- numbers alone -/
theorem opv_flat {op : Sto → T → T → Option T} (g : T → T → Option T) (h : ∀ S x y, op S x y = g x y) (n1 : ∀ ts y, g (.lst ts) y = none) (n3 : ∀ n ks vs y, g (.dct n ks vs) y = none) (n2 : ∀ x ts, g x (.lst ts) = none) (n4 : ∀ n ks vs x, g x (.dct n ks vs) = none) : OpV op := fun S z1 v1 z2 v2 r h1 h2 e => by
  rw [h] at e ⊢
  have e2 : z2 = v2 := by
    rcases h2 with q | ⟨a, xs, _, _, rfl⟩ | ⟨a, n, ks, vs, _, _, rfl⟩
    · exact q
    · rw [n2] at e; cases e
    · rw [n4] at e; cases e
  have e1 : z1 = v1 := by
    rcases h1 with q | ⟨a, xs, _, _, rfl⟩ | ⟨a, n, ks, vs, _, _, rfl⟩
    · exact q
    · rw [n1] at e; cases e
    · rw [n3] at e; cases e
  rw [e1, e2]
  exact e
theorem opv_addT : OpV addT := opv_of (fun x y => match x, y with
  | .int i, .int j => some (.int (i + j))
  | .str a, .str b => if a.length + b.length ≤ sizeLine then some (.str (a ++ b)) else none
  | .tup a, .tup b => if a.length + b.length ≤ sizeLine then some (.tup (a ++ b)) else none
  | .lst a, .lst b => if a.length + b.length ≤ sizeLine then some (.lst (a ++ b)) else none
  | _, _ => none) (fun _ _ _ => rfl) (fun _ _ => rfl) (fun _ x => by cases x <;> rfl) (fun _ _ _ _ => rfl) fun _ _ _ x => by cases x <;> rfl
theorem opv_i2 {c : Int → Int → Bool} {f : Int → Int → T} : OpV (i2 c f) := opv_flat (fun x y => i2 c f emp x y) (fun _ _ _ => rfl) (fun _ _ => rfl) (fun _ _ _ _ => rfl) (fun x _ => by cases x <;> rfl) fun _ _ _ x => by cases x <;> rfl
theorem opv_subT : OpV subT := opv_i2
theorem opv_fdivT : OpV fdivT := opv_i2
theorem opv_modT : OpV modT := opv_i2
theorem opv_mulT2 : OpV mulT2 := opv_flat (fun x y => mulT2 emp x y) (fun _ _ _ => rfl) (fun _ _ => rfl) (fun _ _ _ _ => rfl) (fun x _ => by cases x <;> rfl) fun _ _ _ x => by cases x <;> rfl
theorem okd_refN (a : Addr) : okd (.ref a) = false := rfl
theorem okd_dctN (n : Bool) (ks vs : List T) : okd (.dct n ks vs) = false := rfl
theorem opv_eqT : OpV eqT := opv_of (fun x y => if (okd x && okd y) = true then some (.bl (eqt x y)) else none) (fun _ _ _ => rfl) (fun _ _ => rfl) (fun _ x => by rw [okd_refN, Bool.and_false]; rfl) (fun _ _ _ _ => rfl) fun _ _ _ x => by rw [okd_dctN, Bool.and_false]; rfl
theorem opv_neT : OpV neT := opv_of (fun x y => if (okd x && okd y) = true then some (.bl (!eqt x y)) else none) (fun _ _ _ => rfl) (fun _ _ => rfl) (fun _ x => by rw [okd_refN, Bool.and_false]; rfl) (fun _ _ _ _ => rfl) fun _ _ _ x => by rw [okd_dctN, Bool.and_false]; rfl
/-- as they are -/
def OpX' (op : Sto → T → T → Option T) : Prop := ∀ S v1 v2 r, op emp v1 v2 = some r → op S v1 v2 = some r
theorem opx_ltT : OpX' ltT := fun _ _ _ _ h => h
theorem opx_gtT : OpX' gtT := fun _ _ _ _ h => h
theorem opx_leT : OpX' leT := fun _ _ _ _ h => h
theorem opx_isT : OpX' isT := fun _ _ _ _ h => h
theorem inQ_v {S : Sto} {x y v : T} {b : Bool} (h : VwS S y v) (e : inQ emp x v = some b) : inQ S x y = some b := by
  rcases h.res with ⟨e1, e1'⟩ | ⟨a, rfl⟩ | ⟨n, ks, vs, rfl⟩
  · unfold inQ at e ⊢
    rw [e1]
    rw [e1'] at e
    exact e
  · cases e
  · cases e
theorem opv_inT : ∀ S x y v r, VwS S y v → inT emp x v = some r → inT S x y = some r := fun S x y v r h e => by
  unfold inT at e ⊢
  cases q : inQ emp x v with
  | none => rw [q] at e; cases e
  | some b => rw [inQ_v h q]; rw [q] at e; exact e
theorem opv_ixT : OpV ixT := opv_of1 (fun x y => match x, y with
  | .lst ts, .int i => L2.atI ts i
  | .tup ts, .int i => L2.atI ts i
  | .str z, .int i => if z.length ≤ sizeLine then (L2.atI z i).map fun c => .str [c] else none
  | _, _ => none) (fun _ _ _ => rfl) (fun _ _ => rfl) (fun _ _ _ _ => rfl) (fun x _ => by cases x <;> rfl) fun _ _ _ x => by cases x <;> rfl
theorem unv_negT : UnV negT := fun S z v r h e => by
  rcases h with rfl | ⟨a, xs, _, _, rfl⟩ | ⟨a, n, ks, vs, _, _, rfl⟩
  · exact e
  · cases e
  · cases e
theorem unv_slenT : UnV slenT := unv_of (fun x => match x with
  | .lst ts => if setOk ts = true then some (.int (dedupT ts).length) else none
  | .tup ts => if setOk ts = true then some (.int (dedupT ts).length) else none
  | _ => none) (fun _ _ => rfl) (fun _ => rfl) fun _ _ _ => rfl
theorem fnv_one {f : Sto → List T → Option T} (g : T → Option T) (h : ∀ S x, f S [x] = g (res S x)) (n0 : f emp [] = none) (n2 : ∀ x y zs, f emp (x :: y :: zs) = none) (n1 : ∀ a, g (.ref a) = none) (n3 : ∀ n ks vs, g (.dct n ks vs) = none) : FnV f := fun S zs vs r hv e => by
  cases hv with
  | nil => rw [n0] at e; cases e
  | cons h1 ht =>
    cases ht with
    | nil =>
      exact unv_of (op := fun S x => f S [x]) g h n1 n3 S _ _ r h1 e
    | cons h2 ht => rw [n2] at e; cases e
theorem fnv_lenF : FnV lenF := fnv_one (fun x => match x with
  | .lst ts => some (.int ts.length)
  | .tup ts => some (.int ts.length)
  | .str z => if z.length ≤ sizeLine then some (.int z.length) else none
  | _ => none) (fun _ _ => rfl) rfl (fun _ _ _ => rfl) (fun _ => rfl) fun _ _ _ => rfl
/-- no views: a function of the values alone -/
def FnX' (f : Sto → List T → Option T) : Prop := ∀ S vs r, f emp vs = some r → f S vs = some r
theorem fnx_absF : FnX' absF := fun _ _ _ h => h
theorem fnx_intF : FnX' intF := fun _ _ _ h => h
theorem fnx_max2F : FnX' max2F := fun _ _ _ h => h
theorem fnx_min2F : FnX' min2F := fun _ _ _ h => h
theorem fnx_strF : FnX' strF := fun _ _ _ h => h
theorem VwsS.same {S : Sto} : ∀ (vs : List T), VwsS S vs vs
  | [] => .nil
  | _ :: vs => .cons (.inl rfl) (VwsS.same vs)
def MtX' (f : Sto → T → List T → Option T) : Prop := ∀ S v vs r, f emp v vs = some r → f S v vs = some r
theorem mtx_tixF : MtX' tixF := fun _ _ _ _ h => h
theorem dView_v {S : Sto} {z v : T} {p : List T × List T} (h : VwS S z v) (e : dView emp v = some p) : dView S z = some p := by
  rcases h with rfl | ⟨a, xs, rfl, h, rfl⟩ | ⟨a, n, ks, vs, rfl, h, rfl⟩
  · cases z with
    | ref a => cases e
    | dct n ks vs => cases n <;> exact e
    | _ => exact e
  · cases e
  · cases n with
    | false => simp only [dView, h]; exact e
    | true => cases e
theorem dg2T_v {S : Sto} {x v y z r : T} (h : VwS S x v) (e : dg2T emp v y z = some r) : dg2T S x y z = some r := by
  unfold dg2T at e ⊢
  split at e
  · rename_i p k e1 e2
    rw [dView_v h e1, e2]
    exact e
  · cases e
theorem slT_v {S : Sto} {z v r : T} {lo hi : Option Int} (h : VwS S z v) (e : slT emp v lo hi = some r) : slT S z lo hi = some r := by
  rcases h.res with ⟨e1, e1'⟩ | ⟨a, rfl⟩ | ⟨n, ks, vs, rfl⟩
  · unfold slT at e ⊢
    rw [e1]
    rw [e1'] at e
    exact e
  · cases e
  · cases e
end TL
namespace TL
open PySem PySem.Spec PyProof.Rows L2
section
variable {κ : Type} {α β γ : Type}
def XE (W : κ → Sto) (p : TEnv) (l : Cs) (e : TTE) (m : PM κ T) : Prop := ∀ (Q E : T → Sto → Prop) k τ S, En p τ → SI W l k S → Sat (m k) (fun v k' => ∀ S', SI W l k' S' → Q v S') (fun x k' => ∀ S', SI W [] k' S' → E x S') → e τ S Q E
def XV (W : κ → Sto) (p : TEnv) (l : Cs) (e : TTE) (m : PM κ T) : Prop := ∀ (Q E : T → Sto → Prop) k τ S, En p τ → SI W l k S → Sat (m k) (fun v k' => ∀ z S', SI W l k' S' → Vw l z v → Q z S') (fun x k' => ∀ S', SI W [] k' S' → E x S') → e τ S Q E
def XTs (W : κ → Sto) (p : TEnv) (l : Cs) (e : TTB) (m : PM κ Bool) : Prop := ∀ (Q : Bool → Sto → Prop) (E : T → Sto → Prop) k τ S, En p τ → SI W l k S → Sat (m k) (fun v k' => ∀ S', SI W l k' S' → Q v S') (fun x k' => ∀ S', SI W [] k' S' → E x S') → e τ S Q E
def XO (W : κ → Sto) (p : TEnv) (l : Cs) (e : TTO) (m : PM κ (Option Int)) : Prop := ∀ (Q : Option Int → Sto → Prop) (E : T → Sto → Prop) k τ S, En p τ → SI W l k S → Sat (m k) (fun v k' => ∀ S', SI W l k' S' → Q v S') (fun x k' => ∀ S', SI W [] k' S' → E x S') → e τ S Q E
/-- arguments, exact or seen; in continuation form -/
def XA (W : κ → Sto) (p : TEnv) (l : Cs) (n : Nat) (a : TTA) (m : (List T → PM κ β) → PM κ β) : Prop := ∀ (K : List T → PM κ β) (P : β → κ → Prop) (X : T → κ → Prop) (Q : List T → Sto → Prop) (E : T → Sto → Prop) k τ S, En p τ → SI W l k S → Sat (m K k) P X →
  (∀ zs k' S', zs.length = n → SI W l k' S' → Sat (K zs k') P X → Q zs S') → (∀ x k' S', SI W [] k' S' → X x k' → E x S') → a τ S Q E
def XAV (W : κ → Sto) (p : TEnv) (l : Cs) (a : TTA) (m : (List T → PM κ β) → PM κ β) : Prop := ∀ (K : List T → PM κ β) (P : β → κ → Prop) (X : T → κ → Prop) (Q : List T → Sto → Prop) (E : T → Sto → Prop) k τ S, En p τ → SI W l k S → Sat (m K k) P X →
  (∀ zs vs k' S', Vws l zs vs → SI W l k' S' → Sat (K vs k') P X → Q zs S') → (∀ x k' S', SI W [] k' S' → X x k' → E x S') → a τ S Q E
/-- what is walked; y: nothing hangs on the store -/
def XI (W : κ → Sto) (p : TEnv) (l : Cs) (it : TTI) (m : PM κ (List T)) : Prop := ∀ (Q : List T → (Sto → Prop) → Sto → Prop) (E : T → Sto → Prop) k τ S, En p τ → SI W l k S → Sat (m k) (fun xs k' => ∀ S' g, SI W l k' S' → (∀ k S, SI W l k S → g S) → Q xs g S') (fun x k' => ∀ S', SI W [] k' S' → E x S') → it τ S Q E
def XIy (W : κ → Sto) (p : TEnv) (l : Cs) (it : TTI) (m : PM κ (List T)) : Prop := ∀ (Q : List T → (Sto → Prop) → Sto → Prop) (E : T → Sto → Prop) k τ S, En p τ → SI W l k S → Sat (m k) (fun xs k' => ∀ S', SI W l k' S' → Q xs yes S') (fun x k' => ∀ S', SI W [] k' S' → E x S') → it τ S Q E
variable {W : κ → Sto} {p : TEnv} {l : Cs} {e a b c : TTE} {m ma mb mc : PM κ T}
theorem XE.v (h : XE W p l e m) : XV W p l e m := fun Q E k τ S hE i s => h Q E k τ S hE i (s.mono (fun v k' q S' j => q v S' j (.inl rfl)) fun _ _ q => q)
theorem XIy.i {it : TTI} {m : PM κ (List T)} (h : XIy W p l it m) : XI W p l it m := fun Q E k τ S hE i s => h Q E k τ S hE i (s.mono (fun v k' q S' j => q S' yes j fun _ _ _ => trivial) fun _ _ q => q)
theorem xe_c {t : T} : XE W p l (cC t) (pu t) := fun Q E k τ S hE i s => s S i
theorem xe_var {i : Nat} {x : T} (h : p[i]? = some (some x)) : XE W p l (cVar i) (pu x) := fun Q E k τ S hE i s => ⟨x, hE.get h, s S i⟩
theorem xe_op {op : Sto → T → T → Option T} (ho : OpV op) (ha : XV W p l a ma) (hb : XV W p l b mb) : XE W p l (cOp op a b) (bd ma fun x => bd mb fun y => ofO (op emp x y)) := fun Q E k τ S hE i s => by
  refine ha _ _ k τ S hE i ((Sat.bd.mp s).mono (fun v k1 s1 z S1 i1 w1 => ?_) fun _ _ q => q)
  refine hb _ _ k1 τ S1 hE i1 ((Sat.bd.mp s1).mono (fun v2 k2 s2 z2 S2 i2 w2 => ?_) fun _ _ q => q)
  unfold ofO at s2
  cases q : op emp v v2 with
  | none => rw [q] at s2; exact s2.elim
  | some r => rw [q] at s2; exact ⟨r, ho S2 _ _ _ _ r (w1.at i2) (w2.at i2) q, s2 S2 i2⟩
theorem xe_opx {op : Sto → T → T → Option T} (ho : OpX' op) (ha : XE W p l a ma) (hb : XE W p l b mb) : XE W p l (cOp op a b) (bd ma fun x => bd mb fun y => ofO (op emp x y)) := fun Q E k τ S hE i s => by
  refine ha _ _ k τ S hE i ((Sat.bd.mp s).mono (fun v k1 s1 S1 i1 => ?_) fun _ _ q => q)
  refine hb _ _ k1 τ S1 hE i1 ((Sat.bd.mp s1).mono (fun v2 k2 s2 S2 i2 => ?_) fun _ _ q => q)
  unfold ofO at s2
  cases q : op emp v v2 with
  | none => rw [q] at s2; exact s2.elim
  | some r => rw [q] at s2; exact ⟨r, ho S2 _ _ r q, s2 S2 i2⟩
/-- the first exact, the second seen (in, not in) -/
theorem xe_opr {op : Sto → T → T → Option T} (ho : ∀ S x y v r, VwS S y v → op emp x v = some r → op S x y = some r) (ha : XE W p l a ma) (hb : XV W p l b mb) : XE W p l (cOp op a b) (bd ma fun x => bd mb fun y => ofO (op emp x y)) := fun Q E k τ S hE i s => by
  refine ha _ _ k τ S hE i ((Sat.bd.mp s).mono (fun v k1 s1 S1 i1 => ?_) fun _ _ q => q)
  refine hb _ _ k1 τ S1 hE i1 ((Sat.bd.mp s1).mono (fun v2 k2 s2 z2 S2 i2 w2 => ?_) fun _ _ q => q)
  unfold ofO at s2
  cases q : op emp v v2 with
  | none => rw [q] at s2; exact s2.elim
  | some r => rw [q] at s2; exact ⟨r, ho S2 _ _ _ r (w2.at i2) q, s2 S2 i2⟩
theorem xe_un {op : Sto → T → Option T} (ho : UnV op) (ha : XV W p l a ma) : XE W p l (cUn op a) (bd ma fun x => ofO (op emp x)) := fun Q E k τ S hE i s => by
  refine ha _ _ k τ S hE i ((Sat.bd.mp s).mono (fun v k1 s1 z S1 i1 w1 => ?_) fun _ _ q => q)
  unfold ofO at s1
  cases q : op emp v with
  | none => rw [q] at s1; exact s1.elim
  | some r => rw [q] at s1; exact ⟨r, ho S1 _ _ r (w1.at i1) q, s1 S1 i1⟩
def tb (x : T) : PM κ Bool := match x with
  | .bl b => pu b
  | _ => stuck
theorem tb_bl {b : Bool} : tb (κ := κ) (.bl b) = pu b := rfl
theorem sat_tb {x : T} {k : κ} {P : Bool → κ → Prop} {X : T → κ → Prop} (h : Sat (tb x k) P X) : ∃ b, x = .bl b ∧ P b k := by
  cases x with
  | bl b => exact ⟨b, rfl, h⟩
  | _ => exact h.elim
theorem xb_val (ha : XE W p l a ma) : XTs W p l (bVal a) (bd ma tb) := fun Q E k τ S hE i s => by
  refine ha _ _ k τ S hE i ((Sat.bd.mp s).mono (fun v k1 s1 S1 i1 => ?_) fun _ _ q => q)
  obtain ⟨b, e, q⟩ := sat_tb s1
  exact ⟨b, e, q S1 i1⟩
variable {ca cb : TTB} {na nb : PM κ Bool}
theorem xb_and (ha : XTs W p l ca na) (hb : XTs W p l cb nb) : XTs W p l (bAnd ca cb) (bd na fun t => if t = true then nb else pu false) := fun Q E k τ S hE i s => by
  refine ha _ _ k τ S hE i ((Sat.bd.mp s).mono (fun v k1 s1 S1 i1 => ?_) fun _ _ q => q)
  cases v with
  | true => exact hb _ _ k1 τ S1 hE i1 s1
  | false => exact s1 S1 i1
theorem xb_or (ha : XTs W p l ca na) (hb : XTs W p l cb nb) : XTs W p l (bOr ca cb) (bd na fun t => if t = true then pu true else nb) := fun Q E k τ S hE i s => by
  refine ha _ _ k τ S hE i ((Sat.bd.mp s).mono (fun v k1 s1 S1 i1 => ?_) fun _ _ q => q)
  cases v with
  | false => exact hb _ _ k1 τ S1 hE i1 s1
  | true => exact s1 S1 i1
theorem xe_and (ha : XE W p l a ma) (hb : XE W p l b mb) : XE W p l (cAnd a b) (bd ma fun x => bd (tb x) fun t => if t = true then mb else pu (.bl false)) := fun Q E k τ S hE i s => by
  refine ha _ _ k τ S hE i ((Sat.bd.mp s).mono (fun v k1 s1 S1 i1 => ?_) fun _ _ q => q)
  obtain ⟨t, e, q⟩ := sat_tb (Sat.bd.mp s1)
  refine ⟨t, e, ?_⟩
  cases t with
  | true => exact hb _ _ k1 τ S1 hE i1 q
  | false => exact q S1 i1
theorem xa_nil : XA (β := β) W p l 0 cNil (fun K => K []) := fun K P X Q E k τ S hE i s h _ => h [] k S rfl i s
theorem xa_cons {n : Nat} {r : TTA} {mr : (List T → PM κ β) → PM κ β} (ha : XE W p l a ma) (hr : XA W p l n r mr) : XA W p l (n + 1) (cCons a r) (fun K => bd ma fun x => mr fun xs => K (x :: xs)) := fun K P X Q E k τ S hE i s h hx => by
  refine ha _ _ k τ S hE i ((Sat.bd.mp s).mono (fun v k1 s1 S1 i1 => ?_) fun x k1 q S1 i1 => hx x k1 S1 i1 q)
  exact hr _ P X _ E k1 τ S1 hE i1 s1 (fun zs k2 S2 e i2 s2 => h (v :: zs) k2 S2 (by rw [List.length_cons, e]) i2 s2) hx
theorem xav_nil : XAV (β := β) W p l cNil (fun K => K []) := fun K P X Q E k τ S hE i s h _ => h [] [] k S .nil i s
theorem xav_cons {r : TTA} {mr : (List T → PM κ β) → PM κ β} (ha : XV W p l a ma) (hr : XAV W p l r mr) : XAV W p l (cCons a r) (fun K => bd ma fun x => mr fun xs => K (x :: xs)) := fun K P X Q E k τ S hE i s h hx => by
  refine ha _ _ k τ S hE i ((Sat.bd.mp s).mono (fun v k1 s1 z S1 i1 w1 => ?_) fun x k1 q S1 i1 => hx x k1 S1 i1 q)
  exact hr _ P X _ E k1 τ S1 hE i1 s1 (fun zs vs k2 S2 w2 i2 s2 => h (z :: zs) (v :: vs) k2 S2 (.cons w1 w2) i2 s2) hx
theorem small_line {n : Nat} (h : n ≤ 1000) : n ≤ sizeLine := by have := sizeLine_eq; omega
theorem xe_tup {n : Nat} {r : TTA} {mr : (List T → PM κ T) → PM κ T} (h : XA W p l n r mr) (hn : n ≤ 1000 := by decide) : XE W p l (cTup r) (mr fun xs => pu (.tup xs)) := fun Q E k τ S hE i s =>
  h _ _ _ _ E k τ S hE i s (fun zs k' S' e i' s' => ⟨by rw [e]; exact small_line hn, s' S' i'⟩) fun x k' S' i' q => q S' i'
theorem xe_lst {n : Nat} {r : TTA} {mr : (List T → PM κ T) → PM κ T} (h : XA W p l n r mr) (hn : n ≤ 1000 := by decide) : XE W p l (cLst r) (mr fun xs => pu (.lst xs)) := fun Q E k τ S hE i s =>
  h _ _ _ _ E k τ S hE i s (fun zs k' S' e i' s' => ⟨by rw [e]; exact small_line hn, s' S' i'⟩) fun x k' S' i' q => q S' i'
theorem xe_fn {g : Sto → List T → Option T} {r : TTA} {mr : (List T → PM κ T) → PM κ T} (hg : FnV g) (h : XAV W p l r mr) : XE W p l (cFn g r) (mr fun xs => ofO (g emp xs)) := fun Q E k τ S hE i s =>
  h _ _ _ _ E k τ S hE i s (fun zs vs k' S' w i' s' => by
    unfold ofO at s'
    cases q : g emp vs with
    | none => rw [q] at s'; exact s'.elim
    | some r => rw [q] at s'; exact ⟨r, hg S' _ _ r (w.at i') q, s' S' i'⟩) fun x k' S' i' q => q S' i'
theorem xe_fnx {g : Sto → List T → Option T} {r : TTA} {n : Nat} {mr : (List T → PM κ T) → PM κ T} (hg : FnX' g) (h : XA W p l n r mr) : XE W p l (cFn g r) (mr fun xs => ofO (g emp xs)) := fun Q E k τ S hE i s =>
  h _ _ _ _ E k τ S hE i s (fun zs k' S' e i' s' => by
    unfold ofO at s'
    cases q : g emp zs with
    | none => rw [q] at s'; exact s'.elim
    | some r => rw [q] at s'; exact ⟨r, hg S' _ r q, s' S' i'⟩) fun x k' S' i' q => q S' i'
theorem xe_mx {kk : T → Bool} {f : Sto → T → List T → Option T} {r : TTA} {n : Nat} {mr : T → (List T → PM κ T) → PM κ T} (hf : MtX' f) (ha : XE W p l a ma) (h : ∀ x, XA W p l n r (mr x)) :
    XE W p l (cM kk f a r) (bd ma fun x => bd (gd (kk x = true)) fun _ => mr x fun xs => ofO (f emp x xs)) := fun Q E k τ S hE i s => by
  refine ha _ _ k τ S hE i ((Sat.bd.mp s).mono (fun v k1 s1 S1 i1 => ?_) fun _ _ q => q)
  have s2 := Sat.bd.mp s1
  unfold gd at s2
  by_cases hk : kk v = true
  · rw [if_pos hk] at s2
    refine ⟨hk, h v _ _ _ _ E k1 τ S1 hE i1 s2 (fun zs k' S' e i' s' => ?_) fun x k' S' i' q => q S' i'⟩
    unfold ofO at s'
    cases q : f emp v zs with
    | none => rw [q] at s'; exact s'.elim
    | some r => rw [q] at s'; exact ⟨r, hf S' _ _ r q, s' S' i'⟩
  · rw [if_neg hk] at s2; exact s2.elim
def intO (x : T) : PM κ Int := match x with
  | .int i => pu i
  | _ => stuck
theorem intO_int {i : Int} : intO (κ := κ) (.int i) = pu i := rfl
theorem xo_no : XO W p l oNo (pu none) := fun Q E k τ S hE i s => s S i
theorem xo_some (ha : XE W p l a ma) : XO W p l (oSome a) (bd ma fun x => bd (intO x) fun i => pu (some i)) := fun Q E k τ S hE i s => by
  refine ha _ _ k τ S hE i ((Sat.bd.mp s).mono (fun v k1 s1 S1 i1 => ?_) fun _ _ q => q)
  cases v with
  | int j => exact ⟨j, rfl, s1 S1 i1⟩
  | _ => exact s1.elim
theorem xe_sl {lo hi : TTO} {ml mh : PM κ (Option Int)} (ha : XV W p l a ma) (hl : XO W p l lo ml) (hh : XO W p l hi mh) : XE W p l (cSl a lo hi) (bd ma fun x => bd ml fun i => bd mh fun j => ofO (slT emp x i j)) := fun Q E k τ S hE i s => by
  refine ha _ _ k τ S hE i ((Sat.bd.mp s).mono (fun v k1 s1 z S1 i1 w1 => ?_) fun _ _ q => q)
  refine hl _ _ k1 τ S1 hE i1 ((Sat.bd.mp s1).mono (fun v2 k2 s2 S2 i2 => ?_) fun _ _ q => q)
  refine hh _ _ k2 τ S2 hE i2 ((Sat.bd.mp s2).mono (fun v3 k3 s3 S3 i3 => ?_) fun _ _ q => q)
  unfold ofO at s3
  cases q : slT emp v v2 v3 with
  | none => rw [q] at s3; exact s3.elim
  | some r => rw [q] at s3; exact ⟨r, slT_v (w1.at i3) q, s3 S3 i3⟩
def itemsM (v : T) : PM κ (List T) := match v with
  | .tup xs => pu xs
  | .lst xs => pu xs
  | .str x => pu (x.map fun c => .str [c])
  | _ => stuck
theorem itemsM_tup {xs : List T} : itemsM (κ := κ) (.tup xs) = pu xs := rfl
theorem itemsM_lst {xs : List T} : itemsM (κ := κ) (.lst xs) = pu xs := rfl
theorem itemsM_str {x : List Sg} : itemsM (κ := κ) (.str x) = pu (x.map fun c => .str [c]) := rfl
theorem xiy_seq (ha : XE W p l a ma) : XIy W p l (iSeq a) (bd ma itemsM) := fun Q E k τ S hE i s => by
  refine ha _ _ k τ S hE i ((Sat.bd.mp s).mono (fun v k1 s1 S1 i1 => ?_) fun _ _ q => q)
  cases v with
  | tup xs => exact ⟨_, rfl, s1 S1 i1⟩
  | lst xs => exact ⟨_, rfl, s1 S1 i1⟩
  | str xs => exact ⟨_, rfl, s1 S1 i1⟩
  | _ => exact s1.elim
def rng1 (x : T) : PM κ (List T) := match x with
  | .int j => bd (gd (-(2 ^ 62) ≤ j ∧ j < 2 ^ 62)) fun _ => pu ((List.range j.toNat).map fun i => T.int (0 + (i : Nat)))
  | _ => stuck
def rng2 (x y : T) : PM κ (List T) := match x, y with
  | .int i, .int j => bd (gd (-(2 ^ 62) ≤ i ∧ i < 2 ^ 62 ∧ -(2 ^ 62) ≤ j ∧ j < 2 ^ 62)) fun _ => pu ((List.range (j - i).toNat).map fun k => T.int (i + (k : Nat)))
  | _, _ => stuck
theorem rng1_int {j : Int} (h : -(2 ^ 62) ≤ j ∧ j < 2 ^ 62) : rng1 (κ := κ) (.int j) = pu ((List.range j.toNat).map fun i => T.int (0 + (i : Nat))) := by
  show bd (gd _) _ = _
  rw [gd_true h]; rfl
theorem rng2_int {i j : Int} (h : -(2 ^ 62) ≤ i ∧ i < 2 ^ 62 ∧ -(2 ^ 62) ≤ j ∧ j < 2 ^ 62) : rng2 (κ := κ) (.int i) (.int j) = pu ((List.range (j - i).toNat).map fun k => T.int (i + (k : Nat))) := by
  show bd (gd _) _ = _
  rw [gd_true h]; rfl
theorem sat_gd {b : Prop} [Decidable b] {k : κ} {P : Unit → κ → Prop} {X : T → κ → Prop} (h : Sat (gd b k) P X) : b ∧ P () k := by
  unfold gd at h
  split at h
  · exact ⟨by assumption, h⟩
  · exact h.elim
theorem xiy_range1 (ha : XE W p l a ma) : XIy W p l (iRange1 a) (bd ma rng1) := fun Q E k τ S hE i s => by
  refine ha _ _ k τ S hE i ((Sat.bd.mp s).mono (fun v k1 s1 S1 i1 => ?_) fun _ _ q => q)
  cases v with
  | int j =>
    obtain ⟨hb, q⟩ := sat_gd (Sat.bd.mp s1)
    exact ⟨j, rfl, hb.1, hb.2, q S1 i1⟩
  | _ => exact s1.elim
theorem xiy_range2 (ha : XE W p l a ma) (hb : XE W p l b mb) : XIy W p l (iRange2 a b) (bd ma fun x => bd mb fun y => rng2 x y) := fun Q E k τ S hE i s => by
  refine ha _ _ k τ S hE i ((Sat.bd.mp s).mono (fun v k1 s1 S1 i1 => ?_) fun _ _ q => q)
  refine hb _ _ k1 τ S1 hE i1 ((Sat.bd.mp s1).mono (fun v2 k2 s2 S2 i2 => ?_) fun _ _ q => q)
  cases v with
  | int j =>
    cases v2 with
    | int j2 =>
      obtain ⟨hb, q⟩ := sat_gd (Sat.bd.mp s2)
      exact ⟨j, j2, rfl, rfl, hb, q S2 i2⟩
    | _ => exact s2.elim
  | _ => exact s2.elim
def spU (f : List T → PM Unit T) : SpT := fun ts S Q E => Sat (f ts ()) (fun v _ => Q v S) (fun x _ => E x S)
def spP (f : List T → PM Cell T) : SpT := fun ts S Q E => ∃ p rest c, ts = .ref p :: rest ∧ S p = some c ∧ Sat (f rest c) (fun v c' => Q v (ups S p c')) (fun x c' => E x (ups S p c'))
theorem xe_call {n : Nat} {f : List T → PM Unit T} {r : TTA} {mr : (List T → PM κ T) → PM κ T} (h : XA W p l n r mr) : XE W p l (cCall (spU f) r) (mr fun xs => lft (f xs)) := fun Q E k τ S hE i s =>
  h _ _ _ _ E k τ S hE i s (fun zs k' S' e i' s' => (Sat.lft.mp s').mono (fun v _ q => q S' i') fun x _ q => q S' i'.nil) fun x k' S' i' q => q S' i'
/-- by the pen -/
abbrev penW (S0 : Sto) (a : Addr) : Cell → Sto := fun c => ups S0 a c
theorem SI.pen {S0 : Sto} {a : Addr} {c d : Cell} {S : Sto} (i : SI (penW S0 a) l c S) : SI (penW S0 a) l d (ups S a d) := by
  have ne : ∀ e ∈ l, e.1 ≠ a := fun e h z => by
    have := i.own e h
    rw [z] at this
    rw [show penW S0 a c a = some c from ups_same] at this
    cases this
  refine ⟨fun e h => by rw [ups_ne (ne e h)]; exact i.at_ e h, fun e h => ?_, i.nd, fun b q h => ?_⟩
  · have := i.own e h
    rw [show penW S0 a c e.1 = S0 e.1 from ups_ne (ne e h)] at this
    rw [show penW S0 a d e.1 = S0 e.1 from ups_ne (ne e h)]
    exact this
  · by_cases hb : b = a
    · subst hb
      rw [show penW S0 b d b = some d from ups_same] at h
      cases h
      exact ups_same
    · rw [show penW S0 a d b = S0 b from ups_ne hb] at h
      rw [ups_ne hb]
      exact i.base b q (by rw [show penW S0 a c b = S0 b from ups_ne hb]; exact h)
end
section
variable {S0 : Sto} {pa : Addr} {p : TEnv} {l : Cs}
theorem xe_callP {n : Nat} {f : List T → PM Cell T} {i : Nat} {r : TTA} {mr : (List T → PM Cell T) → PM Cell T} (hp : p[i]? = some (some (.ref pa))) (h : XA (penW S0 pa) p l n r mr) : XE (penW S0 pa) p l (cCall (spP f) (cCons (cVar i) r)) (mr f) := fun Q E k τ S hE i s => by
  refine ⟨.ref pa, hE.get hp, ?_⟩
  refine h _ _ _ _ E k τ S hE i s (fun zs k' S' e i' s' => ?_) fun x k' S' i' q => q S' i'
  exact ⟨pa, zs, k', rfl, i'.base pa k' ups_same, s'.mono (fun v c' q => q _ i'.pen) fun x c' q => q _ i'.pen.nil⟩
end
end TL
namespace TL
open PySem PySem.Spec PyProof.Rows L2
def FzE (S S2 : Sto) (τ τ2 : TEnv) : Prop := τ.length = τ2.length ∧ ∀ (i : Nat) (u : T), τ2[i]? = some (some u) → ∃ t, τ[i]? = some (some t) ∧ Fz S S2 t u
def cDrop (t : TTS) : TTS := fun D τ S E => ∃ τ2 S2, Sub S2 S ∧ FzE S S2 τ τ2 ∧ t D τ2 S2 E
theorem tss_drop {X : Cx} {rest : List Stmt} {t : TTS} (h : TSs X rest t) : TSs X rest (cDrop t) := fun M S0 H0 E tk =>
  (h M S0 H0 E tk).weak fun D σ H ⟨τ, S, B, rel, ⟨τ2, S2, sub, fz, q⟩, k1, k2, k3, k4⟩ =>
    have x := sub.ext (H := H)
    ⟨τ2, S2, B, ⟨⟨rel.env.1.trans fz.1, fun i u e => by
      obtain ⟨t, e1, f⟩ := fz.2 i u e
      obtain ⟨v, h1, h2⟩ := rel.env.2 i t e1
      exact ⟨v, h1, Fz.rep rel.sto sub f h2⟩⟩, rel.sto.drop sub, rel.ext.trans x⟩, q, fun σ' H' τ' S' r x' => k1 σ' H' τ' S' r (x.trans x'), fun z S' v H' o x' => k2 z S' v H' o (x.trans x'),
      fun σ' H' τ' S' r x' => k3 σ' H' τ' S' r (x.trans x'), fun σ' H' τ' S' r x' => k4 σ' H' τ' S' r (x.trans x')⟩

inductive Dest where
  | nx (p : TEnv) (l : Cs)
  | rt (v : T)
  | bk (p : TEnv) (l : Cs)
  | ct (p : TEnv) (l : Cs)
  | fin
section
variable {κ : Type} {α β γ σ : Type}
def DOk (W : κ → Sto) (D : TD) (k : κ) : Dest → Prop
  | .nx p l => ∀ τ S, En p τ → SI W l k S → D.nx τ S
  | .rt v => ∀ l z S, SI W l k S → Vw l z v → D.rt z S
  | .bk p l => ∀ τ S, En p τ → SI W l k S → D.bk τ S
  | .ct p l => ∀ τ S, En p τ → SI W l k S → D.ct τ S
  | .fin => ∀ τ l S, SI W l k S → D.nx τ S
def XS (W : κ → Sto) (p : TEnv) (l : Cs) (t : TTS) (m : PM κ β) (post : β → Dest) : Prop := ∀ (D : TD) (E : T → TEnv → Sto → Prop) k τ S, En p τ → SI W l k S →
  Sat (m k) (fun b k' => DOk W D k' (post b)) (fun x k' => ∀ τ' S', SI W [] k' S' → E x τ' S') → t D τ S E
/-- a target, a body -/
def XF (W : κ → Sto) (p : TEnv) (l : Cs) (g : TTG) (t : TTS) (m : PM κ β) (post : β → Dest) (z : T) : Prop := ∀ (D : TD) (E : T → TEnv → Sto → Prop) k τ S, En p τ → SI W l k S →
  Sat (m k) (fun b k' => DOk W D k' (post b)) (fun x k' => ∀ τ' S', SI W [] k' S' → E x τ' S') → g z τ S fun τ1 S1 => t D τ1 S1 E
/-- a comprehension's turn -/
def XCi (W : κ → Sto) (p : TEnv) (l : Cs) (g : TTG) (c : TTB) (e : TTE) (m : PM κ (Option T)) (z : T) : Prop := ∀ (R : T → Sto → Prop) (N : Sto → Prop) k τ S, En p τ → SI W l k S →
  Sat (m k) (fun o k' => ∀ S', SI W l k' S' → match o with | some y => R y S' | none => N S') (fun _ _ => False) → g z τ S fun τ1 S1 => c τ1 S1 (fun b S2 => if b = true then e τ1 S2 R (fun _ _ => False) else N S2) fun _ _ => False
def XGt (g : TTG) (p : TEnv) (u : T → Option β) (pf : β → TEnv) : Prop := ∀ z b τ S Q, u z = some b → En p τ → (∀ τ', En (pf b) τ' → Q τ' S) → g z τ S Q
def un2 : T → Option (T × T)
  | .tup [a, b] => some (a, b)
  | _ => none
def un3 : T → Option (T × T × T)
  | .tup [a, b, c] => some (a, b, c)
  | _ => none
def un4 : T → Option (T × T × T × T)
  | .tup [a, b, c, d] => some (a, b, c, d)
  | _ => none
theorem un2_tup {a b : T} : un2 (.tup [a, b]) = some (a, b) := rfl
theorem un3_tup {a b c : T} : un3 (.tup [a, b, c]) = some (a, b, c) := rfl
theorem un4_tup {a b c d : T} : un4 (.tup [a, b, c, d]) = some (a, b, c, d) := rfl
theorem un2_is {z : T} {b : T × T} (h : un2 z = some b) : z = .tup [b.1, b.2] := by
  unfold un2 at h
  split at h
  · cases h; rfl
  · cases h
theorem un3_is {z : T} {b : T × T × T} (h : un3 z = some b) : z = .tup [b.1, b.2.1, b.2.2] := by
  unfold un3 at h
  split at h
  · cases h; rfl
  · cases h
variable {W : κ → Sto} {p : TEnv} {l : Cs}
theorem xg_2 {i j : Nat} : XGt (gT (gC (gN i) (gC (gN j) gZ))) p un2 (fun b => (p.set i (some b.1)).set j (some b.2)) := fun z b τ S Q e h q => by
  rw [un2_is e]
  exact ⟨_, rfl, _, _, rfl, _, _, rfl, rfl, q _ h.set.set⟩
theorem xg_3 {i j k : Nat} : XGt (gT (gC (gN i) (gC (gN j) (gC (gN k) gZ)))) p un3 (fun b => ((p.set i (some b.1)).set j (some b.2.1)).set k (some b.2.2)) := fun z b τ S Q e h q => by
  rw [un3_is e]
  exact ⟨_, rfl, _, _, rfl, _, _, rfl, _, _, rfl, rfl, q _ h.set.set.set⟩
theorem sat_ofO {o : Option α} {k : κ} {P : α → κ → Prop} {X : T → κ → Prop} (h : Sat (ofO o k) P X) : ∃ a, o = some a ∧ P a k := by
  cases o with
  | none => exact h.elim
  | some a => exact ⟨a, rfl, h⟩
theorem xf_name {i : Nat} {t : TTS} {m : PM κ β} {post : β → Dest} {z : T} (h : XS W (p.set i (some z)) l t m post) : XF W p l (gN i) t m post z := fun D E k τ S hE i s => h D E k _ S hE.set i s
theorem xf_un {δ : Type} {g : TTG} {t : TTS} {u : T → Option δ} {pf : δ → TEnv} {f : δ → PM κ β} {post : β → Dest} {z : T} (hg : XGt g p u pf) (h : ∀ b, XS W (pf b) l t (f b) post) : XF W p l g t (bd (ofO (u z)) f) post z := fun D E k τ S hE i s => by
  obtain ⟨b, e, s1⟩ := sat_ofO (Sat.bd.mp s)
  exact hg z b τ S _ e hE fun τ' hE' => h b D E k τ' S hE' i s1
/-- nothing is raised -/
def nox (m : PM κ α) : PM κ α := fun k => match m k with
  | .ok a k' => .ok a k'
  | _ => .bad
theorem sat_nox {m : PM κ α} {k : κ} {P : α → κ → Prop} {X : T → κ → Prop} (h : Sat (nox m k) P X) : Sat (m k) P (fun _ _ => False) := by
  unfold nox at h
  cases q : m k with
  | ok a k' => rw [q] at h; exact h
  | exc x k' => rw [q] at h; exact h
  | bad => rw [q] at h; exact h
def compM (f : T → PM κ (Option T)) : List T → PM κ (List T)
  | [] => pu []
  | x :: xs => bd (nox (f x)) fun o => bd (compM f xs) fun ys => pu (o.toList ++ ys)
def compG (f : T → PM κ (Option T)) (xs : List T) : PM κ (List T) := bd (gd (xs.length ≤ sizeLine)) fun _ => compM f xs
section
variable {g : TTG} {c : TTB} {e : TTE} {own : List Nat} {it : TTI} {mi : PM κ (List T)} {f : T → PM κ (Option T)}
theorem comp_run {gd : Sto → Prop} (hgd : ∀ k S, SI W l k S → gd S) (hf : ∀ x, XCi W (wipeT p own) l g c e (f x) x) {K : List T → Sto → Prop} {X : T → κ → Prop} {τ : TEnv} (hE : En p τ) : ∀ (xs acc : List T) (k : κ) (S : Sto), SI W l k S → acc.length + xs.length ≤ sizeLine →
    Sat (compM f xs k) (fun ys k' => ∀ S', SI W l k' S' → K (acc ++ ys) S') X → compT g c e own gd τ K xs acc S
  | [], acc, k, S, i, _, s => ⟨hgd _ _ i, by simpa using s S i⟩
  | x :: xs, acc, k, S, i, hl, s => by
    rw [List.length_cons] at hl
    refine ⟨hgd _ _ i, hf x _ _ k _ S (hE.wipe own) i ((sat_nox (Sat.bd.mp s)).mono (fun o k1 s1 S1 i1 => ?_) fun _ _ q => q)⟩
    have s2 := Sat.bd.mp s1
    cases o with
    | none => exact comp_run hgd hf hE xs acc k1 S1 i1 (by omega) (X := X) (s2.mono (fun ys k2 q S' i' => q S' i') fun _ _ q => q)
    | some y => exact ⟨by omega, comp_run hgd hf hE xs (acc ++ [y]) k1 S1 i1 (by simp; omega) (X := X) (s2.mono (fun ys k2 q S' i' => by
        have q := q S' i'
        simpa using q) fun _ _ q => q)⟩
theorem xe_comp (hi : XI W p l it mi) (hf : ∀ x, XCi W (wipeT p own) l g c e (f x) x) : XE W p l (cComp it g c e own) (bd mi fun xs => bd (compG f xs) fun ys => pu (.lst ys)) := fun Q E k τ S hE i s => by
  refine hi _ _ k τ S hE i ((Sat.bd.mp s).mono (fun xs k1 s1 S1 gd i1 hgd => ?_) fun _ _ q => q)
  have s2 := Sat.bd.mp s1
  obtain ⟨hl, s3⟩ := sat_gd (Sat.bd.mp s2)
  exact comp_run hgd hf hE xs [] k1 S1 i1 (by simpa using hl) s3
theorem xc_name {i : Nat} {mc : PM κ Bool} {me : PM κ T} {z : T} (hc : XTs W (p.set i (some z)) l c mc) (he : XE W (p.set i (some z)) l e me) : XCi W p l (gN i) c e (bd mc fun t => if t = true then bd me fun y => pu (some y) else pu none) z := fun R N k τ S hE i s => by
  refine hc _ _ k _ S hE.set i ((Sat.bd.mp s).mono (fun b k1 s1 S1 i1 => ?_) fun _ _ q => q.elim)
  cases b with
  | true => exact he _ _ k1 _ S1 hE.set i1 ((Sat.bd.mp s1).mono (fun v k2 s2 S2 i2 => s2 S2 i2) fun _ _ q => q.elim)
  | false => exact s1 S1 i1
theorem xc_nameY {i : Nat} {me : PM κ T} {z : T} (he : XE W (p.set i (some z)) l e me) : XCi W p l (gN i) bYes e (bd me fun y => pu (some y)) z := fun R N k τ S hE i s =>
  he _ _ k _ S hE.set i ((Sat.bd.mp s).mono (fun v k2 s2 S2 i2 => s2 S2 i2) fun _ _ q => q.elim)
end
def XN (W : κ → Sto) (p : TEnv) (l : Cs) (e : TTE) (m : PM κ α) (z : α → Addr → T) (cc : α → Addr → Cs) : Prop := ∀ (Q E : T → Sto → Prop) k τ S, En p τ → SI W l k S → Sat (m k) (fun v k' => ∀ S' a, SI W (cc v a ++ l) k' S' → Q (z v a) S') (fun x k' => ∀ S', SI W [] k' S' → E x S') → e τ S Q E
theorem xn_e {e : TTE} {m : PM κ T} (h : XE W p l e m) : XN W p l e m (fun v _ => v) (fun _ _ => []) := fun Q E k τ S hE i s => h Q E k τ S hE i (s.mono (fun v k' q S' i' => q S' 0 i') fun _ _ q => q)
theorem xn_comp {g : TTG} {c : TTB} {e : TTE} {own : List Nat} {it : TTI} {mi : PM κ (List T)} {f : T → PM κ (Option T)} (hi : XI W p l it mi) (hf : ∀ x, XCi W (wipeT p own) l g c e (f x) x) :
    XN W p l (cCompM it g c e own) (bd mi fun xs => compG f xs) (fun _ a => .ref a) (fun xs a => [(a, .lst xs)]) := fun Q E k τ S hE i s => by
  refine hi _ _ k τ S hE i ((Sat.bd.mp s).mono (fun xs k1 s1 S1 gd i1 hgd => ?_) fun _ _ q => q)
  obtain ⟨hl, s3⟩ := sat_gd (Sat.bd.mp s1)
  exact comp_run hgd hf hE xs [] k1 S1 i1 (by simpa using hl) (s3.mono (fun ys k2 q S' i' a na => q _ a (i'.new na)) fun _ _ q => q)
variable {t u : TTS} {post : β → Dest} {e : TTE} {m : PM κ T}
theorem xs_assoc {t1 t2 : TTS} {m : PM κ β} (h : XS W p l (cSeq t1 (cSeq t2 u)) m post) : XS W p l (cSeq (cSeq t1 t2) u) m post := h
theorem xs_skipseq {m : PM κ β} (h : XS W p l u m post) : XS W p l (cSeq cSkip u) m post := h
theorem xs_skip {b : β} {p' : TEnv} (hp : post b = .nx p' l) (h : En p' p) : XS W p l cSkip (pu b) post := fun D E k τ S hE i s => by
  have s : DOk W D k (post b) := s
  rw [hp] at s
  exact s τ S (h.trans hE) i
theorem xs_ret {g : T → β} (hp : ∀ v, post (g v) = .rt v) (h : XV W p l e m) : XS W p l (cSeq (cRet e) u) (bd m fun v => pu (g v)) post := fun D E k τ S hE i s =>
  h _ _ k τ S hE i ((Sat.bd.mp s).mono (fun v k1 s1 z S1 i1 w1 => by
    have s1 : DOk W D k1 (post (g v)) := s1
    rw [hp] at s1
    exact s1 l z S1 i1 w1) fun x k1 q S1 i1 => q τ S1 i1)
theorem xs_set {i : Nat} {f : T → PM κ β} (he : XE W p l e m) (h : ∀ v, XS W (p.set i (some v)) l u (f v) post) : XS W p l (cSeq (cSet i e) u) (bd m f) post := fun D E k τ S hE j s =>
  he _ _ k τ S hE j ((Sat.bd.mp s).mono (fun v k1 s1 S1 i1 => h v D E k1 _ S1 hE.set i1 s1) fun x k1 q S1 i1 => q τ S1 i1)
theorem xs_new {i : Nat} {m : PM κ α} {z : α → Addr → T} {cc : α → Addr → Cs} {f : α → PM κ β} (he : XN W p l e m z cc) (h : ∀ v a, XS W (p.set i (some (z v a))) (cc v a ++ l) u (f v) post) : XS W p l (cSeq (cSet i e) u) (bd m f) post := fun D E k τ S hE j s =>
  he _ _ k τ S hE j ((Sat.bd.mp s).mono (fun v k1 s1 S1 a i1 => h v a D E k1 _ S1 hE.set i1 s1) fun x k1 q S1 i1 => q τ S1 i1)
theorem xs_asg {δ : Type} {g : TTG} {un : T → Option δ} {pf : δ → TEnv} {f : δ → PM κ β} (he : XE W p l e m) (hg : XGt g p un pf) (h : ∀ b, XS W (pf b) l u (f b) post) : XS W p l (cSeq (cAsg e g) u) (bd m fun z => bd (ofO (un z)) f) post := fun D E k τ S hE j s =>
  he _ _ k τ S hE j ((Sat.bd.mp s).mono (fun v k1 s1 S1 i1 => by
    obtain ⟨b, e1, s2⟩ := sat_ofO (Sat.bd.mp s1)
    exact hg v b τ S1 _ e1 hE fun τ' hE' => h b D E k1 τ' S1 hE' i1 s2) fun x k1 q S1 i1 => q τ S1 i1)
theorem xs_par2 {α1 α2 : Type} {i j : Nat} {ea eb : TTE} {ma : PM κ α1} {mb : PM κ α2} {z1 : α1 → Addr → T} {c1 : α1 → Addr → Cs} {z2 : α2 → Addr → T} {c2 : α2 → Addr → Cs} {f : α1 → α2 → PM κ β} (ha : XN W p l ea ma z1 c1) (hb : ∀ v a, XN W p (c1 v a ++ l) eb mb z2 c2)
    (h : ∀ v a w b, XS W ((p.set i (some (z1 v a))).set j (some (z2 w b))) (c2 w b ++ (c1 v a ++ l)) u (f v w) post) : XS W p l (cSeq (cPar2 i j ea eb) u) (bd ma fun x => bd mb fun y => f x y) post := fun D E k τ S hE _ s => by
  refine ha _ _ k τ S hE (by assumption) ((Sat.bd.mp s).mono (fun v k1 s1 S1 a i1 => ?_) fun x k1 q S1 i1 => q τ S1 i1)
  refine hb v a _ _ k1 τ S1 hE i1 ((Sat.bd.mp s1).mono (fun w k2 s2 S2 b i2 => ?_) fun x k1 q S1 i1 => q τ S1 i1)
  exact h v a w b D E k2 _ S2 hE.set.set i2 s2
def appM (xs : List T) (y : T) : PM κ (List T) := bd (gd (xs.length < sizeLine)) fun _ => pu (xs ++ [y])
def extM (xs : List T) (y : T) : PM κ (List T) := match y with
  | .lst zs => bd (gd (xs.length + zs.length ≤ sizeLine)) fun _ => pu (xs ++ zs)
  | .tup zs => bd (gd (xs.length + zs.length ≤ sizeLine)) fun _ => pu (xs ++ zs)
  | _ => stuck
theorem xs_app {i : Nat} {a : Addr} {xs : List T} {l1 l2 : Cs} {f : List T → PM κ β} (hp : p[i]? = some (some (.ref a))) (he : XE W p (l1 ++ (a, .lst xs) :: l2) e m) (h : ∀ ys, XS W p (l1 ++ (a, .lst ys) :: l2) u (f ys) post) :
    XS W p (l1 ++ (a, .lst xs) :: l2) (cSeq (cDo (cApp (cVar i) e)) u) (bd m fun y => bd (appM xs y) f) post := fun D E k τ S hE j s => by
  refine ⟨.ref a, hE.get hp, a, xs, rfl, j.at_ (a, .lst xs) (by simp), ?_⟩
  refine he _ _ k τ S hE j ((Sat.bd.mp s).mono (fun v k1 s1 S1 i1 => ?_) fun x k1 q S1 i1 => q τ S1 i1)
  obtain ⟨hl, s2⟩ := sat_gd (Sat.bd.mp (Sat.bd.mp s1))
  exact ⟨xs, i1.at_ (a, .lst xs) (by simp), hl, h _ D E k1 τ _ hE i1.put s2⟩
/-- the pen's own cell -/
theorem xs_if {c : TTB} {mc : PM κ Bool} {A B : TTS} {mA mB : PM κ β} (hc : XTs W p l c mc) (hA : XS W p l A mA post) (hB : XS W p l B mB post) : XS W p l (cIfS c A B) (bd mc fun t => if t = true then mA else mB) post := fun D E k τ S hE i s => by
  refine hc _ _ k τ S hE i ((Sat.bd.mp s).mono (fun b k1 s1 S1 i1 => ?_) fun x k1 q S1 i1 => q τ S1 i1)
  cases b with
  | true => exact hA D E k1 τ S1 hE i1 s1
  | false => exact hB D E k1 τ S1 hE i1 s1
theorem xs_ifE {c : TTB} {mc : PM κ Bool} {A B : TTS} {mA mB : PM κ β} (hc : XTs W p l c mc) (hA : XS W p l (cSeq A u) mA post) (hB : XS W p l (cSeq B u) mB post) : XS W p l (cSeq (cIfS c A B) u) (bd mc fun t => if t = true then mA else mB) post := fun D E k τ S hE i s => by
  refine hc _ _ k τ S hE i ((Sat.bd.mp s).mono (fun b k1 s1 S1 i1 => ?_) fun x k1 q S1 i1 => q τ S1 i1)
  cases b with
  | true => exact hA D E k1 τ S1 hE i1 s1
  | false => exact hB D E k1 τ S1 hE i1 s1
theorem xs_seq {P : σ → TEnv} {C : σ → Cs} {m : PM κ σ} {f : σ → PM κ β} (h1 : XS W p l t m fun s => .nx (P s) (C s)) (h2 : ∀ s, XS W (P s) (C s) u (f s) post) : XS W p l (cSeq t u) (bd m f) post := fun D E k τ S hE i s =>
  h1 _ E k τ S hE i ((Sat.bd.mp s).mono (fun b k1 s1 τ1 S1 hE1 i1 => h2 b D E k1 τ1 S1 hE1 i1 s1) fun _ _ q => q)
def sumD (P : σ → TEnv) (C : σ → Cs) : σ ⊕ T → Dest
  | .inl s => .nx (P s) (C s)
  | .inr v => .rt v
theorem xs_seqR {P : σ → TEnv} {C : σ → Cs} {m : PM κ (σ ⊕ T)} {f : σ → PM κ β} {g : T → β} (hg : ∀ v, post (g v) = .rt v) (h1 : XS W p l t m (sumD P C)) (h2 : ∀ s, XS W (P s) (C s) u (f s) post) : XS W p l (cSeq t u) (bd m fun r => Sum.elim f (fun v => pu (g v)) r) post := fun D E k τ S hE i s =>
  h1 _ E k τ S hE i ((Sat.bd.mp s).mono (fun b k1 s1 => by
    cases b with
    | inl b => exact fun τ1 S1 hE1 i1 => h2 b D E k1 τ1 S1 hE1 i1 s1
    | inr v =>
      have s1 : DOk W D k1 (post (g v)) := s1
      rw [hg] at s1
      exact s1) fun _ _ q => q)
inductive Fl (σ : Type) where
  | nx (s : σ)
  | rt (v : T)
  | bk (s : σ)
  | ct (s : σ)
def flD (P : σ → TEnv) (C : σ → Cs) : Fl σ → Dest
  | .nx s => .nx (P s) (C s)
  | .rt v => .rt v
  | .bk s => .bk (P s) (C s)
  | .ct s => .ct (P s) (C s)
def forM (f : T → σ → PM κ σ) : List T → σ → PM κ σ
  | [], s => pu s
  | x :: xs, s => bd (f x s) (forM f xs)
def forR (f : T → σ → PM κ (Fl σ)) : List T → σ → PM κ (σ ⊕ T)
  | [], s => pu (.inl s)
  | x :: xs, s => bd (f x s) fun r => match r with
    | .nx s => forR f xs s
    | .ct s => forR f xs s
    | .bk s => pu (.inl s)
    | .rt v => pu (.inr v)
section
variable {P : σ → TEnv} {C : σ → Cs} {s0 : σ} {it : TTI} {g : TTG} {mi : PM κ (List T)}
theorem for_run {f : T → σ → PM κ σ} {gd : Sto → Prop} (hgd : ∀ s k S, SI W (C s) k S → gd S) (hb : ∀ x s, XF W (P s) (C s) g t (f x s) (fun s' => .nx (P s') (C s')) x) {D : TD} {E : T → TEnv → Sto → Prop} : ∀ (xs : List T) (s : σ) k τ S, En (P s) τ → SI W (C s) k S →
    Sat (forM f xs s k) (fun s' k' => DOk W D k' (.nx (P s') (C s'))) (fun x k' => ∀ τ' S', SI W [] k' S' → E x τ' S') → forT g t gd D E xs τ S
  | [], s, k, τ, S, hE, i, h => ⟨hgd _ _ _ i, h τ S hE i⟩
  | x :: xs, s, k, τ, S, hE, i, h => ⟨hgd _ _ _ i, hb x s _ E k τ S hE i ((Sat.bd.mp h).mono (fun s' k' h' τ' S' hE' i' => for_run hgd hb xs s' k' τ' S' hE' i' h') fun _ _ q => q)⟩
theorem xs_for {f : T → σ → PM κ σ} (hi : XIy W p l it mi) (hs : En (P s0) p) (hl : l = C s0) (hb : ∀ x s, XF W (P s) (C s) g t (f x s) (fun s' => .nx (P s') (C s')) x) : XS W p l (cFor it g t) (bd mi fun xs => forM f xs s0) (fun s => .nx (P s) (C s)) := fun D E k τ S hE i s =>
  hi _ _ k τ S hE i ((Sat.bd.mp s).mono (fun xs k1 s1 S1 i1 => for_run (fun _ _ _ _ => trivial) hb xs s0 k1 τ S1 (hs.trans hE) (hl ▸ i1) s1) fun x k1 q S1 i1 => q τ S1 i1)
theorem forR_run {f : T → σ → PM κ (Fl σ)} {gd : Sto → Prop} (hgd : ∀ s k S, SI W (C s) k S → gd S) (hb : ∀ x s, XF W (P s) (C s) g t (f x s) (flD P C) x) {D : TD} {E : T → TEnv → Sto → Prop} : ∀ (xs : List T) (s : σ) k τ S, En (P s) τ → SI W (C s) k S →
    Sat (forR f xs s k) (fun s' k' => DOk W D k' (sumD P C s')) (fun x k' => ∀ τ' S', SI W [] k' S' → E x τ' S') → forT g t gd D E xs τ S
  | [], s, k, τ, S, hE, i, h => ⟨hgd _ _ _ i, h τ S hE i⟩
  | x :: xs, s, k, τ, S, hE, i, h => ⟨hgd _ _ _ i, hb x s _ E k τ S hE i ((Sat.bd.mp h).mono (fun r k' h' => match r, h' with
    | .nx s', h' => fun τ' S' hE' i' => forR_run hgd hb xs s' k' τ' S' hE' i' h'
    | .ct s', h' => fun τ' S' hE' i' => forR_run hgd hb xs s' k' τ' S' hE' i' h'
    | .bk s', h' => h'
    | .rt v, h' => h') fun _ _ q => q)⟩
theorem xs_forR {f : T → σ → PM κ (Fl σ)} (hi : XIy W p l it mi) (hs : En (P s0) p) (hl : l = C s0) (hb : ∀ x s, XF W (P s) (C s) g t (f x s) (flD P C) x) : XS W p l (cFor it g t) (bd mi fun xs => forR f xs s0) (sumD P C) := fun D E k τ S hE i s =>
  hi _ _ k τ S hE i ((Sat.bd.mp s).mono (fun xs k1 s1 S1 i1 => forR_run (fun _ _ _ _ => trivial) hb xs s0 k1 τ S1 (hs.trans hE) (hl ▸ i1) s1) fun x k1 q S1 i1 => q τ S1 i1)
end
theorem fzs_id {S S2 : Sto} : ∀ ts : List T, Fzs S S2 ts ts
  | [] => .nil
  | t :: ts => .cons (.same t) (fzs_id ts)
theorem SI.sub {l1 l2 : Cs} {a : Addr} {c : Cell} {k : κ} {S : Sto} (i : SI W (l1 ++ (a, c) :: l2) k S) : SI W (l1 ++ l2) k (offs S a) := by
  have nd := i.nd
  rw [List.map_append, List.map_cons] at nd
  obtain ⟨n1, n2, n3⟩ := List.nodup_append.mp nd
  have hm : ∀ e, e ∈ l1 ++ l2 → e ∈ l1 ++ (a, c) :: l2 ∧ e.1 ≠ a := fun e h => by
    rcases List.mem_append.mp h with z | z
    · exact ⟨List.mem_append_left _ z, fun q => n3 e.1 (List.mem_map_of_mem z) a (by simp) q⟩
    · exact ⟨List.mem_append_right _ (List.mem_cons_of_mem _ z), fun q => (List.nodup_cons.mp n2).1 (by rw [← q]; exact List.mem_map_of_mem (f := (·.1)) z)⟩
  refine ⟨fun e h => by rw [offs_ne (hm e h).2]; exact i.at_ e (hm e h).1, fun e h => i.own e (hm e h).1, ?_, fun b d h => ?_⟩
  · rw [List.map_append]
    exact List.nodup_append.mpr ⟨n1, (List.nodup_cons.mp n2).2, fun x hx y hy => n3 x hx y (List.mem_cons_of_mem _ hy)⟩
  · have ow := i.own (a, c) (List.mem_append_right _ List.mem_cons_self)
    have : b ≠ a := fun z => by rw [z] at h; rw [show W k a = none from ow] at h; cases h
    rw [offs_ne this]
    exact i.base b d h
theorem xs_drop {i : Nat} {a : Addr} {xs : List T} {l1 l2 : Cs} {m : PM κ β} (hp : p[i]? = some (some (.ref a))) (h : XS W (p.set i (some (.lst xs))) (l1 ++ l2) t m post) : XS W p (l1 ++ (a, .lst xs) :: l2) (cDrop t) m post := fun D E k τ S hE j s => by
  have hg := hE.get hp
  have hi := (List.getElem?_eq_some_iff.mp hg).1
  refine ⟨τ.set i (some (.lst xs)), offs S a, sub_offs, ⟨by rw [List.length_set], fun n u e => ?_⟩, h D E k _ _ hE.set j.sub s⟩
  by_cases q : i = n
  · subst q
    rw [List.getElem?_set_self hi] at e
    cases e
    exact ⟨_, hg, .lstc (j.at_ (a, .lst xs) (by simp)) offs_same (fzs_id xs)⟩
  · rw [List.getElem?_set_ne q] at e
    exact ⟨u, e, .same u⟩
end
theorem fin_of {κ : Type} {W : κ → Sto} {l : Cs} {k : κ} {S : Sto} {z v : T} {Q : T → Sto → Prop} (i : SI W l k S) (w : Vw l z v) (q : Q v (W k)) : Fin Q z S := by
  refine ⟨W k, v, i.base, ?_, q⟩
  rcases w with rfl | ⟨a, xs, rfl, h, rfl⟩ | ⟨a, n, ks, vs, rfl, h, rfl⟩
  · exact .same _
  · exact .lstc (i.at_ _ h) (i.own _ h) (fzs_id _)
  · exact .dctc (i.at_ _ h) (i.own _ h) (fzs_id _)
theorem si_start {κ : Type} {W : κ → Sto} {k : κ} : SI W [] k (W k) := ⟨fun _ h => (nomatch h), fun _ h => (nomatch h), List.nodup_nil, fun _ _ h => h⟩
section
variable {κ α : Type}
def u1 (f : T → PM κ α) : List T → PM κ α
  | [a] => f a
  | _ => stuck
def u2 (f : T → T → PM κ α) : List T → PM κ α
  | [a, b] => f a b
  | _ => stuck
def u3 (f : T → T → T → PM κ α) : List T → PM κ α
  | [a, b, c] => f a b c
  | _ => stuck
end
/-- a def's mirror takes so many -/
def Ar {κ α : Type} (n : Nat) (f : List T → PM κ α) : Prop := ∀ ts k, f ts k ≠ .bad → ts.length = n
theorem ar1 {κ α : Type} {f : T → PM κ α} : Ar 1 (u1 f) := fun ts k h => match ts, h with
  | [], h => (h rfl).elim
  | [a], _ => rfl
  | _ :: _ :: _, h => (h rfl).elim
theorem ar2 {κ α : Type} {f : T → T → PM κ α} : Ar 2 (u2 f) := fun ts k h => match ts, h with
  | [], h => (h rfl).elim
  | [_], h => (h rfl).elim
  | [a, b], _ => rfl
  | _ :: _ :: _ :: _, h => (h rfl).elim
theorem ar3 {κ α : Type} {f : T → T → T → PM κ α} : Ar 3 (u3 f) := fun ts k h => match ts, h with
  | [], h => (h rfl).elim
  | [_], h => (h rfl).elim
  | [_, _], h => (h rfl).elim
  | [a, b, c], _ => rfl
  | _ :: _ :: _ :: _ :: _, h => (h rfl).elim
theorem sat_nb {κ α : Type} {r : Res κ α} {P : α → κ → Prop} {X : T → κ → Prop} (h : Sat r P X) : r ≠ .bad := fun e => by rw [e] at h; exact h
theorem spU_len {n : Nat} {f : List T → PM Unit T} (ha : Ar n f) : ∀ ts S Q E, spU f ts S Q E → ts.length = n := fun ts S Q E h => ha ts () (sat_nb h)
theorem spP_len {n : Nat} {f : List T → PM Cell T} (ha : Ar n f) : ∀ ts S Q E, spP f ts S Q E → ts.length = n + 1 := fun ts S Q E ⟨p, rest, c, e, _, h⟩ => by
  subst e
  rw [List.length_cons, ha rest c (sat_nb h)]
theorem vc_u {N : List Str} {f : List T → PM Unit T} {c : TTS} (h : ∀ S ts, XS (fun _ : Unit => S) (startT N ts) [] c (f ts) .rt) : VC N (spU f) c := fun ts S Q E q =>
  h S ts _ _ () _ S (En.refl _) si_start (Sat.mono q (fun v k' q l z S' i w => fin_of i w q) fun x k' q τ' S' i => ⟨S, i.base, q⟩)
theorem ups_self {S : Sto} {p : Addr} {c : Cell} (h : S p = some c) : ups S p c = S := ups_eq h
theorem xs_stuck {κ β : Type} {W : κ → Sto} {p : TEnv} {l : Cs} {t : TTS} {post : β → Dest} : XS W p l t stuck post := fun D E k τ S hE i s => s.elim
theorem Ar.bd {κ α β : Type} {n : Nat} {f : List T → PM κ α} {g : α → PM κ β} (h : Ar n f) : Ar n (fun ts => bd (f ts) g) := fun ts k e => h ts k fun z => e (by simp only [TL.bd, z])
theorem vc_u1 {N : List Str} {c : TTS} {f : T → PM Unit T} (h : ∀ S y1, XS (fun _ : Unit => S) (startT N [y1]) [] c (f y1) .rt) : VC N (spU (u1 f)) c := vc_u fun S ts => match ts with
  | [] => xs_stuck
  | [y1] => h S y1
  | _ :: _ :: _ => xs_stuck
theorem vc_u2 {N : List Str} {c : TTS} {f : T → T → PM Unit T} (h : ∀ S y1 y2, XS (fun _ : Unit => S) (startT N [y1, y2]) [] c (f y1 y2) .rt) : VC N (spU (u2 f)) c := vc_u fun S ts => match ts with
  | [] => xs_stuck
  | [_] => xs_stuck
  | [y1, y2] => h S y1 y2
  | _ :: _ :: _ :: _ => xs_stuck
theorem vc_u3 {N : List Str} {c : TTS} {f : T → T → T → PM Unit T} (h : ∀ S y1 y2 y3, XS (fun _ : Unit => S) (startT N [y1, y2, y3]) [] c (f y1 y2 y3) .rt) : VC N (spU (u3 f)) c := vc_u fun S ts => match ts with
  | [] => xs_stuck
  | [_] => xs_stuck
  | [_, _] => xs_stuck
  | [y1, y2, y3] => h S y1 y2 y3
  | _ :: _ :: _ :: _ :: _ => xs_stuck
def fuel : Nat := 1000000000
/-- the law: the pen first -/
def sp_pen_of : SpT := sp1 fun a S Q _ => ∃ ns : List Int, a = .scr ns ∧ ∀ p c, S p = none → PenC 0 c → Q (.ref p) (ups S p c)
def sp_law1 : SpT := sp1 fun a S Q _ => ∃ ns, a = .scr ns ∧ ∀ S', Q (.bl true) S'
theorem law1_sp (ns : List Int) (_ : ns.length ≤ 63) : sp_law1 [.scr ns] (fun _ => none) (fun z _ => z = .bl true) fun _ _ => False := ⟨_, rfl, ns, rfl, fun _ => rfl⟩
theorem vc_law {N : List Str} {m : PM Cell T} {u : TTS} (h : ∀ S0 pa a, XS (penW S0 pa) ((startT N [a]).set 1 (some (.ref pa))) [] u m .rt) (hm : ∀ c, PenC 0 c → ∃ k, m c = .ok (.bl true) k) (h0 : (startT N [T.non])[0]? = some (some T.non) := by rfl) :
    VC N sp_law1 (cSeq (cSet 1 (cCall sp_pen_of (cCons (cVar 0) cNil))) u) := by
  rintro ts S Q E ⟨a, rfl, ns, rfl, hq⟩
  refine ⟨.scr ns, rfl, _, rfl, ns, rfl, fun p c hp hc => ?_⟩
  obtain ⟨k, hk⟩ := hm c hc
  refine h S p (.scr ns) _ _ c _ _ (En.refl _) (si_start (W := penW S p)) ?_
  rw [hk]
  exact fun l z S' i w => fin_of i w (hq _)
end TL
namespace TL
open PySem PySem.Spec PyProof.Rows L2
def intsOf : List T → Option (List Int)
  | [] => some []
  | .int i :: ts => (intsOf ts).map (i :: ·)
  | _ :: _ => none
theorem intsOf_is : ∀ {ts : List T} {ns : List Int}, intsOf ts = some ns → ts = ns.map T.int
  | [], ns, e => by obtain rfl := Option.some.inj e; rfl
  | .int i :: ts, ns, e => by
    unfold intsOf at e
    cases q : intsOf ts with
    | none => rw [q] at e; cases e
    | some ms =>
      rw [q] at e
      obtain rfl := Option.some.inj e
      rw [intsOf_is q]
      rfl
  | .non :: _, _, e | .bl _ :: _, _, e | .str _ :: _, _, e | .tup _ :: _, _, e | .lst _ :: _, _, e | .ref _ :: _, _, e | .exc _ _ _ :: _, _, e | .dct _ _ _ :: _, _, e | .obj _ _ _ :: _, _, e | .fn _ :: _, _, e | .scr _ :: _, _, e => by cases e
theorem intsOf_map : ∀ ns : List Int, intsOf (ns.map T.int) = some ns
  | [] => rfl
  | i :: ns => by rw [List.map_cons]; unfold intsOf; rw [intsOf_map ns]; rfl
def penCell (ns : List Int) (at_ rest : Int) : Cell := .lst [.lst (ns.map T.int), .int at_, .int rest]
def absI (z : Int) : Int := if z < 0 then -z else z
def drawNum (z at_ many : Int) : Int := (((((z.fmod 2147483647 + 69621 * at_ + 13) * 48271).fmod 2147483629 * ((z.fmod 2147483647 + 69621 * at_ + 13) * 48271).fmod 2147483629).fmod 2147483587 * ((((z.fmod 2147483647 + 69621 * at_ + 13) * 48271).fmod 2147483629).fmod 65521 + 7 * at_ + 1)).fmod 2147483563).fdiv 32 |>.fmod many
def cellAt (ns : List Int) (at_ : Int) : Int := if 0 < ns.length then ns.getD (at_.fmod ns.length).toNat 0 else 11
def drawStep (ns : List Int) (at_ rest many : Int) : Int × Cell :=
  if 0 < rest then (rest.fmod many, penCell ns at_ (rest.fdiv many))
  else if at_ < ns.length then (if 10 ^ 18 ≤ absI (cellAt ns at_) then ((absI (cellAt ns at_)).fmod many, penCell ns (at_ + 1) ((absI (cellAt ns at_)).fdiv many)) else (drawNum (cellAt ns at_) at_ many, penCell ns (at_ + 1) rest))
  else (drawNum (cellAt ns at_) at_ many, penCell ns (at_ + 1) rest)
def m_draw (t : T) : PM Cell T := fun c => match c, t with
  | .lst [.lst xs, .int at_, .int rest], .int many => match intsOf xs with
    | some ns => if 0 < many ∧ many < 1000000000000000000000000000001 ∧ 0 ≤ at_ ∧ at_ ≤ big ∧ 0 ≤ rest ∧ ns.length ≤ 63 then .ok (.int (drawStep ns at_ rest many).1) (drawStep ns at_ rest many).2 else .bad
    | none => .bad
  | _, _ => .bad
theorem sat_draw {t : T} {c : Cell} {P : T → Cell → Prop} {X : T → Cell → Prop} (h : Sat (m_draw t c) P X) : ∃ ns at_ rest many, c = penCell ns at_ rest ∧ t = .int many ∧ (0 < many ∧ many < 1000000000000000000000000000001 ∧ 0 ≤ at_ ∧ at_ ≤ big ∧ 0 ≤ rest ∧ ns.length ≤ 63) ∧ P (.int (drawStep ns at_ rest many).1) (drawStep ns at_ rest many).2 := by
  unfold m_draw at h
  split at h
  · rename_i xs at_ rest many
    split at h
    · rename_i ns e
      split at h
      · rename_i k
        exact ⟨ns, at_, rest, many, by rw [intsOf_is e]; rfl, rfl, k, h⟩
      · exact h.elim
    · exact h.elim
  · exact h.elim
theorem draw_ok {n : Nat} {c : Cell} {many : Int} (h : PenC n c) (hn : n ≤ big) (h1 : 0 < many) (h2 : many < 1000000000000000000000000000001) : ∃ d c', m_draw (.int many) c = .ok (.int d) c' ∧ 0 ≤ d ∧ d < many ∧ PenC (n + 1) c' := by
  obtain ⟨ns, at_, rest, rfl, a0, a1, a2, a3⟩ := h
  have hb : (n : Int) ≤ big := by exact_mod_cast hn
  have e : m_draw (.int many) (.lst [.lst (ns.map T.int), .int at_, .int rest]) = .ok (.int (drawStep ns at_ rest many).1) (drawStep ns at_ rest many).2 := by
    unfold m_draw
    simp only [intsOf_map]
    rw [if_pos ⟨h1, h2, a0, by omega, a2, a3⟩]
  refine ⟨_, _, e, ?_⟩
  have w : 0 ≤ absI (cellAt ns at_) := by unfold absI; split <;> omega
  unfold drawStep
  split
  · exact ⟨fmod_lo h1, fmod_hi h1, ns, at_, _, rfl, a0, by omega, fdiv_lo a2 h1, a3⟩
  split
  · split
    · exact ⟨fmod_lo h1, fmod_hi h1, ns, at_ + 1, _, rfl, by omega, by omega, fdiv_lo w h1, a3⟩
    · exact ⟨fmod_lo h1, fmod_hi h1, ns, at_ + 1, _, rfl, by omega, by omega, a2, a3⟩
  · exact ⟨fmod_lo h1, fmod_hi h1, ns, at_ + 1, _, rfl, by omega, by omega, a2, a3⟩
end TL
namespace TL
open PySem PySem.Spec PyProof.Rows L2
section
variable {κ α β γ σ : Type}
/-- a condition -/
noncomputable def gdc (b : Prop) : PM κ Unit := @gd κ b (Classical.propDecidable b)
theorem gd_c {b : Prop} [d : Decidable b] : gd (κ := κ) b = gdc b := by
  unfold gdc
  congr
theorem gdc_t {b : Prop} (h : b) : gdc (κ := κ) b = pu () := @gd_true κ b (Classical.propDecidable b) h
theorem gdc_f {b : Prop} (h : ¬ b) : gdc (κ := κ) b = stuck := @if_neg b (Classical.propDecidable b) h _ _ _
theorem gdc_b {b : Prop} (h : b) (f : Unit → PM κ α) : bd (gdc b) f = f () := by rw [gdc_t h]; rfl
theorem ofO_none : ofO (κ := κ) (none : Option α) = stuck := rfl
theorem ofO_ite {c : Prop} [Decidable c] {v : α} : ofO (κ := κ) (if c then some v else none) = bd (gdc c) fun _ => pu v := by
  by_cases h : c
  · rw [if_pos h, gdc_t h]; rfl
  · rw [if_neg h, gdc_f h]; rfl
theorem ite_pu {c : Prop} [Decidable c] {x y : α} : (if c then pu (κ := κ) x else pu y) = pu (if c then x else y) := by split <;> rfl
theorem lft_bd (m : PM Unit α) (f : α → PM Unit β) : lft (κ := κ) (bd m f) = bd (lft m) fun a => lft (f a) := by
  funext k
  unfold lft bd
  cases m () <;> rfl
theorem lft_gdc {b : Prop} : lft (κ := κ) (gdc b) = gdc b := by
  by_cases h : b
  · rw [gdc_t h, gdc_t h]; rfl
  · rw [gdc_f h, gdc_f h]; rfl
theorem lft_ite {c : Prop} [Decidable c] {x y : PM Unit α} : lft (κ := κ) (if c then x else y) = if c then lft x else lft y := by split <;> rfl
theorem lft_stuck : lft (κ := κ) (stuck : PM Unit α) = stuck := rfl
def compA (f : α → PM κ (Option T)) : List α → PM κ (List T)
  | [] => pu []
  | x :: xs => bd (nox (f x)) fun o => bd (compA f xs) fun ys => pu (o.toList ++ ys)
theorem compA_cons {f : α → PM κ (Option T)} {x : α} {xs : List α} : compA f (x :: xs) = bd (nox (f x)) fun o => bd (compA f xs) fun ys => pu (o.toList ++ ys) := rfl
theorem compM_map {e : α → T} {f : T → PM κ (Option T)} : ∀ xs : List α, compM f (xs.map e) = compA (fun a => f (e a)) xs
  | [] => rfl
  | x :: xs => by
    rw [List.map_cons, compA_cons, ← compM_map xs]
    rfl
theorem compG_map {e : α → T} {f : T → PM κ (Option T)} {xs : List α} : compG f (xs.map e) = bd (gdc (xs.length ≤ sizeLine)) fun _ => compA (fun a => f (e a)) xs := by
  unfold compG
  rw [gd_c, compM_map, List.length_map]
theorem compA_pu {g : α → T} : ∀ xs : List α, compA (κ := κ) (fun a => pu (some (g a))) xs = pu (xs.map g)
  | [] => rfl
  | x :: xs => by
    rw [compA_cons, compA_pu xs]
    rfl
theorem compA_if {p : α → Prop} [DecidablePred p] {g : α → T} : ∀ xs : List α, compA (κ := κ) (fun a => if p a then pu (some (g a)) else pu none) xs = pu ((xs.filter fun a => decide (p a)).map g)
  | [] => rfl
  | x :: xs => by
    rw [compA_cons, compA_if xs]
    by_cases h : p x
    · rw [if_pos h, List.filter_cons_of_pos (by simpa using h)]; rfl
    · rw [if_neg h, List.filter_cons_of_neg (by simpa using h)]; rfl
theorem bd_stuck (m : PM κ α) (h : ∀ k, ∃ a k', m k = .ok a k' ∨ m k = .bad) : bd m (fun _ => (stuck : PM κ β)) = stuck := by
  funext k
  obtain ⟨a, k', e | e⟩ := h k <;> (unfold bd; rw [e]; rfl)
theorem nox_cases (m : PM κ α) [Inhabited α] (k : κ) : ∃ a k', nox m k = .ok a k' ∨ nox m k = .bad := by
  unfold nox
  cases e : m k with
  | ok a k' => exact ⟨a, k', .inl rfl⟩
  | exc x k' => exact ⟨default, k, .inr rfl⟩
  | bad => exact ⟨default, k, .inr rfl⟩
theorem compA_gd {c : α → Prop} {h : α → PM κ (Option T)} : ∀ xs : List α, compA (fun a => bd (gdc (c a)) fun _ => h a) xs = bd (gdc (∀ a ∈ xs, c a)) fun _ => compA h xs
  | [] => by rw [gdc_t (fun _ h => nomatch h)]; rfl
  | x :: xs => by
    have ih := compA_gd (c := c) (h := h) xs
    by_cases hx : c x
    · by_cases hs : ∀ a ∈ xs, c a
      · rw [gdc_t hs, pu_bd] at ih
        rw [gdc_t (List.forall_mem_cons.mpr ⟨hx, hs⟩), pu_bd, compA_cons, gdc_t hx, ih]
        rfl
      · rw [gdc_f hs, stuck_bd] at ih
        rw [gdc_f fun z => hs (List.forall_mem_cons.mp z).2, compA_cons, ih]
        exact bd_stuck _ (nox_cases _)
    · rw [gdc_f fun z => hx (List.forall_mem_cons.mp z).1, compA_cons, gdc_f hx]
      rfl
theorem compA_gdif {p c : α → Prop} [DecidablePred p] {h : α → PM κ (Option T)} (xs : List α) : compA (fun a => if p a then bd (gdc (c a)) fun _ => h a else pu none) xs = bd (gdc (∀ a ∈ xs, p a → c a)) fun _ => compA (fun a => if p a then h a else pu none) xs := by
  rw [← compA_gd]
  congr
  funext a
  by_cases hp : p a
  · rw [if_pos hp]
    by_cases hc : c a
    · rw [gdc_t hc, gdc_t (fun _ => hc), if_pos hp]
    · rw [gdc_f hc, gdc_f (fun z => hc (z hp))]; rfl
  · rw [if_neg hp, gdc_t (fun z => absurd z hp), if_neg hp]; rfl
theorem compA_congr {f g : α → PM κ (Option T)} : ∀ {xs : List α}, (∀ a ∈ xs, f a = g a) → compA f xs = compA g xs
  | [], _ => rfl
  | x :: xs, h => by
    rw [compA_cons, compA_cons, h x List.mem_cons_self, compA_congr fun a ha => h a (List.mem_cons_of_mem _ ha)]
def forA (f : α → σ → PM κ σ) : List α → σ → PM κ σ
  | [], s => pu s
  | x :: xs, s => bd (f x s) (forA f xs)
theorem forM_map {e : α → T} {f : T → σ → PM κ σ} : ∀ (xs : List α) (s : σ), forM f (xs.map e) s = forA (fun a => f (e a)) xs s
  | [], _ => rfl
  | x :: xs, s => by
    rw [List.map_cons]
    show bd (f (e x) s) (forM f (xs.map e)) = bd (f (e x) s) (forA (fun a => f (e a)) xs)
    congr
    funext s
    exact forM_map xs s
def forRA (f : α → σ → PM κ (Fl σ)) : List α → σ → PM κ (σ ⊕ T)
  | [], s => pu (.inl s)
  | x :: xs, s => bd (f x s) fun r => match r with
    | .nx s => forRA f xs s
    | .ct s => forRA f xs s
    | .bk s => pu (.inl s)
    | .rt v => pu (.inr v)
theorem forR_map {e : α → T} {f : T → σ → PM κ (Fl σ)} : ∀ (xs : List α) (s : σ), forR f (xs.map e) s = forRA (fun a => f (e a)) xs s
  | [], _ => rfl
  | x :: xs, s => by
    rw [List.map_cons]
    show bd (f (e x) s) _ = bd (f (e x) s) _
    congr
    funext r
    cases r with
    | nx s => exact forR_map xs s
    | ct s => exact forR_map xs s
    | _ => rfl
/-- a loop that goes through: a state kept -/
theorem forRA_all {f : α → σ → PM κ (Fl σ)} : ∀ (xs : List α) (s : σ), (∀ x ∈ xs, f x s = pu (.nx s)) → forRA f xs s = pu (.inl s)
  | [], _, _ => rfl
  | x :: xs, s, h => by
    show bd (f x s) _ = _
    rw [h x List.mem_cons_self, pu_bd]
    exact forRA_all xs s fun y hy => h y (List.mem_cons_of_mem _ hy)
theorem sum_inl {f : σ → γ} {g : T → γ} {s : σ} : Sum.elim f g (.inl s) = f s := rfl
theorem sum_inr {f : σ → γ} {g : T → γ} {v : T} : Sum.elim f g (.inr v) = g v := rfl
end
def Pen (r : Nat) (c : Cell) : Prop := ∃ n, n + r ≤ big ∧ PenC n c
def HT {α : Type} (d : Nat) (m : PM Cell α) (P : α → Prop) : Prop := ∀ r c, Pen (r + d) c → ∃ a c', m c = .ok a c' ∧ Pen r c' ∧ P a
section
variable {α β γ σ : Type}
theorem HT.le {d d' : Nat} {m : PM Cell α} {P : α → Prop} (h : HT d m P) (hd : d ≤ d') : HT d' m P := fun r c ⟨n, h1, h2⟩ => by
  obtain ⟨a, c', e, ⟨n', k1, k2⟩, p⟩ := h (r + (d' - d)) c ⟨n, by omega, h2⟩
  exact ⟨a, c', e, ⟨n', by omega, k2⟩, p⟩
theorem HT.mono {d : Nat} {m : PM Cell α} {P Q : α → Prop} (h : HT d m P) (hq : ∀ a, P a → Q a) : HT d m Q := fun r c hc => by
  obtain ⟨a, c', e, k, p⟩ := h r c hc
  exact ⟨a, c', e, k, hq a p⟩
theorem HT.pu {d : Nat} {a : α} {P : α → Prop} (h : P a) : HT d (TL.pu a) P := fun r c ⟨n, h1, h2⟩ => ⟨a, c, rfl, ⟨n, by omega, h2⟩, h⟩
theorem HT.bd {d1 d2 : Nat} {m : PM Cell α} {f : α → PM Cell β} {P : α → Prop} {Q : β → Prop} (h1 : HT d1 m P) (h2 : ∀ a, P a → HT d2 (f a) Q) : HT (d2 + d1) (TL.bd m f) Q := fun r c hc => by
  obtain ⟨a, c1, e1, k1, p1⟩ := h1 (r + d2) c (by rw [Nat.add_assoc]; exact hc)
  obtain ⟨b, c2, e2, k2, p2⟩ := h2 a p1 r c1 k1
  exact ⟨b, c2, by unfold TL.bd; rw [e1]; exact e2, k2, p2⟩
theorem HT.draw {many : Int} {P : T → Prop} (h1 : 0 < many) (h2 : many < 1000000000) (h : ∀ d : Int, 0 ≤ d → d < many → P (.int d)) : HT 1 (m_draw (.int many)) P := fun r c ⟨n, k1, k2⟩ => by
  obtain ⟨d, c', e, d0, d1, k⟩ := draw_ok k2 (by omega) h1 (by omega)
  exact ⟨_, c', e, ⟨n + 1, by omega, k⟩, h d d0 d1⟩
/-- a draw, then on -/
theorem HT.drawB {many : Int} {d : Nat} {f : T → PM Cell β} {Q : β → Prop} (h1 : 0 < many) (h2 : many < 1000000000) (h : ∀ i : Int, 0 ≤ i → i < many → HT d (f (.int i)) Q) : HT (d + 1) (TL.bd (m_draw (.int many)) f) Q :=
  HT.bd (P := fun v => ∃ i : Int, 0 ≤ i ∧ i < many ∧ v = .int i) (HT.draw h1 h2 fun i a b => ⟨i, a, b, rfl⟩) fun v ⟨i, a, b, e⟩ => e ▸ h i a b
theorem HT.gdc {b : Prop} {d : Nat} {f : Unit → PM Cell β} {Q : β → Prop} (hb : b) (h : HT d (f ()) Q) : HT d (TL.bd (TL.gdc b) f) Q := by rw [gdc_b hb]; exact h
theorem HT.forA {d : Nat} {f : α → σ → PM Cell σ} (I : List α → σ → Prop) : ∀ (xs : List α) (s : σ), I xs s → (∀ x xs s, I (x :: xs) s → HT d (f x s) fun s' => I xs s') → HT (xs.length * d) (TL.forA f xs s) fun s' => I [] s'
  | [], s, hi, _ => by
    rw [List.length_nil, Nat.zero_mul]
    exact HT.pu hi
  | x :: xs, s, hi, h => by
    rw [List.length_cons, Nat.succ_mul]
    exact HT.bd (h x xs s hi) fun s' hs' => HT.forA I xs s' hs' h
/-- at most so many turns -/
theorem HT.forN (d n : Nat) {f : α → σ → PM Cell σ} (I : List α → σ → Prop) {xs : List α} {s : σ} (hn : xs.length ≤ n) (hi : I xs s) (h : ∀ x xs s, I (x :: xs) s → HT d (f x s) fun s' => I xs s') : HT (n * d) (TL.forA f xs s) fun s' => I [] s' :=
  (HT.forA I xs s hi h).le (Nat.mul_le_mul_right d hn)
theorem HT.compA {d : Nat} {f : α → PM Cell (Option T)} (I : List α → List T → Prop) : ∀ (xs : List α) (acc : List T), I xs acc → (∀ x xs acc, I (x :: xs) acc → HT d (f x) fun o => I xs (acc ++ o.toList)) → HT (xs.length * d) (TL.compA f xs) fun ys => I [] (acc ++ ys)
  | [], acc, hi, _ => by
    rw [List.length_nil, Nat.zero_mul]
    exact HT.pu (by simpa using hi)
  | x :: xs, acc, hi, h => by
    rw [List.length_cons, Nat.succ_mul]
    rw [compA_cons]
    refine HT.bd (P := fun o => I xs (acc ++ o.toList)) (fun r c hc => ?_) fun o ho => ?_
    · obtain ⟨a, c', e1, k1, p1⟩ := h x xs acc hi r c hc
      exact ⟨a, c', by unfold nox; rw [e1], k1, p1⟩
    · have := HT.compA I xs (acc ++ o.toList) ho h
      refine (HT.bd (d2 := 0) this fun ys hy => HT.pu ?_).le (Nat.le_of_eq (Nat.zero_add _))
      rw [← List.append_assoc]
      exact hy
/-- the law at its end -/
theorem HT.law {d : Nat} {m : PM Cell T} (h : HT d m fun v => v = .bl true) (hd : d ≤ 1000000000000) : ∀ c, PenC 0 c → ∃ k, m c = .ok (.bl true) k := fun c hc => by
  obtain ⟨a, c', e, _, rfl⟩ := h 0 c ⟨0, by unfold big; omega, hc⟩
  exact ⟨c', e⟩
end
end TL
namespace TL
open PySem PySem.Spec PyProof.Rows L2
abbrev Nm := List Sg
def fkT (x : Nm × Nm) : T := .tup [.str x.1, .str x.2]
/-- a kind of keys -/
structure KE {α : Type} (e : α → T) : Prop where
  inj : ∀ a b, e a = e b → a = b
  kx : ∀ a, kx (e a) = true
  dp : ∀ a, dep (e a) ≤ 8
  alk : ∀ a b, alk (e a) (e b) = true
theorem KE.okd {α : Type} {e : α → T} (h : KE e) (a : α) : okd (e a) = true := by
  have := h.dp a
  unfold TL.okd
  rw [kx_plain _ (h.kx a), decide_eq_true (by omega)]
  rfl
theorem ke_str : KE T.str := ⟨fun _ _ => str_inj, fun _ => rfl, fun _ => Nat.zero_le _, fun _ _ => rfl⟩
section
variable {α : Type} {e : α → T} {S : Sto}
theorem KE.eqt (h : KE e) [DecidableEq α] (a b : α) : eqt (e a) (e b) = decide (a = b) := by
  have z := eqt_kx (e a) (e b) (h.kx a) (h.kx b)
  by_cases q : a = b
  · subst q; rw [decide_eq_true rfl]; exact z.mpr rfl
  · rw [decide_eq_false q]
    cases w : TL.eqt (e a) (e b) with
    | false => rfl
    | true => exact absurd (h.inj _ _ (z.mp w)) q
theorem KE.eqT (h : KE e) [DecidableEq α] (a b : α) : eqT emp (e a) (e b) = some (.bl (decide (a = b))) := by
  have r : ∀ a, res emp (e a) = e a := fun a => by
    have := h.kx a
    cases q : e a with
    | ref x => rw [q] at this; cases this
    | _ => rfl
  unfold TL.eqT
  rw [r, r, h.okd, h.okd, h.eqt]
  rfl
theorem KE.neT (h : KE e) [DecidableEq α] (a b : α) : neT emp (e a) (e b) = some (.bl (!decide (a = b))) := by
  have r : ∀ a, res emp (e a) = e a := fun a => by
    have := h.kx a
    cases q : e a with
    | ref x => rw [q] at this; cases this
    | _ => rfl
  unfold TL.neT
  rw [r, r, h.okd, h.okd, h.eqt]
  rfl
theorem KE.any (h : KE e) [DecidableEq α] (a : α) : ∀ xs : List α, ((xs.map e).any fun z => TL.eqt z (e a)) = decide (a ∈ xs)
  | [] => rfl
  | x :: xs => by
    rw [List.map_cons, List.any_cons, KE.any h a xs, h.eqt]
    by_cases q : x = a
    · subst q; simp
    · have q' : a ≠ x := fun z => q z.symm
      simp [q, q']
theorem KE.okds (h : KE e) (xs : List α) : TL.okd (.lst (xs.map e)) = true ∧ TL.okd (.tup (xs.map e)) = true := okd_map fun x _ => ⟨h.okd x, by have := h.dp x; omega⟩
theorem KE.inT (h : KE e) [DecidableEq α] (a : α) (xs : List α) : inT emp (e a) (.tup (xs.map e)) = some (.bl (decide (a ∈ xs))) ∧ inT emp (e a) (.lst (xs.map e)) = some (.bl (decide (a ∈ xs))) := by
  constructor
  · unfold TL.inT inQ
    show Option.map _ (if (TL.okd (e a) && TL.okd (.tup (xs.map e))) = true then _ else none) = _
    rw [h.okd, (h.okds xs).2, Bool.and_self, if_pos rfl, h.any]; rfl
  · unfold TL.inT inQ
    show Option.map _ (if (TL.okd (e a) && TL.okd (.lst (xs.map e))) = true then _ else none) = _
    rw [h.okd, (h.okds xs).1, Bool.and_self, if_pos rfl, h.any]; rfl
theorem KE.ninT (h : KE e) [DecidableEq α] (a : α) (xs : List α) : ninT emp (e a) (.tup (xs.map e)) = some (.bl (!decide (a ∈ xs))) ∧ ninT emp (e a) (.lst (xs.map e)) = some (.bl (!decide (a ∈ xs))) := by
  constructor
  · unfold TL.ninT inQ
    show Option.map _ (if (TL.okd (e a) && TL.okd (.tup (xs.map e))) = true then _ else none) = _
    rw [h.okd, (h.okds xs).2, Bool.and_self, if_pos rfl, h.any]; rfl
  · unfold TL.ninT inQ
    show Option.map _ (if (TL.okd (e a) && TL.okd (.lst (xs.map e))) = true then _ else none) = _
    rw [h.okd, (h.okds xs).1, Bool.and_self, if_pos rfl, h.any]; rfl
theorem KE.kxs (h : KE e) (xs : List α) : TL.kxs (xs.map e) = true := kxs_map fun x _ => h.kx x
theorem KE.eqts (h : KE e) [DecidableEq α] (xs ys : List α) : TL.eqts (xs.map e) (ys.map e) = decide (xs = ys) := by
  have z := eqts_kx (xs.map e) (ys.map e) (h.kxs xs) (h.kxs ys)
  by_cases q : xs = ys
  · subst q; rw [decide_eq_true rfl]; exact z.mpr rfl
  · rw [decide_eq_false q]
    cases w : TL.eqts (xs.map e) (ys.map e) with
    | false => rfl
    | true => exact absurd ((List.map_inj_right h.inj).mp (z.mp w)) q
/-- sorted -/
def srt (e : α → T) (xs : List α) : List α := xs.mergeSort fun a b => leT' (e a) (e b)
def ddup (e : α → T) : List α → List α
  | [] => []
  | t :: ts => if ((ddup e ts).any fun u => TL.eqt (e t) (e u)) = true then ddup e ts else t :: ddup e ts
theorem srt_map (xs : List α) : (xs.map e).mergeSort leT' = (srt e xs).map e := (List.map_mergeSort (r := fun a b => leT' (e a) (e b)) (s := leT') (f := e) (l := xs) fun a _ b _ => rfl).symm
theorem ddup_map : ∀ xs : List α, dedupT (xs.map e) = (ddup e xs).map e
  | [] => rfl
  | x :: xs => by
    rw [List.map_cons]
    unfold dedupT ddup
    rw [ddup_map xs, List.any_map, show (eqt (e x) ∘ e) = fun u => eqt (e x) (e u) from rfl]
    by_cases h : ((ddup e xs).any fun u => TL.eqt (e x) (e u)) = true
    · rw [if_pos h, if_pos h]
    · rw [if_neg h, if_neg h]; rfl
theorem ddup_len : ∀ xs : List α, (ddup e xs).length ≤ xs.length
  | [] => Nat.le_refl _
  | x :: xs => by
    have := ddup_len xs
    unfold ddup
    split
    · rw [List.length_cons]; omega
    · rw [List.length_cons, List.length_cons]; omega
/-- can be sorted -/
structure SE (e : α → T) (P : α → Prop) : Prop where
  ke : KE e
  srt : ∀ xs : List α, (∀ x ∈ xs, P x) → sortOk (xs.map e) = true
theorem se_str : SE T.str fun _ => True := ⟨ke_str, fun xs _ => sortOk_strs xs⟩
variable {P : α → Prop}
theorem SE.sorted (h : SE e P) {xs : List α} (hp : ∀ x ∈ xs, P x) (hl : xs.length ≤ sizeLine) : sortedF emp [.lst (xs.map e)] = some (.lst ((TL.srt e xs).map e)) ∧ sortedF emp [.tup (xs.map e)] = some (.lst ((TL.srt e xs).map e)) := by
  constructor
  · rw [sortedF_lst, h.srt xs hp, List.length_map, decide_eq_true hl, Bool.and_self, if_pos rfl, srt_map]
  · rw [sortedF_tup, h.srt xs hp, List.length_map, decide_eq_true hl, Bool.and_self, if_pos rfl, srt_map]
theorem SE.rise (h : SE e P) {xs : List α} (hp : ∀ x ∈ xs, P x) (nd : xs.Nodup) : Rise ((TL.srt e xs).map e) := by
  rw [← srt_map]
  exact rise_sort (h.ke.kxs xs) (h.srt xs hp) (nodup_map h.ke.inj nd)
theorem setOk_strsD {xs : List Nm} (hl : (ddup T.str xs).length + 2 < scanBound) : setOk (xs.map T.str) = true := by
  unfold setOk
  rw [kxs_strs, show (xs.map T.str).all isScan = true from List.all_eq_true.mpr fun t ht => by obtain ⟨x, _, rfl⟩ := List.mem_map.mp ht; rfl, ddup_map, List.length_map, decide_eq_true hl]
  simp
theorem setOk_strs {xs : List Nm} (hl : xs.length + 2 < scanBound) : setOk (xs.map T.str) = true := setOk_strsD (by have := ddup_len (e := T.str) xs; omega)
end
end TL
namespace TL
open PySem PySem.Spec PyProof.Rows L2
section
variable {κ α β : Type} {e : α → T}
theorem gdc_T : gdc (κ := κ) True = pu () := gdc_t trivial
theorem isStr_str {x : Nm} : isStr (.str x) = true := rfl
theorem isTup_tup {x : List T} : isTup (.tup x) = true := rfl
theorem joinF_l {a : Nm} {ts : List T} : joinF emp (.str a) [.lst ts] = (strsOf ts).bind fun xs => if joinSz a xs = true then some (T.str (jnL a xs)) else none := by
  show (match strsOf ts with | some xs => if joinSz a xs = true then some (T.str (jnL a xs)) else none | none => none) = _
  cases strsOf ts <;> rfl
theorem joinF_t {a : Nm} {ts : List T} : joinF emp (.str a) [.tup ts] = (strsOf ts).bind fun xs => if joinSz a xs = true then some (T.str (jnL a xs)) else none := by
  show (match strsOf ts with | some xs => if joinSz a xs = true then some (T.str (jnL a xs)) else none | none => none) = _
  cases strsOf ts <;> rfl
theorem strsOf_nil : strsOf [] = some [] := rfl
theorem strsOf_cons {x : Nm} {ts : List T} : strsOf (.str x :: ts) = (strsOf ts).map (x :: ·) := rfl
theorem extM_l {xs zs : List T} : extM (κ := κ) xs (.lst zs) = bd (gdc (xs.length + zs.length ≤ sizeLine)) fun _ => pu (xs ++ zs) := by
  show bd (gd _) _ = _
  rw [gd_c]
theorem appM_c {xs : List T} {y : T} : appM (κ := κ) xs y = bd (gdc (xs.length < sizeLine)) fun _ => pu (xs ++ [y]) := by
  unfold appM
  rw [gd_c]
end
structure Bk where
  folk : List (Nm × Nm)
  unions : List (List Nm)
  births : List (Nm × List Nm)
  adopts : List (Nm × List Nm)
def bkT (B : Bk) : T := .tup [.tup (B.folk.map fkT), .tup (B.unions.map famT), .tup (B.births.map kinT), .tup (B.adopts.map kinT)]
def Bk.names (B : Bk) : List Nm := B.folk.map (·.1)
structure BkOk (B : Bk) : Prop where
  name : ∀ x ∈ B.folk, NameOk x.1 ∧ x.2 ∈ MKS
  nd : B.names.Nodup
  rf : Rise (B.folk.map fkT)
  lf : B.folk.length ≤ 16
  un : ∀ f ∈ B.unions, FamOk B.names f
  ru : Rise (B.unions.map famT)
  lu : B.unions.length ≤ 16
  bi : ∀ b ∈ B.births, KinOk B.names B.unions b
  rb : Rise (B.births.map kinT)
  lb : B.births.length ≤ 24
  ad : ∀ b ∈ B.adopts, KinOk B.names B.unions b
  ra : Rise (B.adopts.map kinT)
  la : B.adopts.length ≤ 12
section
variable {B : Bk} (h : BkOk B)
include h
theorem BkOk.nm {x : Nm} (hx : x ∈ B.names) : NameOk x := by
  obtain ⟨p, hp, rfl⟩ := List.mem_map.mp hx
  exact (h.name p hp).1
end
end TL
namespace TL
open PySem PySem.Spec PyProof.Rows L2
structure Lens (B : Bk) : Prop where
  f : ∀ a ∈ B.folk, a.1.length ≤ 8 ∧ a.2.length = 1
  u : ∀ a ∈ B.unions, a.length ≤ 2 ∧ ∀ x ∈ a, x.length ≤ 8
  b : ∀ a ∈ B.births, a.1.length ≤ 8 ∧ a.2.length ≤ 2 ∧ ∀ x ∈ a.2, x.length ≤ 8
  a : ∀ a ∈ B.adopts, a.1.length ≤ 8 ∧ a.2.length ≤ 2 ∧ ∀ x ∈ a.2, x.length ≤ 8
theorem kis_non_non : Kd.non.is .non = true := by decide
theorem kis_non_bool : Kd.non.is .bool = false := by decide
theorem kis_non_int : Kd.non.is .int = false := by decide
theorem kis_non_str : Kd.non.is .str = false := by decide
theorem kis_non_tup : Kd.non.is .tup = false := by decide
theorem kis_non_lst : Kd.non.is .lst = false := by decide
theorem kis_non_dct : Kd.non.is .dct = false := by decide
theorem kis_bool_non : Kd.bool.is .non = false := by decide
theorem kis_bool_bool : Kd.bool.is .bool = true := by decide
theorem kis_bool_int : Kd.bool.is .int = true := by decide
theorem kis_bool_str : Kd.bool.is .str = false := by decide
theorem kis_bool_tup : Kd.bool.is .tup = false := by decide
theorem kis_bool_lst : Kd.bool.is .lst = false := by decide
theorem kis_bool_dct : Kd.bool.is .dct = false := by decide
theorem kis_int_non : Kd.int.is .non = false := by decide
theorem kis_int_bool : Kd.int.is .bool = false := by decide
theorem kis_int_int : Kd.int.is .int = true := by decide
theorem kis_int_str : Kd.int.is .str = false := by decide
theorem kis_int_tup : Kd.int.is .tup = false := by decide
theorem kis_int_lst : Kd.int.is .lst = false := by decide
theorem kis_int_dct : Kd.int.is .dct = false := by decide
theorem kis_str_non : Kd.str.is .non = false := by decide
theorem kis_str_bool : Kd.str.is .bool = false := by decide
theorem kis_str_int : Kd.str.is .int = false := by decide
theorem kis_str_str : Kd.str.is .str = true := by decide
theorem kis_str_tup : Kd.str.is .tup = false := by decide
theorem kis_str_lst : Kd.str.is .lst = false := by decide
theorem kis_str_dct : Kd.str.is .dct = false := by decide
theorem kis_tup_non : Kd.tup.is .non = false := by decide
theorem kis_tup_bool : Kd.tup.is .bool = false := by decide
theorem kis_tup_int : Kd.tup.is .int = false := by decide
theorem kis_tup_str : Kd.tup.is .str = false := by decide
theorem kis_tup_tup : Kd.tup.is .tup = true := by decide
theorem kis_tup_lst : Kd.tup.is .lst = false := by decide
theorem kis_tup_dct : Kd.tup.is .dct = false := by decide
theorem kis_lst_non : Kd.lst.is .non = false := by decide
theorem kis_lst_bool : Kd.lst.is .bool = false := by decide
theorem kis_lst_int : Kd.lst.is .int = false := by decide
theorem kis_lst_str : Kd.lst.is .str = false := by decide
theorem kis_lst_tup : Kd.lst.is .tup = false := by decide
theorem kis_lst_lst : Kd.lst.is .lst = true := by decide
theorem kis_lst_dct : Kd.lst.is .dct = false := by decide
theorem kis_dct_non : Kd.dct.is .non = false := by decide
theorem kis_dct_bool : Kd.dct.is .bool = false := by decide
theorem kis_dct_int : Kd.dct.is .int = false := by decide
theorem kis_dct_str : Kd.dct.is .str = false := by decide
theorem kis_dct_tup : Kd.dct.is .tup = false := by decide
theorem kis_dct_lst : Kd.dct.is .lst = false := by decide
theorem kis_dct_dct : Kd.dct.is .dct = true := by decide
theorem isi_bl {S : Sto} {ks : List Kd} {b : Bool} : isiT ks S (.bl b) = some (.bl (ks.any fun c => Kd.is .bool c)) := rfl
theorem isi_non {S : Sto} {ks : List Kd} : isiT ks S .non = some (.bl (ks.any fun c => Kd.is .non c)) := rfl
theorem compA_ifo {κ α : Type} {p : α → Prop} [DecidablePred p] {g : α → T} (xs : List α) : compA (κ := κ) (fun a => pu (if p a then some (g a) else none)) xs = pu ((xs.filter fun a => decide (p a)).map g) := by
  rw [← compA_if]
  congr
  funext a
  split <;> rfl
inductive Dt : Nat → T → Prop
  | str (n : Nat) (x : Nm) : Dt n (.str x)
  | int (n : Nat) (i : Int) : Dt n (.int i)
  | bl (n : Nat) (b : Bool) : Dt n (.bl b)
  | tup {n : Nat} {xs : List T} : (∀ x ∈ xs, Dt n x) → xs.length ≤ 100000 → Dt (n + 1) (.tup xs)
  | lst {n : Nat} {xs : List T} : (∀ x ∈ xs, Dt n x) → xs.length ≤ 100000 → Dt (n + 1) (.lst xs)
theorem Dt.up : ∀ {n : Nat} {t : T}, Dt n t → Dt (n + 1) t
  | _, _, .str n x => .str _ x
  | _, _, .int n x => .int _ x
  | _, _, .bl n x => .bl _ x
  | _, _, .tup h l => .tup (fun x hx => Dt.up (h x hx)) l
  | _, _, .lst h l => .lst (fun x hx => Dt.up (h x hx)) l
theorem Dt.le {n m : Nat} {t : T} (h : Dt n t) (k : n ≤ m) : Dt m t := by
  induction k with
  | refl => exact h
  | step _ ih => exact ih.up
end TL
namespace TL
open PySem PySem.Spec PyProof.Rows L2
def Bk.kins (B : Bk) : List (Nm × List Nm) := B.births ++ B.adopts
theorem BkOk.lk {B : Bk} (h : BkOk B) : B.kins.length ≤ 36 := by
  have := h.lb; have := h.la
  unfold Bk.kins
  rw [List.length_append]; omega
end TL
namespace TL
open PySem PySem.Spec PyProof.Rows L2
section
variable {X : Cx} {e : Expr} {p apos cpos pos : Pos}
def dvalsT (S : Sto) (x : T) : Option T := (dView S x).map fun p => .lst p.2
end
section
variable {X : Cx} {e e2 : Expr} {p p2 pos pos2 : Pos}
def zmT : List T → List T → List T → List T → Option (List T × List T)
  | t :: ts, u :: us, ks, vs => match kyT t with
    | some x => zmT ts us (dPk ks x t) (dPv ks vs x u)
    | none => none
  | _, _, ks, vs => some (ks, vs)
def dzipF (S : Sto) : List T → Option T
  | [x, y] => match res S x, res S y with
    | .lst ts, .lst us => if ts.length = us.length then (zmT ts us [] []).map fun p => .dct false p.1 p.2 else none
    | _, _ => none
  | _ => none
end
section
variable {X : Cx} {o e : Expr} {to te : TTE} {apos cpos : Pos}
end
end TL
namespace TL
open PySem PySem.Spec PyProof.Rows L2
@[simp] theorem dvalsT_dct {ks vs : List T} : dvalsT emp (.dct false ks vs) = some (.lst vs) := rfl
theorem dzipF_l {ts us : List T} : dzipF emp [.lst ts, .lst us] = if ts.length = us.length then (zmT ts us [] []).map fun p => .dct false p.1 p.2 else none := rfl
section
variable {κ : Type} {W : κ → Sto} {p : TEnv} {α β : Type}
end
end TL
namespace TL
open PySem PySem.Spec PyProof.Rows L2
section
variable {κ α β σ : Type}
end
/-- the first book is a part of the other one, marks told or not -/
structure Part (P B : Bk) : Prop where
  nm : P.names.Sublist B.names
  mrk : ∀ p ∈ P.folk, ∃ m, (p.1, m) ∈ B.folk ∧ (p.2 = m ∨ p.2 = q "o")
  un : P.unions.Sublist B.unions
  bi : P.births.Sublist B.births
  ad : P.adopts.Sublist B.adopts
theorem Rise.sub {α : Type} {e : α → T} {xs ys : List α} (h : Rise (ys.map e)) (s : xs.Sublist ys) : Rise (xs.map e) := List.Pairwise.sublist (s.map e) h
section
variable {B : Bk} {F : Nm → Nm} (h : BkOk B) (inj : ∀ a ∈ B.names, ∀ b ∈ B.names, F a = F b → a = b)
include h inj
end
theorem slen_strs {xs : List Nm} (hl : xs.length + 2 < scanBound) : slenT emp (.lst (xs.map T.str)) = some (.int (ddup T.str xs).length) := by
  rw [slenT_lst, setOk_strs hl, if_pos rfl, ddup_map, List.length_map]
/-- pairs of the folk of two books -/
structure PairsOk (A B : Bk) (ps : List (Nm × Nm)) : Prop where
  nd1 : (ps.map (·.1)).Nodup
  nd2 : (ps.map (·.2)).Nodup
  m1 : ∀ p ∈ ps, p.1 ∈ A.names
  m2 : ∀ p ∈ ps, p.2 ∈ B.names
end TL
namespace TL
open PySem PySem.Spec PyProof.Rows L2
/-- a kind of things that can be asked for -/
structure KQ {α : Type} (e : α → T) : Prop where
  inj : ∀ a b, e a = e b → a = b
  kx : ∀ a, kx (e a) = true
  dp : ∀ a, dep (e a) ≤ 8
section
variable {α : Type} {e : α → T}
theorem KQ.okd (h : KQ e) (a : α) : okd (e a) = true := by
  have := h.dp a
  unfold TL.okd
  rw [kx_plain _ (h.kx a), decide_eq_true (by omega)]
  rfl
theorem KQ.eqt (h : KQ e) [DecidableEq α] (a b : α) : eqt (e a) (e b) = decide (a = b) := by
  have z := eqt_kx (e a) (e b) (h.kx a) (h.kx b)
  by_cases q : a = b
  · subst q; rw [decide_eq_true rfl]; exact z.mpr rfl
  · rw [decide_eq_false q]
    cases w : TL.eqt (e a) (e b) with
    | false => rfl
    | true => exact absurd (h.inj _ _ (z.mp w)) q
theorem KQ.any (h : KQ e) [DecidableEq α] (a : α) : ∀ xs : List α, ((xs.map e).any fun z => TL.eqt z (e a)) = decide (a ∈ xs)
  | [] => rfl
  | x :: xs => by
    rw [List.map_cons, List.any_cons, KQ.any h a xs, h.eqt]
    by_cases q : x = a
    · subst q; simp
    · have q' : a ≠ x := fun z => q z.symm
      simp [q, q']
theorem KQ.okds (h : KQ e) (xs : List α) : TL.okd (.lst (xs.map e)) = true ∧ TL.okd (.tup (xs.map e)) = true := okd_map fun x _ => ⟨h.okd x, by have := h.dp x; omega⟩
theorem KQ.inT (h : KQ e) [DecidableEq α] (a : α) (xs : List α) : inT emp (e a) (.tup (xs.map e)) = some (.bl (decide (a ∈ xs))) ∧ inT emp (e a) (.lst (xs.map e)) = some (.bl (decide (a ∈ xs))) := by
  constructor
  · unfold TL.inT inQ
    show Option.map _ (if (TL.okd (e a) && TL.okd (.tup (xs.map e))) = true then _ else none) = _
    rw [h.okd, (h.okds xs).2, Bool.and_self, if_pos rfl, h.any]; rfl
  · unfold TL.inT inQ
    show Option.map _ (if (TL.okd (e a) && TL.okd (.lst (xs.map e))) = true then _ else none) = _
    rw [h.okd, (h.okds xs).1, Bool.and_self, if_pos rfl, h.any]; rfl
theorem KQ.ninT (h : KQ e) [DecidableEq α] (a : α) (xs : List α) : ninT emp (e a) (.tup (xs.map e)) = some (.bl (!decide (a ∈ xs))) ∧ ninT emp (e a) (.lst (xs.map e)) = some (.bl (!decide (a ∈ xs))) := by
  constructor
  · unfold TL.ninT inQ
    show Option.map _ (if (TL.okd (e a) && TL.okd (.tup (xs.map e))) = true then _ else none) = _
    rw [h.okd, (h.okds xs).2, Bool.and_self, if_pos rfl, h.any]; rfl
  · unfold TL.ninT inQ
    show Option.map _ (if (TL.okd (e a) && TL.okd (.lst (xs.map e))) = true then _ else none) = _
    rw [h.okd, (h.okds xs).1, Bool.and_self, if_pos rfl, h.any]; rfl
end
inductive Rw where
  | fk (p : Nm × Nm) : Rw
  | un (f : List Nm) : Rw
  | bo (b : Nm × List Nm) : Rw
  | ad (b : Nm × List Nm) : Rw
  deriving DecidableEq
theorem kx_row (xs : List T) (h : ∀ x ∈ xs, kx x = true) : kx (.tup xs) = true := by
  show kxs xs = true
  induction xs with
  | nil => rfl
  | cons x xs ih =>
    show (kx x && kxs xs) = true
    rw [h x List.mem_cons_self, ih fun y hy => h y (List.mem_cons_of_mem _ hy)]
    rfl
def Bk.rows (B : Bk) : List Rw := B.folk.map .fk ++ B.unions.map .un ++ B.births.map .bo ++ B.adopts.map .ad
end TL
namespace TL
open PySem PySem.Spec PyProof.Rows L2
section
variable {G : Gd} {S1 : Sto} {H1 : Hp}
end
section
variable {S0 S S' : Sto} {H0 H H' : Hp} {d : Addr} {o : Obj} {kvs : List (Key × V)}
end
section
variable {X : Cx} {tg : Expr} {body : List Stmt} {g : TTG} {t : TTS} {vs : List Nat} {pos p : Pos} {x : Str} {i : Nat}
end
section
variable {X : Cx} {elt tg : Expr} {ifs : List Expr} {scope : Scope} {g : TTG} {tc : TTB} {te : TTE} {pos p : Pos} {x : Str} {i : Nat} {ow : List (Str × Nat)}
end
section
variable {X : Cx} {k v : Expr} {tk tv : TTE} {pos : Pos}
end
section
variable {X : Cx} {o e i : Expr} {to te ti : TTE} {apos cpos : Pos}
end
section
variable {X : Cx} {e : Expr} {te : TTE} {p pos : Pos}
end
end TL
namespace TL
open PySem PySem.Spec PyProof.Rows L2
section
variable {κ : Type} {W : κ → Sto} {p : TEnv} {l : Cs}
def keysM (v : T) : PM κ (List T) := match v with
  | .dct false ks _ => pu ks
  | _ => stuck
@[simp] theorem keysM_dct {ks vs : List T} : keysM (κ := κ) (.dct false ks vs) = pu ks := rfl
variable {e : TTE} {m : PM κ T}
end
end TL
namespace TL
open PySem PySem.Spec PyProof.Rows L2
/-- a walk of so many steps -/
def Walk (ab : Nm → List Nm) : Nat → Nm → Nm → Prop
  | 0, a, b => a = b
  | k + 1, a, b => ∃ c, c ∈ ab a ∧ Walk ab k c b
structure Bfs (ab : Nm → List Nm) (b : Nm) (row : List Nm) (par : Nm → Option Nm) (D : Nm → Nat) (i : Nat) : Prop where
  nd : row.Nodup
  hd : row[0]? = some b
  db : D b = 0
  pb : par b = none
  pr : ∀ x ∈ row, x ≠ b → ∃ p, par x = some p ∧ p ∈ row ∧ x ∈ ab p ∧ D x = D p + 1
  mono : ∀ (j k : Nat) (x y : Nm), j ≤ k → row[j]? = some x → row[k]? = some y → D x ≤ D y
  near : ∀ x y : Nm, row[i]? = some x → y ∈ row → D y ≤ D x + 1
  done : ∀ (j : Nat) (x : Nm), j < i → row[j]? = some x → b ∉ ab x ∧ ∀ y ∈ ab x, y ∈ row ∧ D y ≤ D x + 1
section
variable {ab : Nm → List Nm} {b here y : Nm} {row : List Nm} {par : Nm → Option Nm} {D : Nm → Nat} {i : Nat}
theorem Bfs.start (b : Nm) : Bfs ab b [b] (fun _ => none) (fun _ => 0) 0 where
  nd := by simp
  hd := rfl
  db := rfl
  pb := rfl
  pr := fun x hx hn => absurd (List.mem_singleton.mp hx) hn
  mono := fun _ _ _ _ _ _ _ => Nat.le_refl _
  near := fun _ _ _ _ => Nat.zero_le _
  done := fun j _ h _ => absurd h (Nat.not_lt_zero _)
theorem Bfs.next (h : Bfs ab b row par D i) (hi : row[i]? = some here) (hb : b ∉ ab here) (ha : ∀ y ∈ ab here, y ∈ row) : Bfs ab b row par D (i + 1) :=
  ⟨h.nd, h.hd, h.db, h.pb, h.pr, h.mono, fun x z hx hz => Nat.le_trans (h.near here z hi hz) (by have := h.mono i (i + 1) here x (by omega) hi hx; omega), fun j x hj hx => by
    by_cases e : j = i
    · subst e
      rw [hi] at hx
      cases hx
      exact ⟨hb, fun z hz => ⟨ha z hz, h.near here z hi (ha z hz)⟩⟩
    · exact h.done j x (by omega) hx⟩
theorem Bfs.none (h : Bfs ab b row par D row.length) : ∀ (k : Nat) (x : Nm), x ∈ row → ¬ Walk ab (k + 1) x b
  | 0, x, hx, ⟨c, hc, e⟩ => by
    obtain ⟨j, hj⟩ := List.getElem?_of_mem hx
    have e : c = b := e
    subst e
    exact (h.done j x (List.getElem?_eq_some_iff.mp hj).1 hj).1 hc
  | k + 1, x, hx, ⟨c, hc, w⟩ => by
    obtain ⟨j, hj⟩ := List.getElem?_of_mem hx
    exact h.none k c ((h.done j x (List.getElem?_eq_some_iff.mp hj).1 hj).2 c hc).1 w
theorem Bfs.least (h : Bfs ab b row par D i) (hi : row[i]? = some here) : ∀ (k : Nat) (x : Nm), x ∈ row → Walk ab (k + 1) x b → D here ≤ D x + k := by
  intro k
  induction k with
  | zero =>
    rintro x hx ⟨c, hc, e⟩
    obtain ⟨j, hj⟩ := List.getElem?_of_mem hx
    by_cases q : j < i
    · have e : c = b := e
      subst e
      exact absurd hc (h.done j x q hj).1
    · exact h.mono i j here x (by omega) hi hj
  | succ k ih =>
    rintro x hx ⟨c, hc, w⟩
    obtain ⟨j, hj⟩ := List.getElem?_of_mem hx
    by_cases q : j < i
    · obtain ⟨m1, m2⟩ := (h.done j x q hj).2 c hc
      have := ih c m1 w
      omega
    · have := h.mono i j here x (by omega) hi hj
      omega
end
/-- each one leads to the next one -/
def Chn (ab : Nm → List Nm) : List Nm → Prop
  | a :: c :: r => c ∈ ab a ∧ Chn ab (c :: r)
  | _ => True
section
variable {κ σ : Type} {c : σ → PM κ Bool} {b : σ → PM κ σ}
end
theorem Bfs.deep {ab : Nm → List Nm} {b0 : Nm} {row : List Nm} {par : Nm → Option Nm} {D : Nm → Nat} {i : Nat} (h : Bfs ab b0 row par D i) : ∀ (n : Nat) (x : Nm), x ∈ row → D x = n → ∃ l : List Nm, l.Nodup ∧ (∀ y ∈ l, y ∈ row ∧ D y ≤ n) ∧ l.length = n + 1
  | 0, x, hx, hd => ⟨[x], by simp, fun y hy => by rw [List.mem_singleton.mp hy]; exact ⟨hx, by omega⟩, rfl⟩
  | n + 1, x, hx, hd => by
    have hn : x ≠ b0 := fun e => by rw [e, h.db] at hd; omega
    obtain ⟨p, _, e2, _, e4⟩ := h.pr x hx hn
    obtain ⟨l, l1, l2, l3⟩ := h.deep n p e2 (by omega)
    refine ⟨x :: l, List.nodup_cons.mpr ⟨fun z => by have := (l2 x z).2; omega, l1⟩, fun y hy => ?_, by rw [List.length_cons, l3]⟩
    rcases List.mem_cons.mp hy with rfl | hy
    · exact ⟨hx, by omega⟩
    · exact ⟨(l2 y hy).1, by have := (l2 y hy).2; omega⟩
section
variable {κ σ α : Type}
variable {c : σ → PM κ Bool} {b : σ → PM κ (Fl σ)} {k : Nat} {s s' : σ}
end
/-- a ring of forebears from somebody, of least length -/
structure RingAt (ab : Nm → List Nm) (V : List Nm) (b0 : Nm) (p : List Nm) : Prop where
  chn : Chn ab (b0 :: p)
  mem : ∀ x ∈ p, x ∈ V
  back : ∃ l, (b0 :: p)[p.length]? = some l ∧ b0 ∈ ab l
  least : ∀ k, Walk ab (k + 1) b0 b0 → p.length ≤ k
  len : p.length < V.length
theorem Walk.snoc {ab : Nm → List Nm} : ∀ {k : Nat} {a b c : Nm}, Walk ab k a b → c ∈ ab b → Walk ab (k + 1) a c
  | 0, a, b, c, h, hc => ⟨c, by have h : a = b := h; rw [h]; exact hc, rfl⟩
  | k + 1, a, b, c, ⟨d, hd, w⟩, hc => ⟨d, hd, w.snoc hc⟩
theorem Chn.walk {ab : Nm → List Nm} : ∀ {p : List Nm} {a l : Nm}, Chn ab (a :: p) → (a :: p)[p.length]? = some l → Walk ab p.length a l
  | [], a, l, _, h => by
    have h : some a = some l := h
    cases h
    rfl
  | c :: p, a, l, ⟨h1, h2⟩, h => ⟨c, h1, Chn.walk h2 (by simpa using h)⟩
theorem RingAt.walk {ab : Nm → List Nm} {V p : List Nm} {b0 : Nm} (h : RingAt ab V b0 p) : Walk ab (p.length + 1) b0 b0 := by
  obtain ⟨l, h1, h2⟩ := h.back
  exact (h.chn.walk h1).snoc h2
end TL
namespace TL
open PySem PySem.Spec PyProof.Rows L2
end TL
namespace TL
open PySem PySem.Spec PyProof.Rows L2
end TL
namespace TL
open PySem PySem.Spec PyProof.Rows L2
/-- an exception class of the program -/
structure XC (K : PySem.W.Frag) (C : Addr) : Prop where
  oex : OexC K C
  ga : PySem.W.findIn K (.ref C) "__getattribute__" = some (some (.builtin "BaseException.__getattribute__"))
  gg : PySem.W.findIn K (.ref C) "__getattr__" = some none
  hd : PySem.W.hasDictIn K C = true
  ca : PySem.W.findIn K (.ref C) "__class__" = some (some (.builtin "object.__class__"))
  mo : PySem.W.mroIn K C (.type "object") = some true
  cn : PySem.W.specialIn K (.builtin "object.__class__") "__get__" = some (some (.builtin "getset_descriptor.__get__"))
  ct : PySem.W.takesIn K (.builtin "object.__class__") = some true
/-- the base class over ValueError, without an __init__ of its own -/
structure KeB (K : PySem.W.Frag) (B : Addr) : Prop where
  rd : PySem.W.readsIn K B (.type "type") = true
  ga : PySem.W.specialIn K (.ref B) "__getattribute__" = some (some (.builtin "type.__getattribute__"))
  at_ : PySem.W.findCls K (.ref B) (.type "type") "__init__" = some (.val (.builtin "ValueError.__init__"))
/-- C's __init__ at f; its fields aren't found in the class -/
structure XIn (K : PySem.W.Frag) (C f : Addr) (fs : List Str) : Prop where
  iC : PySem.W.findIn K (.ref C) "__init__" = some (some (.ref f))
  tI : PySem.W.typeIn K (.ref f) = some (.type "function")
  no : ∀ x ∈ fs, PySem.W.findIn K (.ref C) x = some none
section
variable {X : Cx} {o e : Expr} {es : List Expr} {ta : L2.TA} {p1 p2 pos : Pos} {x : Str} {B : Addr}
end
/-- what an __init__ of the class at C promises: its fields, the last one first -/
def spI (K : PySem.W.Frag) (C : Addr) (fs : List Str) : Sp := fun vs H Q _ => ∃ a ws, vs = .ref a :: ws ∧ ws.length = fs.length ∧ H a = some (exo a C none) ∧
  ((fs = [] ∧ Q .non H) ∨ (fs ≠ [] ∧ ∀ d H2, H d = none → d ≠ a → (∀ b, b ≠ a → b ≠ d → H2 b = H b) → H2 a = some (exo a C (some d)) → H2 d = some (exd d (fs.reverse.zip ws.reverse)) → Q .non H2))
section
variable {P : Program} {w : World} {K : PySem.W.Frag} {mg : Str → Option Value} {base : Heap} {x qual : Str} {params : Arguments} {body : List Stmt} {scope : Scope} {f C : Addr} {fd : FuncData} {m f1 f2 a1 a2 : Str}
end
section
variable {X : Cx} {CX : CXT} {x : Str} {C fI : Addr} {k : Nat} {fd : FuncData} {ps : List Str} {fs : List Str} {e : Expr} {es : List Expr} {ta : L2.TA} {p pos : Pos}
end
/-- a class of the module, its __init__ -/
structure XOk (P : Program) (w : World) (K : PySem.W.Frag) (mg : Str → Option Value) (base : Heap) (c : Str) (fs : List Str) : Prop where
  xc : XC K (He.ga K c)
  gm : mg c = some (.ref (He.ga K c))
  ini : ∃ (f : Addr) (fd : FuncData) (ps : List Str), XIn K (He.ga K c) f fs ∧ FnOk P w K mg base (L2N.CX P w) 1 f fd ps (spI K (He.ga K c) fs) ∧ Binds K fd ps []
section
variable {X : Cx} {c : Str} {fs : List Str} {e : Expr} {es : List Expr} {ta : TTA} {p pos pos' : Pos} {j : Nat}
end
section
variable {κ β : Type} {W : κ → Sto} {p : TEnv} {l : Cs} {u : TTS} {post : β → Dest}
end
end TL
namespace TL
open PySem PySem.Spec PyProof.Rows L2
section
variable {α σ : Type}
/-- a loop that may end by a return, but doesn't -/
theorem HT.forRA {d : Nat} {f : α → σ → PM Cell (Fl σ)} (I : List α → σ → Prop) : ∀ (xs : List α) (s : σ), I xs s → (∀ x xs s, I (x :: xs) s → HT d (f x s) fun r => ∃ s', r = .nx s' ∧ I xs s') → HT (xs.length * d) (TL.forRA f xs s) fun r => ∃ s', r = .inl s' ∧ I [] s'
  | [], s, hi, _ => by
    rw [List.length_nil, Nat.zero_mul]
    exact HT.pu ⟨s, rfl, hi⟩
  | x :: xs, s, hi, h => by
    rw [List.length_cons, Nat.succ_mul]
    refine HT.bd (h x xs s hi) fun r hr => ?_
    obtain ⟨s', rfl, hs'⟩ := hr
    exact HT.forRA I xs s' hs' h
end
end TL
namespace TL
open PySem PySem.Spec PyProof.Rows L2 HotX
section
variable {prog : Program} {w : World} {A : Around} {E : Value → Shared → Prop} {s : Shared} {x1 it l : Addr} {i : Nat} {items : Array Value}
end
/-- it stands frozen from the entry on, its context is None -/
def HotX (X : Cx) : Prop := ∃ a o vs u, X.A.handled = some (.ref a) ∧ X.H_0 a = some (.frz o u) ∧ o.data = .fields vs ∧ vs[2]? = some .none
section
variable {X : Cx} {pins : List (Addr × Obj)} {σ : L2.St} {H : Hp} {s : Shared}
theorem frz_get {P : Program} {w : World} {h : Heap} {a : Addr} {o : Obj} {u : HO} (x : ObjOk P w H h a (.frz o u)) : h.get? a = some o := by
  obtain ⟨e, _⟩ := x
  exact e
theorem HotX.at (c : HotX X) (I : Inv X pins σ H s) : ∃ a o vs u, X.A.handled = some (.ref a) ∧ H a = some (.frz o u) ∧ s.heap.get? a = some o ∧ o.data = .fields vs ∧ vs[2]? = some .none := by
  obtain ⟨a, o, vs, u, h1, h2, h3, h4⟩ := c
  have q := I.base.frzs a o u h2
  exact ⟨a, o, vs, u, h1, q, frz_get (I.hok a _ q), h3, h4⟩
theorem HotX.blk (c : HotX X) (I : Inv X pins σ H s) {scope : Scope} {env : Env} {fp : List Addr} : HotX (X.blk s H scope env fp) := by
  obtain ⟨a, o, vs, u, h1, q, _, h3, h4⟩ := c.at I
  exact ⟨a, o, vs, u, h1, q, h3, h4⟩
end
end TL
namespace TL
open PySem PySem.Spec PyProof.Rows L2 HotX
/-- an iterator's turns in such a context -/
structure TurnX (P : Program) (w : World) (K : PySem.W.Frag) (tg : Expr) (J : It) (fp : List Addr) (it : Addr) (tn : Nat → Heap → Prop) : Prop where
  mem : it ∈ fp
  obj : ∀ i h, tn i h → ∀ b ∈ fp, ∃ o, h.get? b = some o ∧ ∀ v, o.data ≠ .cell v
  keep : ∀ i h h', tn i h → (∀ b ∈ fp, ∀ o, h.get? b = some o → h'.get? b = some o) → tn i h'
  self : ∀ (A : Around) (i : Nat) (s : Shared) (Q : Value → Shared → Prop) (E : Value → Shared → Prop), tn i s.heap → Q (.ref it) s → wpAny (model P w) A (pyIter (.ref it)) Q E s
  item : ∀ (X : Cx) (i : Nat) (pins : List (Addr × Obj)) (s : Shared) (σ : L2.St) (H : Hp) (E : Value → Shared → Prop), X.prog = P → X.w = w → X.K = K → HotX X → Inv X pins σ H s → (∀ b ∈ fp, FpOk X pins H b) → tn i s.heap → J.go i H →
    wpAny (model P w) X.A (pyNext (.ref it)) (fun r s1 => ∃ u, r = some u ∧ wpAny (model P w) X.A (letOwnedTupleGo tg (.ref it) u) (fun _ s2 => ∃ x H', Inv X pins σ H' s2 ∧ RelV x u ∧ J.yld i H x H' ∧ tn (i + 1) s2.heap ∧ ∀ b ∈ fp, H' b = none) E s1) E s
  done : ∀ (X : Cx) (i : Nat) (pins : List (Addr × Obj)) (s : Shared) (σ : L2.St) (H : Hp) (E : Value → Shared → Prop), X.prog = P → X.w = w → X.K = K → HotX X → Inv X pins σ H s → (∀ b ∈ fp, FpOk X pins H b) → tn i s.heap → J.stop i H →
    wpAny (model P w) X.A (pyNext (.ref it)) (fun r s1 => r = none ∧ Inv X pins σ H s1) E s
structure PIX (X : Cx) (tg iter : Expr) (wi : L2.TI) : Prop where
  run : ∀ (pins : List (Addr × Obj)) (s : Shared) (σ : L2.St) (H : Hp) (R : It → Hp → Prop), Inv X pins σ H s → wi σ H R →
    wpAny (model X.prog X.w) X.A (eval iter X.env) (fun v s1 => wpAny (model X.prog X.w) X.A (pyIter v) (fun itv s2 =>
      ∃ it fp tn J H', itv = .ref it ∧ Inv X pins σ H' s2 ∧ TurnX X.prog X.w X.K tg J fp it tn ∧ tn 0 s2.heap ∧ (∀ b ∈ fp, FpOk X pins H' b) ∧ R J H') X.xe s1) X.xe s
theorem PIX.weak {X : Cx} {tg e : Expr} {t u : L2.TI} (h : PIX X tg e t) (k : ∀ σ H R, u σ H R → t σ H R) : PIX X tg e u := ⟨fun pins s σ H R I q => h.run pins s σ H R I (k _ _ _ q)⟩
section
variable {X : Cx} {elt tg iter : Expr} {ifs : List Expr} {scope : Scope} {own : List (Str × Nat)} {wi : L2.TI} {g : L2.TG} {tt : L2.TT} {te : L2.TE}
/-- the block's parts, wherever it begins -/
structure BlkX (X : Cx) (scope : Scope) (tg : Expr) (ifs : List Expr) (elt : Expr) (g : L2.TG) (tt : L2.TT) (te : L2.TE) : Prop where
  g : ∀ (s : Shared) (H : Hp) (C : Addr) (cl : List (Str × Addr)) (fp : List Addr), HotX (X.blk s H scope (compEnvC scope cl C X.env) fp) → PG (X.blk s H scope (compEnvC scope cl C X.env) fp) tg g
  t : ∀ (s : Shared) (H : Hp) (C : Addr) (cl : List (Str × Addr)) (fp : List Addr), PTs (X.blk s H scope (compEnvC scope cl C X.env) fp) ifs tt
  e : ∀ (s : Shared) (H : Hp) (C : Addr) (cl : List (Str × Addr)) (fp : List Addr), PE (X.blk s H scope (compEnvC scope cl C X.env) fp) elt te
end
end TL
namespace TL
open PySem PySem.Spec PyProof.Rows L2 HotX
section
variable {P : Program} {w : World} {X : Cx} {pins : List (Addr × Obj)} {σ : L2.St} {H : Hp} {s : Shared} {a C : Addr} {d : Option Addr}
end
section
variable {G : Gd} {H : Hp} {S : Sto} {a : Addr} {c : Str} {ns : List Str} {ts : List T}
end
section
variable {X : Cx} {a e : Expr} {ta : TTE} {p p2 pos : Pos} {D f : Str} {tbl : Str → Option Bool} {ok : Str → Bool}
end
end TL
namespace TL
open PySem PySem.Spec PyProof.Rows L2 HotX
structure Hd where
  c : Value
  i : Option Nat
  ts : Addr → L2.TS
def hdSet : Option Nat → Option V → L2.St → L2.St
  | none, _, σ => σ
  | some i, v, σ => σ.set i v
/-- the context of a suite -/
abbrev sui (X : Cx) (a : Addr) (pins : List (Addr × Obj)) : Cx := X.suite a (X.pn ++ pins)
inductive HdsX (X : Cx) : List ExceptHandler → List Hd → Prop
  | nil : HdsX X [] []
  | plain {x : Str} {c : Value} {ts : Addr → L2.TS} {b₀ : Stmt} {suite : List Stmt} {np pos' : Pos} {hds : List ExceptHandler} {l : List Hd} (hc : Names X x c) (hsu : ∀ a pins, PSs (sui X a pins) (b₀ :: suite) (ts a)) (r : HdsX X hds l) :
      HdsX X (.ExceptHandler (some (.Name x np)) none (b₀ :: suite) pos' :: hds) (⟨c, none, ts⟩ :: l)
  | named {x n : Str} {c : Value} {i : Nat} {ts : Addr → L2.TS} {b₀ : Stmt} {suite : List Stmt} {np pos' : Pos} {hds : List ExceptHandler} {l : List Hd} (hc : Names X x c) (hN : X.N.Nodup) (hi : X.N[i]? = some n) (hln : X.env.kindOf n = some .local) (hsu : ∀ a pins, PSs (sui X a pins) (b₀ :: suite) (ts a)) (r : HdsX X hds l) :
      HdsX X (.ExceptHandler (some (.Name x np)) (some n) (b₀ :: suite) pos' :: hds) (⟨c, some i, ts⟩ :: l)
section
variable {X : Cx} {pins : List (Addr × Obj)} {σ : L2.St} {H : Hp} {s sI : Shared} {a C : Addr} {d : Option Addr}
end
section
variable {X : Cx} {body : List Stmt} {h₀ : ExceptHandler} {hds : List ExceptHandler} {l : List Hd} {pos : Pos} {tb : WX → L2.TS} {Wout : WX}
end
end TL
namespace TL
open PySem PySem.Spec PyProof.Rows L2 HotX
abbrev RoomH := L2H.RoomH
def HotA (A : Around) (H : Hp) : Prop := ∃ a o vs u, A.handled = some (.ref a) ∧ H a = some (.frz o u) ∧ o.data = .fields vs ∧ vs[2]? = some .none
abbrev CX0 : CXT := fun _ _ _ _ _ _ => False
structure FnX (P : Program) (w : World) (K : PySem.W.Frag) (mg : Str → Option Value) (base : Heap) (k : Nat) (f : Addr) (fd : FuncData) (ps : List Str) (sp : Sp) : Prop where
  len : ∀ vs H Q E, sp vs H Q E → vs.length = ps.length
  run : ∀ (A : Around) (outer : List Env) (s : Shared) (H : Hp) (args : Args) (us : List Value) (vs : List V) (Q : VK) (E : XK), RoomH k A → HotA A H → Env0 P w K mg base A outer s H → BindsTo s fd args (ps.zip us) → Vals vs us → sp vs H Q E →
    codeAny (model P w) A (.call (.ref f) args) (CR CX0 outer P w H s Q E) s
section
variable {P : Program} {w : World} {K : PySem.W.Frag} {mg : Str → Option Value} {base : Heap} {x qual : Str} {params : Arguments} {body : List Stmt} {scope : Scope} {f : Addr} {fd : FuncData} {N ps : List Str} {k : Nat} {c : TTS}
end
def HotS (A : Around) (S : Sto) (H : Hp) : Prop := ∃ a o vs u, A.handled = some (.ref a) ∧ H a = some (.frz o u) ∧ S a = none ∧ o.data = .fields vs ∧ vs[2]? = some .none
theorem HotS.ext {A : Around} {S S' : Sto} {H H' : Hp} (h : HotS A S H) (x : Ext S H S' H') : HotS A S' H' := by
  obtain ⟨a, o, vs, u, h1, h2, h3, h4, h5⟩ := h
  obtain ⟨q1, q2⟩ := (x a (.frz o u) h3).1 h2 rfl
  exact ⟨a, o, vs, u, h1, q1, q2, h4, h5⟩
theorem HotS.a {A : Around} {S : Sto} {H : Hp} (h : HotS A S H) : HotA A H := by
  obtain ⟨a, o, vs, u, h1, h2, h3, h4, h5⟩ := h
  exact ⟨a, o, vs, u, h1, h2, h4, h5⟩
def TEH (X : Cx) (e : Expr) (t : TTE) : Prop := ∀ M S0 H0 E, HotS X.A S0 H0 → Takes X (wOf X M S0 H0 E) → PE X e (LE X M S0 H0 t E)
def TSH (X : Cx) (s : Stmt) (t : TTS) : Prop := ∀ M S0 H0 E, HotS X.A S0 H0 → Takes X (wOf X M S0 H0 E) → PS X s (LS X M S0 H0 t E)
def TSsH (X : Cx) (s : List Stmt) (t : TTS) : Prop := ∀ M S0 H0 E, HotS X.A S0 H0 → Takes X (wOf X M S0 H0 E) → PSs X s (LS X M S0 H0 t E)
section
variable {X : Cx} {k j : Nat} {f : Addr} {fd : FuncData} {ps : List Str} {x : Str} {p pos : Pos} {e : Expr} {es : List Expr}
theorem TE.h {t : TTE} (h : TE X e t) : TEH X e t := fun M S0 H0 E _ tk => h M S0 H0 E tk
theorem TS.h {st : Stmt} {t : TTS} (h : TS X st t) : TSH X st t := fun M S0 H0 E _ tk => h M S0 H0 E tk
end
section
variable {X : Cx} {tg e a b elt iter : Expr} {ifs : List Expr} {ta tb te : TTE} {p pos tpos spos py : Pos} {elts : List Expr} {kk : Nat} {ti : TTI} {g : TTG} {tc : TTB} {scope : Scope} {ow : List (Str × Nat)}
end
end TL
namespace TL
open PySem PySem.Spec PyProof.Rows L2 HotX
/-- a clause: its class, the slot of its name, its suite -/
structure Hc where
  c : Str
  i : Option Nat
  ts : TTS
def hSet : Option Nat → Option T → TEnv → TEnv
  | none, _, τ => τ
  | some i, v, τ => τ.set i v
inductive HcX (X : Cx) : List ExceptHandler → List Hc → Prop
  | nil : HcX X [] []
  | plain {x : Str} {ts : TTS} {b₀ : Stmt} {suite : List Stmt} {np pos' : Pos} {hds : List ExceptHandler} {l : List Hc} (hc : Names X x (.ref (He.ga X.K x))) (hsu : ∀ a pins, TSsH (sui X a pins) (b₀ :: suite) ts) (r : HcX X hds l) :
      HcX X (.ExceptHandler (some (.Name x np)) none (b₀ :: suite) pos' :: hds) (⟨x, none, ts⟩ :: l)
  | named {x n : Str} {i : Nat} {ts : TTS} {b₀ : Stmt} {suite : List Stmt} {np pos' : Pos} {hds : List ExceptHandler} {l : List Hc} (hc : Names X x (.ref (He.ga X.K x))) (hN : X.N.Nodup) (hi : X.N[i]? = some n) (hln : X.env.kindOf n = some .local) (hsu : ∀ a pins, TSsH (sui X a pins) (b₀ :: suite) ts) (r : HcX X hds l) :
      HcX X (.ExceptHandler (some (.Name x np)) (some n) (b₀ :: suite) pos' :: hds) (⟨x, some i, ts⟩ :: l)
section
variable {X : Cx}
theorem EnvR.off {G : Gd} {H : Hp} {S : Sto} {σ : L2.St} {τ : TEnv} (h : EnvR G H S σ τ) (i : Option Nat) : EnvR G H S (hdSet i none σ) (hSet i none τ) := by
  cases i with
  | none => exact h
  | some i => exact h.wipe [i]
theorem Rel.off {G : Gd} {S0 S : Sto} {H0 H : Hp} {σ : L2.St} {τ : TEnv} (r : Rel G S0 H0 σ H τ S) (i : Option Nat) : Rel G S0 H0 (hdSet i none σ) H (hSet i none τ) S := ⟨r.env.off i, r.sto, r.ext⟩
end
section
variable {κ α β σ : Type} {W : κ → Sto} {p : TEnv} {post : β → Dest}
/-- the slot of the clause's name is not told -/
def OffP (i : Option Nat) : Dest → Prop
  | .nx p _ => ∀ j, i = some j → p[j]? = some none
  | .bk p _ => ∀ j, i = some j → p[j]? = some none
  | .ct p _ => ∀ j, i = some j → p[j]? = some none
  | .rt _ => True
  | .fin => True
theorem En.off {p τ : TEnv} {i : Option Nat} (h : En p τ) (hi : ∀ j, i = some j → p[j]? = some none) : En p (hSet i none τ) := by
  cases i with
  | none => exact h
  | some j =>
    have e : p.set j none = p := by
      apply List.ext_getElem?
      intro n
      by_cases hn : j = n
      · subst hn
        rw [List.getElem?_set_self', hi j rfl]
        rfl
      · rw [List.getElem?_set_ne hn]
    have z := h.set (i := j) (x := none)
    rw [e] at z
    exact z
inductive XHs (W : κ → Sto) (p : TEnv) (post : β → Dest) : List Hc → List (Str × (T → PM κ β)) → Prop
  | nil : XHs W p post [] []
  | cons {c : Str} {i : Option Nat} {ts : TTS} {g : T → PM κ β} {l : List Hc} {lm : List (Str × (T → PM κ β))} (h : ∀ x, XS W (hSet i (some x) p) [] ts (g x) post) (o : ∀ b, OffP i (post b)) (r : XHs W p post l lm) : XHs W p post (⟨c, i, ts⟩ :: l) ((c, g) :: lm)
end
section
variable {X : Cx} {j i : Nat} {x : Str} {p pos : Pos} {e : Expr} {es : List Expr} {ta : TTA}
end
section
variable {κ : Type} {W : κ → Sto} {p : TEnv} {l : Cs}
def fnOf (t : Str → Option (List T → PM Unit T)) : T → Option (List T → PM Unit T)
  | .fn x => t x
  | _ => none
end
inductive Alls {α : Type} (P : α → Prop) : List α → Prop
  | nil : Alls P []
  | cons {a : α} {l : List α} (h : P a) (r : Alls P l) : Alls P (a :: l)
theorem Alls.mem {α : Type} {P : α → Prop} {l : List α} (h : Alls P l) : ∀ {a : α}, a ∈ l → P a := by
  induction h with
  | nil => intro a m; cases m
  | cons h r ih =>
    intro a m
    rcases List.mem_cons.mp m with e | m
    · exact e ▸ h
    · exact ih m
end TL
namespace TL
open PySem PySem.Spec PyProof.Rows L2 HotX
section
variable {κ : Type} {W : κ → Sto} {p : TEnv} {l : Cs} {a b : TTE} {ma mb : PM κ T}
end
end TL
namespace TL
open PySem PySem.Spec PyProof.Rows L2 HotX
section
variable {K : PySem.W.Frag} {mg : Str → Option Value} {x : Str}
end
end TL
namespace TL
open PySem PySem.Spec PyProof.Rows L2
structure SaysY (fa : List He.Fa) (fn : List He.DefD) (ex : PySem.W.Frag → Bool) (w : World) (K : PySem.W.Frag) : Prop where
  t : He.SaysT fa fn [] w K
  more : ex K = true
end TL
namespace TL
open PySem PySem.Spec PyProof.Rows L2
def isbT (_ : Sto) (x y : T) : Option T := match x, y with
  | .bl a, .bl b => some (.bl (a == b))
  | _, _ => none
def isnbT (_ : Sto) (x y : T) : Option T := match x, y with
  | .bl a, .bl b => some (.bl (!(a == b)))
  | _, _ => none
section
variable {X : Cx}
end
theorem isbT_bl {a b : Bool} : isbT emp (.bl a) (.bl b) = some (.bl (a == b)) := rfl
theorem isnbT_bl {a b : Bool} : isnbT emp (.bl a) (.bl b) = some (.bl (!(a == b))) := rfl
end TL
namespace TL
open PySem PySem.Spec PyProof.Rows L2
section
variable {prog : Program} {w : World} {A : Around} {E : Value → Shared → Prop} {s : Shared}
end
section
variable {X : Cx} {e ks : Expr} {te tk : L2.TE} {p3 pos : Pos}
end
end TL
namespace TL
open PySem PySem.Spec PyProof.Rows L2
/-- a written dict of the module: from texts to ints -/
structure TabOk (K : PySem.W.Frag) (w : World) (mg : Str → Option Value) (x : Str) (l : List (Str × Int)) : Prop where
  gm : mg x = some (.ref (He.ga K x))
  kd : ∃ es n, KDict K w (He.ga K x) es n
  vs : ∀ p ∈ l, ∃ u, PySem.W.nsIn K (He.ga K x) p.1 = some (some u) ∧ RelV (.int p.2) u
end TL
namespace TL
open PySem PySem.Spec PyProof.Rows L2
end TL
namespace TL
open PySem PySem.Spec PyProof.Rows L2
section
variable {X : Cx}
end
end TL
namespace TL
open PySem PySem.Spec PyProof.Rows L2
mutual
theorem Dt.plain : ∀ {n : Nat} (t : T), Dt n t → TL.plain t = true
  | _, _, .str _ _ => rfl
  | _, _, .int _ _ => rfl
  | _, _, .bl _ _ => rfl
  | _, .tup xs, .tup h _ => Dt.plains xs h
  | _, .lst xs, .lst h _ => Dt.plains xs h
theorem Dt.plains : ∀ {n : Nat} (ts : List T), (∀ x ∈ ts, Dt n x) → TL.plains ts = true
  | _, [], _ => rfl
  | _, t :: ts, h => by
    show (TL.plain t && TL.plains ts) = true
    rw [Dt.plain t (h t (.head _)), Dt.plains ts fun x hx => h x (.tail _ hx)]
    rfl
end
mutual
theorem Dt.dep : ∀ {n : Nat} (t : T), Dt n t → TL.dep t ≤ n
  | _, _, .str _ _ => Nat.zero_le _
  | _, _, .int _ _ => Nat.zero_le _
  | _, _, .bl _ _ => Nat.zero_le _
  | _, .tup xs, .tup h _ => Nat.succ_le_succ (Dt.deps xs h)
  | _, .lst xs, .lst h _ => Nat.succ_le_succ (Dt.deps xs h)
theorem Dt.deps : ∀ {n : Nat} (ts : List T), (∀ x ∈ ts, Dt n x) → TL.deps ts ≤ n
  | _, [], _ => Nat.zero_le _
  | _, t :: ts, h => Nat.max_le.mpr ⟨Dt.dep t (h t (.head _)), Dt.deps ts fun x hx => h x (.tail _ hx)⟩
end
theorem Dt.okd {n : Nat} {t : T} (h : Dt n t) (hn : n ≤ 64) : TL.okd t = true := by
  unfold TL.okd
  rw [Dt.plain t h, decide_eq_true (Nat.le_trans (Dt.dep t h) hn)]
  rfl
theorem nl_res {t : T} (h : plain t = true) : res emp t = t := by
  cases t <;> first | rfl | cases h
theorem Dt.eqT {n m : Nat} {x y : T} (h : Dt n x) (hn : n ≤ 64) (k : Dt m y) (hm : m ≤ 64) : TL.eqT emp x y = some (.bl (eqt x y)) := by
  unfold TL.eqT
  rw [nl_res (Dt.plain x h), nl_res (Dt.plain y k), h.okd hn, k.okd hm]
  rfl
theorem Dt.neT {n m : Nat} {x y : T} (h : Dt n x) (hn : n ≤ 64) (k : Dt m y) (hm : m ≤ 64) : TL.neT emp x y = some (.bl (!eqt x y)) := by
  unfold TL.neT
  rw [nl_res (Dt.plain x h), nl_res (Dt.plain y k), h.okd hn, k.okd hm]
  rfl
end TL
namespace TL
open PySem PySem.Spec PyProof.Rows L2
section
variable {X : Cx}
end
/-- what a def promises where nothing guards -/
structure FnG (P : Program) (w : World) (K : PySem.W.Frag) (mg : Str → Option Value) (base : Heap) (k : Nat) (f : Addr) (fd : FuncData) (ps : List Str) (sp : Sp) : Prop where
  run : ∀ (A : Around) (outer : List Env) (s : Shared) (H : Hp) (args : Args) (us : List Value) (vs : List V) (Q : VK) (E : XK), A.guards = some [] → Room k A → Env0 P w K mg base A outer s H → BindsTo s fd args (ps.zip us) → Vals vs us → sp vs H Q E →
    codeAny (model P w) A (.call (.ref f) args) (CR (L2N.CX P w) outer P w H s Q E) s
section
variable {P : Program} {w : World} {K : PySem.W.Frag} {mg : Str → Option Value} {base : Heap} {x qual : Str} {params : Arguments} {body : List Stmt} {scope : Scope} {f : Addr} {fd : FuncData} {N ps : List Str} {k : Nat} {c : TTS} {sp : SpT}
end
end TL
namespace TL
open PySem PySem.Spec PyProof.Rows L2
end TL
namespace TL
open PySem PySem.Spec PyProof.Rows L2
local macro_rules | `(tactic| simp_arith [$ts,*] $[$loc]?) => `(tactic| simp (implicitDefEqProofs := false) only [pu_bd, bd_bd, bd_pu, ofO_some, ofO_none, ofO_ite, stuck_bd, thr_bd, lft_pu, lft_bd, lft_gdc, lft_ite, lft_stuck, tb_bl, intO_int, itemsM_tup, itemsM_lst, itemsM_str, gd_c, gdc_T, compG_map, compA_pu, compA_gd, compA_if, compA_gdif, forM_map, forR_map, un2_tup, un3_tup, un4_tup, sum_inl, sum_inr, isStr_str, isTup_tup, joinF_l, joinF_t, strsOf_nil, strsOf_cons, strsOf_map, Option.bind_some, Option.bind_none, addT_int, addT_str, addT_lst, addT_tup, subT_int, mulT2_int, mulT2_str, fdivT_int, modT_int, powT_int, negT_int, eqT_int, neT_int, eqT_str, neT_str, eqT_bl, neT_bl, ltT_int, gtT_int, leT_int, geT_int, ixT_lst, ixT_tup, atI_0, atI_1, atI_2, atI_3, lenF_lst, lenF_tup, lenF_str, absF_int, intF_int, intF_bl, max2F_int, min2F_int, strF_int, isi_str, isi_int, isi_tup, isi_lst, slT_lst, slT_tup, slT_str, tupleF_lst, tupleF_tup, listF_lst, listF_tup, inT_strs, ninT_strs, inT_strsT, ninT_strsT, ite_pu, decide_eq_true_eq, Bool.not_eq_true', if_true, if_false, Bool.false_eq_true, Bool.true_eq_false, Option.map_some, Option.map_none, isbT_bl, isnbT_bl, $ts,*] $[$loc]?)
local macro_rules | `(tactic| simp_arith! [$ts,*] $[$loc]?) => `(tactic| simp (implicitDefEqProofs := false) only [pu_bd, bd_bd, bd_pu, ofO_some, ofO_none, ofO_ite, stuck_bd, thr_bd, lft_pu, lft_bd, lft_gdc, lft_ite, lft_stuck, tb_bl, intO_int, itemsM_tup, itemsM_lst, itemsM_str, gd_c, gdc_T, compG_map, compA_pu, compA_gd, compA_if, compA_gdif, forM_map, forR_map, un2_tup, un3_tup, un4_tup, sum_inl, sum_inr, isStr_str, isTup_tup, joinF_l, joinF_t, strsOf_nil, strsOf_cons, strsOf_map, Option.bind_some, Option.bind_none, addT_int, addT_str, addT_lst, addT_tup, subT_int, mulT2_int, mulT2_str, fdivT_int, modT_int, powT_int, negT_int, eqT_int, neT_int, eqT_str, neT_str, eqT_bl, neT_bl, ltT_int, gtT_int, leT_int, geT_int, ixT_lst, ixT_tup, atI_0, atI_1, atI_2, atI_3, lenF_lst, lenF_tup, lenF_str, absF_int, intF_int, intF_bl, max2F_int, min2F_int, strF_int, isi_str, isi_int, isi_tup, isi_lst, slT_lst, slT_tup, slT_str, tupleF_lst, tupleF_tup, listF_lst, listF_tup, inT_strs, ninT_strs, inT_strsT, ninT_strsT, ite_pu, decide_eq_true_eq, Bool.not_eq_true', if_true, if_false, Bool.false_eq_true, Bool.true_eq_false, Option.map_some, Option.map_none, isbT_bl, isnbT_bl, kis_non_non, kis_non_bool, kis_non_int, kis_non_str, kis_non_tup, kis_non_lst, kis_non_dct, kis_bool_non, kis_bool_bool, kis_bool_int, kis_bool_str, kis_bool_tup, kis_bool_lst, kis_bool_dct, kis_int_non, kis_int_bool, kis_int_int, kis_int_str, kis_int_tup, kis_int_lst, kis_int_dct, kis_str_non, kis_str_bool, kis_str_int, kis_str_str, kis_str_tup, kis_str_lst, kis_str_dct, kis_tup_non, kis_tup_bool, kis_tup_int, kis_tup_str, kis_tup_tup, kis_tup_lst, kis_tup_dct, kis_lst_non, kis_lst_bool, kis_lst_int, kis_lst_str, kis_lst_tup, kis_lst_lst, kis_lst_dct, kis_dct_non, kis_dct_bool, kis_dct_int, kis_dct_str, kis_dct_tup, kis_dct_lst, kis_dct_dct, isi_bl, isi_non, List.any_cons, List.any_nil, Bool.or_false, Bool.or_true, Bool.false_or, Bool.true_or, Bool.not_true, Bool.not_false, beq_self_eq_true, bne_self_eq_false, $ts,*] $[$loc]?)
local macro_rules | `(tactic| simp_all_arith [$ts,*]) => `(tactic| simp (implicitDefEqProofs := false) only [pu_bd, bd_bd, bd_pu, ofO_some, ofO_none, ofO_ite, stuck_bd, thr_bd, lft_pu, lft_bd, lft_gdc, lft_ite, lft_stuck, tb_bl, intO_int, itemsM_tup, itemsM_lst, itemsM_str, gd_c, gdc_T, compG_map, compA_pu, compA_gd, compA_if, compA_gdif, forM_map, forR_map, un2_tup, un3_tup, un4_tup, sum_inl, sum_inr, isStr_str, isTup_tup, joinF_l, joinF_t, strsOf_nil, strsOf_cons, strsOf_map, Option.bind_some, Option.bind_none, addT_int, addT_str, addT_lst, addT_tup, subT_int, mulT2_int, mulT2_str, fdivT_int, modT_int, powT_int, negT_int, eqT_int, neT_int, eqT_str, neT_str, eqT_bl, neT_bl, ltT_int, gtT_int, leT_int, geT_int, ixT_lst, ixT_tup, atI_0, atI_1, atI_2, atI_3, lenF_lst, lenF_tup, lenF_str, absF_int, intF_int, intF_bl, max2F_int, min2F_int, strF_int, isi_str, isi_int, isi_tup, isi_lst, slT_lst, slT_tup, slT_str, tupleF_lst, tupleF_tup, listF_lst, listF_tup, inT_strs, ninT_strs, inT_strsT, ninT_strsT, ite_pu, decide_eq_true_eq, Bool.not_eq_true', if_true, if_false, Bool.false_eq_true, Bool.true_eq_false, Option.map_some, Option.map_none, isbT_bl, isnbT_bl, extM_l, appM_c, compA_ifo, fkT, kinT, famT, List.cons_append, List.nil_append, $ts,*])
/-- a family's names, in either order -/
structure LFam (f : List Nm) : Prop where
  lo : 1 ≤ f.length
  hi : f.length ≤ 2
  nd : f.Nodup
  ok : ∀ x ∈ f, NameOk x
theorem LFam.rise {f : List Nm} (h : LFam f) : Rise ((srt T.str f).map T.str) := se_str.rise (fun _ _ => trivial) h.nd
def addF (B : Bk) (p : Nm × Nm) : Bk := ⟨srt fkT (B.folk ++ [p]), B.unions, B.births, B.adopts⟩
def xcT (c : Str) : T := .exc c [] []
def putF (B : Bk) (p : Nm × Nm) : PM Unit T := if p.1 ∈ B.names then thr (xcT "Known") else if B.folk.length = 16 then thr (xcT "TooMuch") else pu (bkT (addF B p))
end TL
namespace TL
open PySem PySem.Spec PyProof.Rows L2
def splC (c : Sg) : List Sg → List (List Sg)
  | [] => [[]]
  | s :: x => if s = c then [] :: splC c x else match splC c x with
    | p :: ps => (s :: p) :: ps
    | [] => [[s]]
theorem splC_ne (c : Sg) : ∀ x : List Sg, splC c x ≠ []
  | [] => by unfold splC; simp
  | s :: x => by
    unfold splC
    split
    · simp
    · split <;> simp
theorem splC_no (c : Sg) : ∀ (x : List Sg), ∀ p ∈ splC c x, c ∉ p
  | [], p, h => by
    have : p = [] := by simpa [splC] using h
    rw [this]; exact List.not_mem_nil
  | s :: x, p, h => by
    unfold splC at h
    split at h
    · rcases List.mem_cons.mp h with z | z
      · rw [z]; exact List.not_mem_nil
      · exact splC_no c x p z
    · rename_i hs
      split at h
      · rename_i q qs e
        rcases List.mem_cons.mp h with z | z
        · rw [z]
          intro y
          rcases List.mem_cons.mp y with w | w
          · exact hs w.symm
          · exact splC_no c x q (by rw [e]; exact .head _) w
        · exact splC_no c x p (by rw [e]; exact .tail _ z)
      · rename_i e
        exact absurd e (splC_ne c x)
theorem jnL_cons {a p : List Sg} {q : List Sg} {qs : List (List Sg)} : jnL a (p :: q :: qs) = p ++ a ++ jnL a (q :: qs) := by
  show p ++ ((q :: qs).map (a ++ ·)).flatten = p ++ a ++ (q ++ (qs.map (a ++ ·)).flatten)
  rw [List.map_cons, List.flatten_cons]
  simp only [List.append_assoc]
theorem splC_jn (c : Sg) : ∀ x : List Sg, jnL [c] (splC c x) = x
  | [] => rfl
  | s :: x => by
    have ih := splC_jn c x
    unfold splC
    split
    · rename_i hs
      cases e : splC c x with
      | nil => exact absurd e (splC_ne c x)
      | cons q qs =>
        rw [e] at ih
        rw [jnL_cons, ih, hs]
        rfl
    · split
      · rename_i q qs e
        rw [e] at ih
        cases qs with
        | nil =>
          have : q = x := by rw [← ih]; show q = q ++ []; rw [List.append_nil]
          rw [this]
          show s :: x ++ [] = s :: x
          rw [List.append_nil]
        | cons r rs =>
          rw [jnL_cons] at ih ⊢
          rw [← ih]
          rfl
      · rename_i e
        exact absurd e (splC_ne c x)
theorem split_txt (c : Sg) (x : List Sg) : Txt.split (txt x) (txt [c]) = (splC c x).map txt := by
  have h := split_join (y := txt [c]) (s := c.val) (S := []) rfl (by
    have := c.isLt
    simp [txt]
    omega) (parts := (splC c x).map txt) (fun e => splC_ne c x (List.map_eq_nil_iff.mp e)) fun p hp z => by
      obtain ⟨y, hy, rfl⟩ := List.mem_map.mp hp
      have z : c.val ∈ y.map (·.val) := z
      obtain ⟨d, hd, e⟩ := List.mem_map.mp z
      exact splC_no c x y hy (by rw [← _root_.Fin.ext e]; exact hd)
  rw [txt_join, splC_jn] at h
  exact h
theorem reps_of_strs {G : Gd} {H : Hp} {S : Sto} : ∀ xs : List (List Sg), Reps G H S (xs.map T.str) ((xs.map txt).map V.str)
  | [] => .nil
  | x :: xs => .cons (.str x) (reps_of_strs xs)
def splitF (_ : Sto) (o : T) (ys : List T) : Option T := match o, ys with
  | .str x, [.str [c]] => if x.length ≤ 1000000 then some (.lst ((splC c x).map .str)) else none
  | _, _ => none
theorem mtx_splitF : MtX' splitF := fun _ _ _ _ h => h
theorem mt_splitT {X : Cx} : MetT X "str.split" splitF := by
  intro pins s σ H x xs v us Q I rx rs h
  obtain ⟨M, S, tx, ts, t, o, hx, hs, e, fin⟩ := h
  unfold splitF at e
  split at e
  · rename_i a c
    cases hx
    obtain ⟨w, rfl, ry⟩ := hs.one
    cases ry
    split at e
    · rename_i hl
      cases e
      have hs := sizeLine_eq
      refine mt_split pins s σ H _ _ v us Q I rx rs ⟨txt a, txt [c], rfl, rfl, by rw [txt_len]; rfl, by rw [txt_len]; omega, fun p np => ?_⟩
      rw [split_txt]
      exact fin _ _ (o.new np) (Ext.new np) (.lst ⟨upd_same, o.free np, o.nom np⟩ (Reps.ext (Ext.new np) _ _ (reps_of_strs _)))
    · cases e
  · cases e
end TL
namespace TL
open PySem PySem.Spec PyProof.Rows L2
end TL
namespace TL
open PySem PySem.Spec PyProof.Rows L2
section
variable {X : Cx} {pins : List (Addr × Obj)} {s : Shared} {σ : L2.St} {H : Hp} {S : Sto} {M : Addr → Prop} {Q : VK}
end
section
variable {X : Cx} {e : Expr} {p apos cpos pos : Pos}
end
end TL
namespace TL
open PySem PySem.Spec PyProof.Rows L2
section
variable {X : Cx} {k v : Expr} {pos : Pos} {a b : List Sg}
end
section
variable {κ : Type} {W : κ → Sto} {p : TEnv} {l : Cs} {a b : List Sg}
end
end TL
namespace TL
open PySem PySem.Spec PyProof.Rows L2
section
variable {X : Cx}
end
end TL
namespace TL
open PySem PySem.Spec PyProof.Rows
open L2 hiding putF
end TL
namespace TL
open PySem PySem.Spec PyProof.Rows L2
section
variable {X : Cx} {pins : List (Addr × Obj)} {s : Shared} {σ : L2.St} {H : Hp} {M : Addr → Prop} {S : Sto}
end
section
variable {X : Cx}
end
end TL
namespace TL
open PySem PySem.Spec PyProof.Rows L2
end TL
namespace TL
open PySem PySem.Spec PyProof.Rows L2
section
variable {X : Cx} {k1 v1 k2 v2 k3 v3 : Expr} {pos : Pos} {a1 b1 a2 b2 a3 b3 : List Sg}
end
section
variable {κ : Type} {W : κ → Sto} {p : TEnv} {l : Cs} {a1 b1 a2 b2 a3 b3 : List Sg}
end
end TL
namespace TL
open PySem PySem.Spec PyProof.Rows L2
section
variable {κ : Type} {W : κ → Sto} {p : TEnv} {l : Cs} {a : TTE} {lo hi : TTO} {ma : PM κ T} {ml mh : PM κ (Option Int)}
end
end TL
namespace TL
open PySem PySem.Spec PyProof.Rows L2
section
variable {κ : Type} {W : κ → Sto} {p : TEnv} {β : Type}
end
end TL
namespace TL
open PySem PySem.Spec PyProof.Rows L2
section
variable {X : Cx} {o e : Expr} {to te : TTE} {apos cpos : Pos}
end
section
variable {κ : Type} {W : κ → Sto} {p : TEnv} {l : Cs} {β : Type} {u : TTS} {post : β → Dest}
end
end TL
namespace TL
open PySem PySem.Spec PyProof.Rows L2
section
variable {P : Program} {K : PySem.W.Frag} {w : World} {M M2 : Addr → Prop} {H H2 : Hp} {S S2 : Sto}
/-- what is not looked at while a list is to be new -/
def old (M : Addr → Prop) (H : Hp) (S : Sto) : Addr → Prop := fun a => M a ∨ S a ≠ none ∨ ∃ xs, H a = some (.lst xs)
end
section
variable {X : Cx} {k j : Nat} {ps : List Str} {sp : SpT} {x : Str} {p pos : Pos} {e : Expr} {es : List Expr} {ta : TTA}
end
end TL
namespace TL
open PySem PySem.Spec PyProof.Rows L2
/-- the lists of a store -/
def lsS (S : Sto) : Sto := fun a => match S a with
  | some (.lst ts) => some (.lst ts)
  | _ => none
theorem lsS_at {S : Sto} {a : Addr} {c : Cell} : lsS S a = some c ↔ S a = some c ∧ ∃ ts, c = .lst ts := by
  unfold lsS
  constructor
  · intro h
    split at h
    · rename_i ts e
      cases h
      exact ⟨e, ts, rfl⟩
    · cases h
  · rintro ⟨h, ts, rfl⟩
    rw [h]
def allL (l : Cs) : Bool := l.all fun e => match e.2 with
  | .lst _ => true
  | _ => false
theorem allL_at {l : Cs} (h : allL l = true) {e : Addr × Cell} (m : e ∈ l) : ∃ ts, e.2 = .lst ts := by
  have := List.all_eq_true.mp h e m
  cases q : e.2 with
  | lst ts => exact ⟨ts, rfl⟩
  | dct b ks vs => rw [q] at this; cases this
  | ins c ns ts => rw [q] at this; cases this
section
variable {p : TEnv} {l : Cs} {β : Type} {pa : Addr} {k : Cell} {S : Sto}
theorem SI.ls (hl : allL l = true) (hk : ∃ ts, k = Cell.lst ts) (i : SI (penW emp pa) l k S) : SI (penW emp pa) l k (lsS S) :=
  ⟨fun e m => lsS_at.mpr ⟨i.at_ e m, allL_at hl m⟩, i.own, i.nd, fun a c h => by
    refine lsS_at.mpr ⟨i.base a c h, ?_⟩
    by_cases e : a = pa
    · subst e
      have h : ups emp a k a = some c := h
      rw [ups_same] at h
      cases h
      exact hk
    · have h : ups emp pa k a = some c := h
      rw [ups_ne e] at h
      cases h⟩
variable {u : TTS} {post : β → Dest}
end
end TL
namespace TL
open PySem PySem.Spec PyProof.Rows L2
section
variable {X : Cx} {elt tg : Expr} {ifs : List Expr} {scope : Scope} {g : TTG} {tc : TTB} {te : TTE} {pos p spos py : Pos} {x y : Str} {i j : Nat} {ow : List (Str × Nat)}
end
end TL
namespace TL
open PySem PySem.Spec PyProof.Rows L2
section
variable {S0 : Sto} {pa : Addr} {p : TEnv} {l : Cs} {β : Type} {u : TTS} {post : β → Dest}
end
section
variable {κ : Type} {W : κ → Sto} {p : TEnv} {l1 l2 : Cs}
end
end TL
namespace TL
open PySem PySem.Spec PyProof.Rows L2
section
variable {prog : Program} {w : World} {A : Around} {E : Value → Shared → Prop} {s : Shared} {z TI TO i1 i2 T : Addr} {f : Bool} {oT : Obj} {fp1 fp2 : List Addr} {n1 n2 i : Nat} {P1 P2 : Nat → Value → Prop} {St1 St2 : Nat → Heap → Prop}
end
theorem SeB.at {b : Bool} {h h' : Heap} {l : Addr} {xs : Array Value} (x : SeB b h l xs) (k : ∀ o, h.get? l = some o → h'.get? l = some o) : SeB b h' l xs := by
  cases b
  · exact Heap.IsTuple.at x k
  · exact Heap.IsList.at x k
theorem SeB.there {b : Bool} {h : Heap} {l : Addr} {xs : Array Value} (x : SeB b h l xs) : ∃ o, h.get? l = some o := by
  cases b
  · obtain ⟨o, ho, _⟩ := x
    exact ⟨o, ho⟩
  · obtain ⟨o, ho, _⟩ := x
    exact ⟨o, ho⟩
section
variable {prog : Program} {w : World}
end
section
variable {X : Cx} {e e2 : Expr} {p p2 pos pos2 : Pos}
end
end TL
namespace TL
open PySem PySem.Spec PyProof.Rows L2
section
variable {prog : Program} {w : World} {A : Around} {E : Value → Shared → Prop} {s : Shared}
end
section
variable {X : Cx} {e : Expr} {p apos cpos pos : Pos}
end
end TL
namespace TL
open PySem PySem.Spec PyProof.Rows L2
section
variable {κ : Type} {W : κ → Sto} {p : TEnv} {l : Cs} {β : Type} {u : TTS} {post : β → Dest}
end
end TL
namespace TL
open PySem PySem.Spec PyProof.Rows L2 HotX
section
variable {κ : Type} {W : κ → Sto} {p : TEnv} {l : Cs} {β : Type} {u : TTS} {post : β → Dest}
end
section
variable {X : Cx} {body : List Stmt} {h₀ : ExceptHandler} {hds : List ExceptHandler} {pos : Pos}
end
section
variable {κ : Type} {W : κ → Sto} {p : TEnv} {l : Cs} {β : Type} {u : TTS} {post : β → Dest}
end
end TL
namespace TL
open PySem PySem.Spec PyProof.Rows L2
section
variable {X : Cx} {pins : List (Addr × Obj)} {s : Shared} {σ : L2.St} {H : Hp} {S : Sto} {M : Addr → Prop}
end
abbrev Es := List (NestedKey × Addr × V)
def dnk : List T → Bool
  | [] => false
  | _ :: _ => true
section
variable {G : Gd} {H : Hp} {S : Sto}
end
section
variable {X : Cx} {pins : List (Addr × Obj)} {s : Shared} {σ : L2.St} {H : Hp} {S : Sto} {M : Addr → Prop}
variable {a b o i e : Expr} {ta tb to ti te : TTE} {pos pos' apos cpos p : Pos}
end
section
variable {X : Cx} {pins : List (Addr × Obj)} {s : Shared} {σ : L2.St} {H : Hp} {S : Sto} {M : Addr → Prop}
end
end TL
namespace TL
open PySem PySem.Spec PyProof.Rows
open L2 hiding putF
section
variable {G : Gd} {H : Hp} {S : Sto}
end
section
variable {X : Cx} {e o : Expr} {te to : TTE} {f : Str} {ok : Str → Bool} {p pos pos' apos : Pos} {es : List Expr} {ta : TTA} {j k : Nat} {c m x : Str} {ps : List Str} {sp : SpT}
end
end TL
namespace L2
open PySem PySem.Spec PyProof.Rows
section
variable {X : Cx} {CX : CXT} {k : Nat} {f C : Addr} {fd : FuncData} {ps : List Str} {sp : Sp} {x m : Str} {p apos pos : Pos} {o e : Expr} {es : List Expr} {ta : TE} {t : TA}
end
end L2
namespace TL
open PySem PySem.Spec PyProof.Rows
open L2 hiding putF
section
variable {X : Cx} {e o : Expr} {te to : TTE} {f : Str} {ok : Str → Bool} {p pos pos' apos : Pos} {es : List Expr} {ta : TTA} {j k : Nat} {c m x : Str} {ps : List Str} {sp : SpT} {M : Addr → Prop} {S0 : Sto} {H0 : Hp} {E : T → TEnv → Sto → Prop}
end
end TL
namespace TL
open PySem PySem.Spec PyProof.Rows
open L2 hiding putF
/-- a dict's cell, its kind told by its keys -/
abbrev cN (r : List T × List T) : Cell := .dct (dnk r.1) r.1 r.2
section
variable {κ : Type} {W : κ → Sto} {p : TEnv} {l : Cs} {β : Type} {u : TTS} {post : β → Dest} {e ei : TTE} {m mi : PM κ T} {i : Nat} {fs : List Str} {c f : Str} {ok : Str → Bool}
structure Lns (W : κ → Sto) (a : Addr) (get : κ → List T × List T) (set : κ → List T × List T → κ) : Prop where
  at_ : ∀ k, W k a = some (cN (get k))
  put : ∀ {l k r S}, SI W l k S → SI W l (set k r) (ups S a (cN r))
variable {a : Addr} {get : κ → List T × List T} {set : κ → List T × List T → κ} {x : T}
end
abbrev DD := List T × List T
section
variable {S S' : Sto} {m g : Addr} {l : Cs} {k : DD × DD} {r : DD}
end
end TL
namespace TL
open PySem PySem.Spec PyProof.Rows
open L2 hiding putF
section
variable {κ : Type} {W : κ → Sto} {p : TEnv} {l : Cs} {β : Type} {u : TTS} {post : β → Dest}
end
section
variable {S0 : Sto} {m g : Addr} {p : TEnv} {l : Cs} {D F : T}
end
section
variable {κ : Type} {W : κ → Sto} {p : TEnv} {l : Cs} {u : TTS}
theorem SI.more {S S2 : Sto} {k : κ} (i : SI W l k S) (h : ∀ a c, S a = some c → S2 a = some c) : SI W l k S2 := ⟨fun e he => h _ _ (i.at_ e he), i.own, i.nd, fun a c e => h _ _ (i.base a c e)⟩
end
section
variable {D F : T} {m g : Addr}
end
end TL
namespace TL
open PySem PySem.Spec PyProof.Rows L2
theorem laid_partsF {X : Cx} {pins : List (Addr × Obj)} {σ : L2.St} {H : Hp} {s : Shared} {Q : VK} {x y z : Str} {t u v : Tok} {k : Nat} (I : Inv X pins σ H s) (h : ∀ p o, H p = none → o.dict = none → Q (.ref p) (upd H p (fT o [.str x, .str y, .str z]))) :
    EP X pins σ Q (.ref s.heap.objs.size) { s with toks := k, heap := s.heap.push { cls := .type "tuple", data := .seq [Value.str x t, .str y u, .str z v].toArray } } :=
  new_tup (xs := [.str x, .str y, .str z]) (I.tok k) (.cons ⟨t, rfl⟩ (.cons ⟨u, rfl⟩ (.cons ⟨v, rfl⟩ .nil))) (by show 3 ≤ sizeLine; rw [sizeLine_eq]; decide) fun o d => h _ o (I.hok.fresh (Nat.le_refl _)) d
theorem mt_partF {X : Cx} : MtR X "str.partition" (fun x xs H Q => ∃ a b, x = .str a ∧ xs = [.str b] ∧ (b.length == 0) = false ∧ a.length ≤ sizeLine ∧
    ∀ p o, H p = none → o.dict = none → Q (.ref p) (upd H p (fT o [.str (Txt.partition a b).1, .str (Txt.partition a b).2.1, .str (Txt.partition a b).2.2]))) := by
  intro pins s σ H x xs v us Q I rx rs h
  obtain ⟨a, b, rfl, rfl, hb, hz, h⟩ := h
  obtain ⟨t, rfl⟩ := rx
  cases rs with
  | cons r1 rs =>
    cases rs
    obtain ⟨u, rfl⟩ := r1
    refine call_meets PySem.F.slot_str_partition (typeIs_str _ _ _) PySem.F.entry_str_partition (PySem.F.args_str_partition_2 _ _) (meets_str_partition a b t u hb hz) ?_
    unfold Txt.partition at h
    revert h
    cases Builtin.Str.occurrences a b 0 a.length 1 with
    | nil => intro h; exact laid_partsF I h
    | cons i r => intro h; exact laid_partsF I h
/-- a text up to y, and behind it -/
def parG (y : List Sg) : List Sg → List Sg → Option (List Sg × List Sg)
  | _, [] => none
  | acc, c :: r => if (c :: r).take y.length = y then some (acc, (c :: r).drop y.length) else parG y (acc ++ [c]) r
theorem par_map {y : List Sg} : ∀ (x acc : List Sg), par (y.map (·.val)) (acc.map (·.val)) (x.map (·.val)) = (parG y acc x).map fun p => (p.1.map (·.val), p.2.map (·.val))
  | [], _ => rfl
  | c :: r, acc => by
    have ih := par_map (y := y) r (acc ++ [c])
    rw [List.map_append, List.map_cons, List.map_nil] at ih
    rw [List.map_cons]
    unfold par parG pre
    have e : ∀ n, ((c.val :: r.map (·.val)).take n) = ((c :: r).take n).map (·.val) := fun n => by rw [List.map_take]; rfl
    have e2 : ∀ n, ((c.val :: r.map (·.val)).drop n) = ((c :: r).drop n).map (·.val) := fun n => by rw [List.map_drop]; rfl
    rw [ih, List.length_map, e, e2]
    by_cases h : (c :: r).take y.length = y
    · rw [if_pos h, h, if_pos (by simp)]
      rfl
    · rw [if_neg h, if_neg]
      simp only [beq_iff_eq]
      exact fun z => h (map_val_inj z)
def partF (_ : Sto) (o : T) (ys : List T) : Option T := match o, ys with
  | .str x, [.str (c :: y)] => if x.length ≤ 1000000 then some (match parG (c :: y) [] x with
    | some (a, b) => .tup [.str a, .str (c :: y), .str b]
    | none => .tup [.str x, .str [], .str []]) else none
  | _, _ => none
theorem mtx_partF : MtX' partF := fun _ _ _ _ h => h
theorem part_txt (c : Sg) (y x : List Sg) : Txt.partition (txt x) (txt (c :: y)) = match parG (c :: y) [] x with
    | some (a, b) => (txt a, txt (c :: y), txt b)
    | none => (txt x, txt [], txt []) := by
  have e : ∀ z : List Sg, tl (txt z) = z.map (·.val) := fun z => by
    unfold tl txt
    simp
  rw [partition_par _ _ (by rw [e]; simp), e, e]
  have := par_map (y := c :: y) x []
  rw [List.map_nil] at this
  rw [this]
  cases parG (c :: y) [] x with
  | none => rfl
  | some p => rfl
theorem mt_partT {X : Cx} : MetT X "str.partition" partF := by
  intro pins s σ H x xs v us Q I rx rs h
  obtain ⟨M, S, tx, ts, t, o, hx, hs, e, fin⟩ := h
  unfold partF at e
  split at e
  · rename_i a c y
    cases hx
    obtain ⟨w, rfl, ry⟩ := hs.one
    cases ry
    split at e
    · rename_i hl
      cases e
      have hz := sizeLine_eq
      refine mt_partF pins s σ H _ _ v us Q I rx rs ⟨txt a, txt (c :: y), rfl, rfl, by rw [txt_len]; rfl, by rw [txt_len]; omega, fun p ob np od => ?_⟩
      rw [part_txt]
      revert fin
      cases parG (c :: y) [] a with
      | none => intro fin; exact fin _ _ (o.new np) (Ext.new np) (.tup (.inl ⟨ob, ⟨upd_same, od⟩, o.free np, o.nom np⟩) (.cons (.str _) (.cons (.str _) (.cons (.str _) .nil))))
      | some q => intro fin; exact fin _ _ (o.new np) (Ext.new np) (.tup (.inl ⟨ob, ⟨upd_same, od⟩, o.free np, o.nom np⟩) (.cons (.str _) (.cons (.str _) (.cons (.str _) .nil))))
    · cases e
  · cases e
def stwF (_ : Sto) (o : T) (ys : List T) : Option T := match o, ys with
  | .str x, [.str y] => some (.bl (decide (x.take y.length = y)))
  | _, _ => none
theorem mtx_stwF : MtX' stwF := fun _ _ _ _ h => h
theorem stw_txt (x y : List Sg) : Txt.startswith (txt x) (txt y) = decide (x.take y.length = y) := by
  unfold Txt.startswith
  have tlx : ∀ z : List Sg, tl (txt z) = z.map (·.val) := fun z => by
    unfold tl txt
    simp
  by_cases hy : y = []
  · subst hy
    have : Builtin.Str.subAt (txt x) (txt []) 0 = true := by
      unfold Builtin.Str.subAt
      simp [txt]
      exact .inl rfl
    rw [this, txt_len, txt_len]
    simp
  · have hk := at_iff (x := txt x) (y := txt y) (by rw [tlx]; simpa using hy) 0
    rw [tlx, tlx, List.drop_zero] at hk
    rw [Bool.eq_iff_iff, Bool.and_eq_true, decide_eq_true_eq, decide_eq_true_eq]
    refine Iff.trans (show _ ↔ PySem.StrLaws.At (txt x) (txt y) (txt x).length 0 from Iff.rfl) (hk.trans ?_)
    unfold pre
    rw [List.length_map, ← List.map_take, beq_iff_eq]
    exact ⟨map_val_inj, fun z => by rw [z]⟩
theorem mt_stwT {X : Cx} : MetT X "str.startswith" stwF := by
  intro pins s σ H x xs v us Q I rx rs h
  obtain ⟨M, S, tx, ts, t, o, hx, hs, e, fin⟩ := h
  unfold stwF at e
  split at e
  · rename_i a y
    cases hx
    obtain ⟨w, rfl, ry⟩ := hs.one
    cases ry
    cases e
    refine mt_startswith pins s σ H _ _ v us Q I rx rs ⟨txt a, txt y, rfl, rfl, ?_⟩
    rw [stw_txt]
    exact fin _ _ o Ext.refl (.bl _)
  · cases e
end TL
namespace TL
open PySem PySem.Spec PyProof.Rows L2
section
variable {κ : Type} {W : κ → Sto} {p : TEnv} {l : Cs}
end
end TL
namespace TL
open PySem PySem.Spec PyProof.Rows L2
/-- the values of a display, from the left -/
def cPrs : List (List Sg × TTE) → TEnv → Sto → (List T → Sto → Prop) → (T → Sto → Prop) → Prop
  | [], _, S, Q, _ => Q [] S
  | p :: r, τ, S, Q, E => p.2 τ S (fun y S1 => cPrs r τ S1 (fun ys S2 => Q (y :: ys) S2) E) E
def cDispM (prs : List (List Sg × TTE)) : TTE := fun τ S Q E => ∀ p, S p = none → cPrs prs τ (ups S p (.dct false [] [])) (fun ys S2 => S2 p = some (.dct false [] []) ∧ Q (.ref p) (ups S2 p (.dct false (prs.map fun q => .str q.1) ys))) E
theorem putK_new {acc : List (Key × V)} {k : Key} {v : V} (h : k ∉ acc.map (·.1)) : putK acc k v = acc ++ [(k, v)] := by
  unfold putK
  rw [if_neg]
  intro z
  obtain ⟨x, hx, e⟩ := List.any_eq_true.mp z
  exact h (List.mem_map.mpr ⟨x, hx, of_decide_eq_true e⟩)
theorem mergeK_new : ∀ {more acc : List (Key × V)}, ((acc ++ more).map (·.1)).Nodup → mergeK acc more = acc ++ more
  | [], acc, _ => (List.append_nil _).symm
  | p :: more, acc, h => by
    show mergeK (putK acc p.1 p.2) more = _
    have hp : p.1 ∉ acc.map (·.1) := fun z => by
      rw [List.map_append, List.map_cons] at h
      exact (List.nodup_append.mp h).2.2 p.1 z p.1 (.head _) rfl
    rw [putK_new hp, mergeK_new (by rw [List.append_assoc]; exact h), List.append_assoc]
    rfl
theorem tps_run {X : Cx} {M : Addr → Prop} {S0 : Sto} {H0 : Hp} {E : T → TEnv → Sto → Prop} : ∀ (prs : List (List Sg × TTE)) (σ : L2.St) (H : Hp) (Q : List (V × V) → Hp → Prop), (∃ τ S Qt, Rel (gdOf X M) S0 H0 σ H τ S ∧ cPrs prs τ S Qt (fun x S' => E x τ S') ∧
      ∀ ys S1 vs H1, Qt ys S1 → StoOk (gdOf X M) H1 S1 → Ext S H S1 H1 → Reps (gdOf X M) H1 S1 ys vs → ys.length = prs.length → Q ((prs.map fun p => V.str (txt p.1)).zip vs) H1) →
    tPairs (prs.map fun p => (LE X M S0 H0 (cC (.str p.1)) E, LE X M S0 H0 p.2 E)) σ H Q
  | [], σ, H, Q, ⟨τ, S, Qt, rel, h, k⟩ => k [] S [] H h rel.sto Ext.refl .nil rfl
  | p :: prs, σ, H, Q, ⟨τ, S, Qt, rel, h, k⟩ => by
    refine ⟨τ, S, (fun x S1 => x = T.str p.1 ∧ S1 = S), rel, ⟨rfl, rfl⟩, fun x S1 v H1 ⟨ex, eS⟩ o1 x1 r1 => ?_⟩
    subst ex eS
    cases r1
    refine ⟨τ, S1, _, rel.step o1 x1, h, fun y S2 vy H2 q o2 x2 r2 => ?_⟩
    refine tps_run prs σ H2 _ ⟨τ, S2, _, (rel.step o1 x1).step o2 x2, q, fun ys S3 vs H3 q3 o3 x3 r3 l3 => ?_⟩
    exact k (y :: ys) S3 (vy :: vs) H3 q3 o3 ((x1.trans x2).trans x3) (.cons (Rep.ext x3 _ _ r2) r3) (by rw [List.length_cons, List.length_cons, l3])
theorem reps_len {G : Gd} {H : Hp} {S : Sto} : ∀ {ts : List T} {vs : List V}, Reps G H S ts vs → ts.length = vs.length
  | _, _, .nil => rfl
  | _, _, .cons _ r => by rw [List.length_cons, List.length_cons, reps_len r]
/-- keys and values of a display -/
inductive TPs (X : Cx) : List (Option Expr) → List Expr → List (List Sg × TTE) → Prop
  | nil : TPs X [] [] []
  | cons {k v : Expr} {ks : List (Option Expr)} {vs : List Expr} {a : List Sg} {t : TTE} {prs : List (List Sg × TTE)} : TE X k (cC (.str a)) → TE X v t → TPs X ks vs prs → TPs X (some k :: ks) (v :: vs) ((a, t) :: prs)
theorem TPs.pps {X : Cx} {pos : Pos} {M : Addr → Prop} {S0 : Sto} {H0 : Hp} {E : T → TEnv → Sto → Prop} (tk : Takes X (wOf X M S0 H0 E)) : ∀ {ks : List (Option Expr)} {vs : List Expr} {prs : List (List Sg × TTE)}, TPs X ks vs prs →
    PPs X pos ks vs (prs.map fun p => (LE X M S0 H0 (cC (.str p.1)) E, LE X M S0 H0 p.2 E)) ∧ ks.all (·.isSome) = true ∧ ks.length = vs.length ∧ ks.length = prs.length
  | _, _, _, .nil => ⟨pps_nil, rfl, rfl, rfl⟩
  | _, _, _, .cons hk hv r => by
    obtain ⟨h1, h2, h3, h4⟩ := TPs.pps tk r
    refine ⟨pps_cons (hk M S0 H0 E tk) (hv M S0 H0 E tk) h1, ?_, by rw [List.length_cons, List.length_cons, h3], by rw [List.length_cons, List.length_cons, h4]⟩
    rw [List.all_cons, h2]
    rfl
theorem zip_mapsQ {α β γ : Type} {f : α → β} : ∀ (xs : List α) (vs : List γ), xs.length = vs.length → (xs.zip vs).map (fun p => (f p.1, p.2)) = (xs.map f).zip vs
  | [], _, _ => rfl
  | x :: xs, [], h => by cases h
  | x :: xs, v :: vs, h => by
    rw [List.zip_cons_cons, List.map_cons, zip_mapsQ xs vs (by simpa using h)]
    rfl
theorem reps_strsQ {G : Gd} {H : Hp} {S : Sto} : ∀ as : List (List Sg), Reps G H S (as.map T.str) (as.map fun a => V.str (txt a))
  | [] => .nil
  | a :: as => .cons (.str a) (reps_strsQ as)
theorem zip_fst {α β : Type} : ∀ (xs : List α) (vs : List β), xs.length = vs.length → (xs.zip vs).map (·.1) = xs
  | [], _, _ => rfl
  | x :: xs, [], h => by cases h
  | x :: xs, v :: vs, h => by rw [List.zip_cons_cons, List.map_cons, zip_fst xs vs (by simpa using h)]
theorem zip_snd {α β : Type} : ∀ (xs : List α) (vs : List β), xs.length = vs.length → (xs.zip vs).map (·.2) = vs
  | [], [], _ => rfl
  | [], v :: vs, h => by cases h
  | x :: xs, [], h => by cases h
  | x :: xs, v :: vs, h => by rw [List.zip_cons_cons, List.map_cons, zip_snd xs vs (by simpa using h)]
theorem te_dispM {X : Cx} {pos : Pos} {ks : List (Option Expr)} {vs : List Expr} {prs : List (List Sg × TTE)} (h : TPs X ks vs prs) (nd : (prs.map (·.1)).Nodup) (h0 : ks ≠ []) (h15 : ks.length ≤ 15) : TE X (.Dict ks vs pos) (cDispM prs) := fun M S0 H0 E tk' => by
  obtain ⟨pp, ha, hl, hp⟩ := h.pps (pos := pos) tk'
  refine (pe_disp pp ha hl h0 h15).weak fun σ H Q ⟨τ, S, Qt, rel, h, kk⟩ p n => ?_
  have o1 : StoOk (gdOf X M) (upd H p (.dK [])) (ups S p (.dct false [] [])) := rel.sto.cell (.inl n) ⟨[], upd_same, .nil, .nil⟩
  have x1 : Ext S H (ups S p (.dct false [] [])) (upd H p (.dK [])) := Ext.cell (.inl n)
  refine tps_run prs σ _ _ ⟨τ, _, _, rel.step o1 x1, h p (rel.sto.free n), fun ys S1 ws H1 ⟨es, q⟩ o2 x2 r2 l2 => ?_⟩
  have lw := (reps_len r2).symm.trans l2
  obtain ⟨kvs, g1, g2, g3⟩ := o2.at_ p _ es
  cases kvs with
  | cons a b => cases g2
  | nil =>
    let kv : List (Key × V) := (prs.map fun q => (Sum.inr (txt q.1) : Key)).zip ws
    have lk : (prs.map fun q => (Sum.inr (txt q.1) : Key)).length = ws.length := by rw [List.length_map]; exact lw.symm
    have e1 : kv.map (·.1) = prs.map fun q => (Sum.inr (txt q.1) : Key) := zip_fst _ _ lk
    have e2 : kv.map (·.2) = ws := zip_snd _ _ lk
    have e3 : kv.map (fun p => kV p.1) = prs.map fun q => V.str (txt q.1) := by
      have := congrArg (List.map kV) e1
      rw [List.map_map, List.map_map] at this
      exact this
    have ndk : (([] ++ kv : List (Key × V)).map (·.1)).Nodup := by
      rw [List.nil_append, e1]
      have : (prs.map fun q => (Sum.inr (txt q.1) : Key)) = (prs.map (·.1)).map fun a => (Sum.inr (txt a) : Key) := by rw [List.map_map]; rfl
      rw [this]
      exact List.pairwise_map.mpr (nd.imp fun hne e => hne (txt_inj (Sum.inr.inj e)))
    refine ⟨g1, kv, ?_, ?_, ?_⟩
    · have := zip_mapsQ (f := kV) (prs.map fun q => (Sum.inr (txt q.1) : Key)) ws lk
      rw [List.map_map] at this
      exact this.symm
    · have : kv.length = prs.length := by rw [← List.length_map (f := (·.1)), e1, List.length_map]
      omega
    · rw [mergeK_new ndk, List.nil_append]
      have x4 : Ext S1 H1 (ups S1 p (.dct false (prs.map fun q => .str q.1) ys)) (upd H1 p (.dK kv)) := Ext.cell (.inr ⟨_, es⟩)
      refine kk (.ref p) _ (.ref p) _ q (o2.cell (.inr ⟨_, es⟩) ⟨kv, upd_same, ?_, ?_⟩) ((x1.trans x2).trans x4) (.ref p)
      · rw [e3]
        have := reps_strsQ (G := gdOf X M) (H := upd H1 p (.dK kv)) (S := ups S1 p (.dct false (prs.map fun q => .str q.1) ys)) (prs.map (·.1))
        rw [List.map_map, List.map_map] at this
        exact this
      · rw [e2]
        exact Reps.ext x4 _ _ r2
section
variable {κ : Type} {W : κ → Sto} {p : TEnv} {l : Cs}
end
end TL
namespace TL
open PySem PySem.Spec PyProof.Rows L2
section
variable {X : Cx} {o e : Expr} {to : TTE} {apos cpos : Pos} {b : Bool}
end
section
variable {X : Cx} {tg a b d : Expr} {ta tb td : TTE} {p pos : Pos}
end
section
variable {κ : Type} {W : κ → Sto} {p : TEnv} {l : Cs} {a b d : TTE} {ma mb md : PM κ T}
end
end TL
namespace TL
open PySem PySem.Spec PyProof.Rows
open L2 hiding putF
def rpS (y z : List Sg) : Nat → List Sg → List Sg
  | _, [] => []
  | 0, c :: r => if (c :: r).take y.length = y then z ++ rpS y z (y.length - 1) r else c :: rpS y z 0 r
  | s + 1, _ :: r => rpS y z s r
theorem rpS_map (y z : List Sg) : ∀ (n : Nat) (x : List Sg), StrLaws.replS (y.map (·.val)) (z.map (·.val)) n (x.map (·.val)) = (rpS y z n x).map (·.val)
  | 0, [] => by rw [List.map_nil]; unfold StrLaws.replS rpS; rfl
  | _ + 1, [] => by rw [List.map_nil]; unfold StrLaws.replS rpS; rfl
  | 0, c :: r => by
    have e : ∀ n, (c.val :: r.map (·.val)).take n = ((c :: r).take n).map (·.val) := fun n => by rw [List.map_take]; rfl
    rw [List.map_cons]
    unfold StrLaws.replS rpS
    rw [List.length_map, e, rpS_map y z _ r, rpS_map y z 0 r]
    by_cases h : (c :: r).take y.length = y
    · rw [if_pos h, if_pos (by rw [h]), List.map_append]
    · rw [if_neg h, if_neg (fun q => h (map_val_inj q)), List.map_cons]
  | s + 1, c :: r => by
    rw [List.map_cons]
    unfold StrLaws.replS rpS
    exact rpS_map y z s r
theorem txt_of {x : Str} {y : List Sg} (h : x.cps.toList = y.map (·.val)) : x = txt y := by
  unfold txt
  cases x with
  | mk a =>
    have : a = (y.map (·.val)).toArray := by
      rw [← h]
    rw [this]
theorem repl_txt {y z x : List Sg} (hy : 1 ≤ y.length) : Txt.replace (txt x) (txt y) (txt z) = txt (rpS y z 0 x) := by
  refine txt_of ?_
  rw [StrLaws.replace_list (by rw [txt_len]; exact hy), txt_list, txt_list, txt_list]
  exact rpS_map y z 0 x
/-- a text with each y in it exchanged for z -/
def rplT (y z : List Sg) (_ : Sto) : T → Option T
  | .str x => if x.length ≤ 1000000 then some (.str (rpS y z 0 x)) else none
  | _ => none
theorem unv_rplT {y z : List Sg} : UnV (rplT y z) := fun S a v r h e => by
  rcases h with rfl | ⟨_, _, _, _, rfl⟩ | ⟨_, _, _, _, _, _, rfl⟩
  · exact e
  · cases e
  · cases e
def TET (X : Cx) (e : Expr) (t : TTE) : Prop := ∀ M S0 H0 E, Takes X (wOf X M S0 H0 E) → PET X e (LE X M S0 H0 t E)
def TST (X : Cx) (s : Stmt) (t : TTS) : Prop := ∀ M S0 H0 E, Takes X (wOf X M S0 H0 E) → PST X s (LS X M S0 H0 t E)
def TSsT (X : Cx) (s : List Stmt) (t : TTS) : Prop := ∀ M S0 H0 E, Takes X (wOf X M S0 H0 E) → PSsT X s (LS X M S0 H0 t E)
section
variable {X : Cx} {e a b o : Expr} {es : List Expr} {ta tb te to : TTE} {tA tB : TTB} {tr : TTA} {st : Stmt} {rest body : List Stmt} {t u : TTS} {pos apos c0 c1 p : Pos} {j k : Nat}
theorem TET.of (h : TE X e te) : TET X e te := fun M S0 H0 E tk => CwR.PET.of (h M S0 H0 E tk)
theorem TSsT.of (h : TSs X rest t) : TSsT X rest t := fun M S0 H0 E tk => PSsT.of (h M S0 H0 E tk)
theorem TST.of (h : TS X st t) : TST X st t := fun M S0 H0 E tk => PST.of (h M S0 H0 E tk)
end
structure FnT (P : Program) (w : World) (K : PySem.W.Frag) (mg : Str → Option Value) (base : Heap) (CX : CXT) (k : Nat) (f : Addr) (fd : FuncData) (ps : List Str) (sp : Sp) : Prop where
  len : ∀ vs H Q E, sp vs H Q E → vs.length = ps.length
  run : ∀ (A : Around) (outer : List Env) (s : Shared) (H : Hp) (args : Args) (us : List Value) (vs : List V) (Q : VK) (E : XK), 1 ≤ s.toks → Room k A → Env0 P w K mg base A outer s H → BindsTo s fd args (ps.zip us) → Vals vs us → sp vs H Q E →
    codeAny (model P w) A (.call (.ref f) args) (CR CX outer P w H s Q E) s
section
variable {P : Program} {w : World} {K : PySem.W.Frag} {mg : Str → Option Value} {base : Heap} {x qual : Str} {params : Arguments} {body : List Stmt} {scope : Scope} {f : Addr} {fd : FuncData} {N ps : List Str} {k : Nat} {sp : SpT} {c : TTS}
end
section
variable {X : Cx} {k j : Nat} {f : Addr} {fd : FuncData} {ps : List Str} {sp : SpT} {x : Str} {p pos : Pos} {e : Expr} {es : List Expr} {ta : TTA}
end
end TL
namespace TL
open PySem PySem.Spec PyProof.Rows
open L2 hiding putF
abbrev Dsk := T × List T
def nsD : List Str := ["kept", "elder"]
def dIns (e : Addr) (k : Dsk) : Cell := .ins "Desk" nsD [k.1, .ref e]
def WD (d e : Addr) (S : Sto) (k : Dsk) : Sto := ups (ups S d (dIns e k)) e (.lst k.2)
structure DAt (d e : Addr) (S : Sto) (k : Dsk) : Prop where
  ne : d ≠ e
  d : S d = some (dIns e k)
  e : S e = some (.lst k.2)
section
variable {S S' : Sto} {d e a : Addr} {k k' : Dsk} {l : Cs} {c : Cell}
theorem WD_e : WD d e S k e = some (.lst k.2) := ups_same
theorem WD_d (h : d ≠ e) : WD d e S k d = some (dIns e k) := (ups_ne h).trans ups_same
theorem WD_o (h1 : a ≠ d) (h2 : a ≠ e) : WD d e S k a = S a := (ups_ne h2).trans (ups_ne h1)
theorem DAt.self (h : DAt d e S k) : WD d e S k = S := by
  unfold WD
  rw [ups_self h.d, ups_self h.e]
theorem WD_no (h : d ≠ e) (n : WD d e S k a = none) : a ≠ d ∧ a ≠ e ∧ S a = none := by
  have n2 : a ≠ e := fun z => by rw [z, WD_e] at n; cases n
  have n1 : a ≠ d := fun z => by rw [z, WD_d h] at n; cases n
  exact ⟨n1, n2, (WD_o n1 n2).symm.trans n⟩
theorem WD_put (h : d ≠ e) (i : SI (WD d e S) l k S') : SI (WD d e S) l k' (WD d e S' k') := ⟨fun x hx => by
    obtain ⟨n1, n2, _⟩ := WD_no h (i.own x hx)
    rw [WD_o n1 n2]
    exact i.at_ x hx, fun x hx => by
    obtain ⟨n1, n2, n3⟩ := WD_no h (i.own x hx)
    exact (WD_o n1 n2).trans n3, i.nd, fun x c hx => by
    by_cases z1 : x = e
    · subst z1; rw [WD_e] at hx ⊢; exact hx
    by_cases z2 : x = d
    · subst z2; rw [WD_d h] at hx ⊢; exact hx
    rw [WD_o z2 z1] at hx ⊢
    exact i.base x c (by rw [WD_o z2 z1]; exact hx)⟩
theorem WD_dat (h : d ≠ e) (i : SI (WD d e S) l k S') : DAt d e S' k := ⟨h, i.base d _ (WD_d h), i.base e _ WD_e⟩
end
section
variable {κ α β ι : Type}
/-- by the state without the last desk; by the last desk -/
def up (m : PM κ α) : PM (κ × Dsk) α := fun k => match m k.1 with
  | .ok v k' => .ok v (k', k.2)
  | .exc x k' => .exc x (k', k.2)
  | .bad => .bad
def dk (m : PM Dsk α) : PM (κ × Dsk) α := fun k => match m k.2 with
  | .ok v k' => .ok v (k.1, k')
  | .exc x k' => .exc x (k.1, k')
  | .bad => .bad
def WX (W : κ → Sto) (d e : Addr) (k : κ × Dsk) : Sto := WD d e (W k.1) k.2
/-- one place alone comes and goes never -/
def DomC (W : κ → Sto) : Prop := ∀ k k' a, W k a = none → W k' a = none
theorem DomC.up {W : κ → Sto} {d e : Addr} (h : DomC W) (ne : d ≠ e) : DomC (WX W d e) := fun k k' a n => by
  obtain ⟨n1, n2, n3⟩ := WD_no ne n
  exact (WD_o n1 n2).trans (h _ _ _ n3)
/-- the desk at (d, e), by lift -/
structure LD (W : κ → Sto) (d e : Addr) (lift : PM Dsk T → PM κ T) : Prop where
  ne : d ≠ e
  dom : ∀ k, W k d ≠ none ∧ W k e ≠ none
  at_ : ∀ (k : κ) (S : Sto) (l : Cs), SI W l k S → ∃ st, DAt d e S st
  run : ∀ (m : PM Dsk T) (P : T → κ → Prop) (X : T → κ → Prop) (k : κ) (S : Sto) (l : Cs), SI W l k S → Sat (lift m k) P X →
    ∃ st, DAt d e S st ∧ Sat (m st) (fun v st' => ∃ k', P v k' ∧ SI W l k' (WD d e S st')) (fun x st' => ∃ k', X x k' ∧ SI W l k' (WD d e S st'))
/-- the pen's cell, by lift -/
def LP (W : κ → Sto) (pa : Addr) (lift : PM Cell T → PM κ T) : Prop := (∀ k, W k pa ≠ none) ∧ ∀ (m : PM Cell T) (P : T → κ → Prop) (X : T → κ → Prop) (k : κ) (S : Sto) (l : Cs), SI W l k S → Sat (lift m k) P X →
  ∃ c, S pa = some c ∧ Sat (m c) (fun v c' => ∃ k', P v k' ∧ SI W l k' (ups S pa c')) (fun x c' => ∃ k', X x k' ∧ SI W l k' (ups S pa c'))
theorem sat_up {m : PM κ α} {k : κ × Dsk} {P : α → κ × Dsk → Prop} {X : T → κ × Dsk → Prop} (h : Sat (up m k) P X) : Sat (m k.1) (fun v k' => P v (k', k.2)) fun x k' => X x (k', k.2) := by
  unfold TL.up at h
  cases q : m k.1 <;> rw [q] at h <;> exact h
theorem sat_dk {m : PM Dsk α} {k : κ × Dsk} {P : α → κ × Dsk → Prop} {X : T → κ × Dsk → Prop} (h : Sat (dk m k) P X) : Sat (m k.2) (fun v k' => P v (k.1, k')) fun x k' => X x (k.1, k') := by
  unfold TL.dk at h
  cases q : m k.2 <;> rw [q] at h <;> exact h
theorem LD.one {S0 : Sto} {d e : Addr} (ne : d ≠ e) : LD (WD d e S0) d e id := ⟨ne, fun k => ⟨by rw [WD_d ne]; exact Option.some_ne_none _, by rw [WD_e]; exact Option.some_ne_none _⟩, fun k S l i => ⟨k, WD_dat ne i⟩, fun m P X k S l i h =>
  ⟨k, WD_dat ne i, Sat.mono h (fun v k' q => ⟨k', q, WD_put ne i⟩) fun x k' q => ⟨k', q, WD_put ne i⟩⟩⟩
section
variable {W : κ → Sto} {d e d' e' pa : Addr} {l : Cs} {k : κ × Dsk} {S : Sto}
/-- the state without the last desk -/
theorem SI.low (ne : d ≠ e) (n : ∀ k, W k d = none ∧ W k e = none) (i : SI (WX W d e) l k S) : SI W l k.1 S := ⟨i.at_, fun x hx => (WD_no ne (i.own x hx)).2.2, i.nd, fun a c h => by
  have n1 : a ≠ d := fun z => by rw [z, (n k.1).1] at h; cases h
  have n2 : a ≠ e := fun z => by rw [z, (n k.1).2] at h; cases h
  exact i.base a c ((WD_o n1 n2).trans h)⟩
/-- back again, the last desk as it was -/
theorem SI.high {k' : κ} {S' : Sto} (ne : d ≠ e) (i : SI (WX W d e) l k S) (j : SI W l k' S') (h1 : S' d = S d) (h2 : S' e = S e) : SI (WX W d e) l (k', k.2) S' := ⟨j.at_, fun x hx => by
  obtain ⟨n1, n2, _⟩ := WD_no ne (i.own x hx)
  exact (WD_o n1 n2).trans (j.own x hx), j.nd, fun a c h => by
  by_cases z1 : a = e
  · subst z1
    have h : WD d a (W k') k.2 a = some c := h
    rw [WD_e] at h
    rw [h2]
    exact i.base a c (show WD d a (W k.1) k.2 a = some c by rw [WD_e]; exact h)
  by_cases z2 : a = d
  · subst z2
    have h : WD a e (W k') k.2 a = some c := h
    rw [WD_d ne] at h
    rw [h1]
    exact i.base a c (show WD a e (W k.1) k.2 a = some c by rw [WD_d ne]; exact h)
  have h : WD d e (W k') k.2 a = some c := h
  rw [WD_o z2 z1] at h
  exact j.base a c h⟩
theorem LD.up {lift : PM Dsk T → PM κ T} (L : LD W d' e' lift) (ne : d ≠ e) (n : ∀ k, W k d = none ∧ W k e = none) : LD (WX W d e) d' e' fun m => TL.up (lift m) := by
  have hne : ∀ k : κ, (d ≠ d' ∧ d ≠ e') ∧ (e ≠ d' ∧ e ≠ e') := fun k => ⟨⟨fun z => (L.dom k).1 (z ▸ (n k).1), fun z => (L.dom k).2 (z ▸ (n k).1)⟩, fun z => (L.dom k).1 (z ▸ (n k).2), fun z => (L.dom k).2 (z ▸ (n k).2)⟩
  refine ⟨L.ne, fun k => ?_, fun k S l i => L.at_ k.1 S l (i.low ne n), fun m P X k S l i h => ?_⟩
  · obtain ⟨⟨a1, a2⟩, a3, a4⟩ := hne k.1
    exact ⟨by rw [show WX W d e k d' = W k.1 d' from WD_o a1.symm a3.symm]; exact (L.dom k.1).1, by rw [show WX W d e k e' = W k.1 e' from WD_o a2.symm a4.symm]; exact (L.dom k.1).2⟩
  · obtain ⟨⟨a1, a2⟩, a3, a4⟩ := hne k.1
    obtain ⟨st, h1, h2⟩ := L.run m _ _ k.1 S l (i.low ne n) (sat_up h)
    exact ⟨st, h1, h2.mono (fun v st' ⟨k', q, j⟩ => ⟨(k', k.2), q, i.high ne j (WD_o a1 a2) (WD_o a3 a4)⟩) fun v st' ⟨k', q, j⟩ => ⟨(k', k.2), q, i.high ne j (WD_o a1 a2) (WD_o a3 a4)⟩⟩
theorem LD.last (ne : d ≠ e) : LD (WX W d e) d e dk := ⟨ne, fun k => ⟨by rw [show WX W d e k d = _ from WD_d ne]; exact Option.some_ne_none _, by rw [show WX W d e k e = _ from WD_e]; exact Option.some_ne_none _⟩, fun k S l i => ⟨k.2, ne, i.base d _ (show WX W d e k d = _ from WD_d ne), i.base e _ (show WX W d e k e = _ from WD_e)⟩, fun m P X k S l i h => by
  refine ⟨k.2, ⟨ne, i.base d _ (show WX W d e k d = _ from WD_d ne), i.base e _ (show WX W d e k e = _ from WD_e)⟩, ?_⟩
  have j : ∀ st', SI (WX W d e) l (k.1, st') (WD d e S st') := fun st' => by
    have : SI (WD d e (W k.1)) l k.2 S := ⟨i.at_, i.own, i.nd, i.base⟩
    have := WD_put (k' := st') ne this
    exact ⟨this.at_, this.own, this.nd, this.base⟩
  exact (sat_dk h).mono (fun v st' q => ⟨_, q, j st'⟩) fun v st' q => ⟨_, q, j st'⟩⟩
theorem LP.one {S0 : Sto} : LP (penW S0 pa) pa id := ⟨fun k => by rw [show penW S0 pa k pa = some k from ups_same]; exact Option.some_ne_none _, fun m P X k S l i h => ⟨k, i.base pa k ups_same, Sat.mono h (fun v k' q => ⟨k', q, i.pen⟩) fun v k' q => ⟨k', q, i.pen⟩⟩⟩
theorem LP.up {lift : PM Cell T → PM κ T} (L : LP W pa lift) (ne : d ≠ e) (n : ∀ k, W k d = none ∧ W k e = none) : LP (WX W d e) pa fun m => TL.up (lift m) := by
  have hne : ∀ k : κ, d ≠ pa ∧ e ≠ pa := fun k => ⟨fun z => L.1 k (z ▸ (n k).1), fun z => L.1 k (z ▸ (n k).2)⟩
  refine ⟨fun k => ?_, fun m P X k S l i h => ?_⟩
  · obtain ⟨a1, a2⟩ := hne k.1
    rw [show WX W d e k pa = W k.1 pa from WD_o a1.symm a2.symm]
    exact L.1 k.1
  · obtain ⟨a1, a2⟩ := hne k.1
    obtain ⟨c, h1, h2⟩ := L.2 m _ _ k.1 S l (i.low ne n) (sat_up h)
    exact ⟨c, h1, h2.mono (fun v st' ⟨k', q, j⟩ => ⟨(k', k.2), q, i.high ne j (ups_ne a1) (ups_ne a2)⟩) fun v st' ⟨k', q, j⟩ => ⟨(k', k.2), q, i.high ne j (ups_ne a1) (ups_ne a2)⟩⟩
end
variable {W : κ → Sto} {p : TEnv} {l : Cs} {i : Nat}
/-- desks by which -/
def LF (W : κ → Sto) (ad el : ι → Addr) (lift : ι → PM Dsk T → PM κ T) : Prop := ∀ i, LD W (ad i) (el i) (lift i)
theorem LF.one {d e : Addr} {lift : PM Dsk T → PM κ T} (L : LD W d e lift) : LF (ι := Unit) W (fun _ => d) (fun _ => e) fun _ => lift := fun _ => L
theorem LF.two {d0 e0 d1 e1 : Addr} {l0 l1 : PM Dsk T → PM κ T} (L0 : LD W d0 e0 l0) (L1 : LD W d1 e1 l1) : LF (ι := Bool) W (fun b => if b = true then d1 else d0) (fun b => if b = true then e1 else e0) fun b => if b = true then l1 else l0 := fun b => by
  cases b with
  | true => exact L1
  | false => exact L0
variable {ad el : ι → Addr} {lift : ι → PM Dsk T → PM κ T} {eo : TTE} {mo : PM κ ι} {r : TTA} {n : Nat}
end
section
variable {κ α β ι : Type} {W : κ → Sto} {p : TEnv} {l : Cs} {i : Nat} {u : TTS} {post : β → Dest} {k0 : T}
end
section
variable {β : Type} {S0 : Sto} {d e : Addr} {p : TEnv} {l : Cs} {i : Nat} {u : TTS} {post : β → Dest} {ok : Str → Bool} {ee : TTE} {m : PM Dsk T} {g : PM Dsk β}
end
end TL
namespace TL
open PySem PySem.Spec PyProof.Rows
open L2 hiding putF
section
variable {P : Program} {w : World} {K : PySem.W.Frag} {tg : Expr} {d : Addr} {o : Obj} {en : Array DictEntry} {ep : Nat} {es : Es}
end
/-- e is read as it stands: p tells its tree -/
structure Rpth (X : Cx) (e : Expr) (p : TEnv → Sto → T → Prop) (rd : L2.St → Hp → V → Prop) : Prop where
  pe : PE X e (fun σ H Q => ∃ v, rd σ H v ∧ Q v H)
  rep : ∀ {M S0 H0 σ H τ S t}, Rel (gdOf X M) S0 H0 σ H τ S → p τ S t → ∃ v, rd σ H v ∧ Rep (gdOf X M) H S t v
  lock : ∀ {σ H v d o u}, H d = some u → isD u = true → rd σ H v → rd σ (upd H d (.frz o u)) v
section
variable {X : Cx} {e : Expr} {p : TEnv → Sto → T → Prop} {rd : L2.St → Hp → V → Prop} {i : Nat} {x f : Str} {q p' : Pos} {ok : Str → Bool}
end
section
variable {X : Cx} {e tg : Expr} {p : TEnv → Sto → T → Prop} {rd : L2.St → Hp → V → Prop} {apos cpos : Pos}
end
section
variable {X : Cx} {e tg : Expr} {body : List Stmt} {g : TTG} {t : TTS} {vs : List Nat} {pos : Pos} {q : Bool} {p : TEnv → Sto → T → Prop} {rd : L2.St → Hp → V → Prop}
end
section
variable {X : Cx} {e elt tg : Expr} {ifs : List Expr} {scope : Scope} {g : TTG} {tc : TTB} {te : TTE} {pos : Pos} {ow : List (Str × Nat)} {q : Bool} {p : TEnv → Sto → T → Prop} {rd : L2.St → Hp → V → Prop}
end
end TL
namespace TL
open PySem PySem.Spec PyProof.Rows
open L2 hiding putF
section
variable {κ : Type} {W : κ → Sto} {p : TEnv} {l : Cs} {β : Type} {pp : TEnv → Sto → T → Prop} {mo : Option T} {i : Nat} {x : T} {f c m : Str} {ok : Str → Bool} {q : Bool}
variable {o : TTE} {mx : PM κ T}
end
end TL
namespace TL
open PySem PySem.Spec PyProof.Rows
open L2 hiding putF
def hlt (p q : Int × Int) : Bool := decide (p.1 < q.1) || (decide (p.1 = q.1) && decide (p.2 < q.2))
section
variable {X : Cx} {pins : List (Addr × Obj)} {s : Shared} {σ : L2.St} {H : Hp} {S : Sto} {M : Addr → Prop}
end
section
variable {X : Cx}
end
end TL
namespace TL
open PySem PySem.Spec PyProof.Rows
open L2 hiding putF
inductive Tg where
  | self | folk | cd | pd
  | fam (f : List Nm)
  | ch (n : Nm)
  | pa (n : Nm)
  deriving DecidableEq
structure KS (S0 S : Sto) (D : Tg → Prop) (A : Tg → Addr) (C : Tg → Cell) : Prop where
  at_ : ∀ t, D t → S (A t) = some (C t)
  own : ∀ t, D t → S0 (A t) = none
  inj : ∀ t u, D t → D u → A t = A u → t = u
  base : ∀ b c, S0 b = some c → S b = some c
def updT {α : Type} (f : Tg → α) (t : Tg) (x : α) : Tg → α := fun u => if u = t then x else f u
theorem updT_same {α : Type} {f : Tg → α} {t : Tg} {x : α} : updT f t x t = x := if_pos rfl
theorem updT_ne {α : Type} {f : Tg → α} {t u : Tg} {x : α} (h : u ≠ t) : updT f t x u = f u := if_neg h
section
variable {S0 S : Sto} {D D' : Tg → Prop} {A A' : Tg → Addr} {C C' : Tg → Cell}
theorem KS.congr (k : KS S0 S D A C) (hD : ∀ t, D' t → D t) (hA : ∀ t, D' t → A' t = A t) (hC : ∀ t, D' t → C' t = C t) : KS S0 S D' A' C' :=
  ⟨fun t h => by rw [hA t h, hC t h]; exact k.at_ t (hD t h), fun t h => by rw [hA t h]; exact k.own t (hD t h), fun t u h1 h2 e => k.inj t u (hD t h1) (hD u h2) (by rw [← hA t h1, ← hA u h2]; exact e), k.base⟩
theorem KS.put {t : Tg} {c : Cell} (k : KS S0 S D A C) (h : D t) : KS S0 (ups S (A t) c) D A (updT C t c) := ⟨fun u hu => by
  by_cases e : u = t
  · rw [e, ups_same, updT_same]
  · rw [updT_ne e, ups_ne fun z => e (k.inj u t hu h z)]
    exact k.at_ u hu, k.own, k.inj, fun b d hb => by
  have : b ≠ A t := fun z => by rw [z, k.own t h] at hb; cases hb
  rw [ups_ne this]
  exact k.base b d hb⟩
theorem KS.new {t : Tg} {c : Cell} {p : Addr} (k : KS S0 S D A C) (n : S p = none) (h : ¬ D t) : KS S0 (ups S p c) (fun u => D u ∨ u = t) (updT A t p) (updT C t c) := by
  have ne : ∀ u, D u → A u ≠ p := fun u hu z => by
    have := k.at_ u hu
    rw [z, n] at this
    cases this
  have nt : ∀ u, D u → u ≠ t := fun u hu z => h (z ▸ hu)
  refine ⟨fun u hu => ?_, fun u hu => ?_, fun u v hu hv e => ?_, fun b d hb => ?_⟩
  · rcases hu with hu | rfl
    · rw [updT_ne (nt u hu), updT_ne (nt u hu), ups_ne (ne u hu)]
      exact k.at_ u hu
    · rw [updT_same, updT_same, ups_same]
  · rcases hu with hu | rfl
    · rw [updT_ne (nt u hu)]
      exact k.own u hu
    · rw [updT_same]
      cases q : S0 p with
      | none => rfl
      | some d =>
        have := k.base p d q
        rw [n] at this
        cases this
  · rcases hu with hu | rfl
    · rcases hv with hv | rfl
      · rw [updT_ne (nt u hu), updT_ne (nt v hv)] at e
        exact k.inj u v hu hv e
      · rw [updT_ne (nt u hu), updT_same] at e
        exact absurd e (ne u hu)
    · rcases hv with hv | rfl
      · rw [updT_ne (nt v hv), updT_same] at e
        exact absurd e.symm (ne v hv)
      · rfl
  · have : b ≠ p := fun z => by
      have := k.base b d hb
      rw [z, n] at this
      cases this
    rw [ups_ne this]
    exact k.base b d hb
theorem KS.sub (k : KS S0 S D A C) : Sub S0 S := k.base
end
/-- how far it came -/
structure Kst where
  ns : List Str
  vs : List T
  fo : Bool
  us : List (List Nm)
  cn : List Nm
  cd : Bool
  pn : List Nm
  pd : Bool
  LF : List Nm → List T
  LC : Nm → List T
  LP : Nm → List T
def Kst.D (k : Kst) : Tg → Prop
  | .self => True
  | .folk => k.fo = true
  | .cd => k.cd = true
  | .pd => k.pd = true
  | .fam f => f ∈ k.us
  | .ch n => n ∈ k.cn
  | .pa n => n ∈ k.pn
def Kst.C (nm : List Nm) (A : Tg → Addr) (k : Kst) : Tg → Cell
  | .self => .ins "Kin" k.ns k.vs
  | .folk => .dct (dnk (k.us.map famT)) (k.us.map famT) (k.us.map fun f => .ref (A (.fam f)))
  | .cd => .dct false (nm.map T.str) (nm.map fun n => .ref (A (.ch n)))
  | .pd => .dct false (nm.map T.str) (nm.map fun n => .ref (A (.pa n)))
  | .fam f => .lst (k.LF f)
  | .ch n => .lst (k.LC n)
  | .pa n => .lst (k.LP n)
abbrev KJ (S0 : Sto) (nm : List Nm) (A : Tg → Addr) (k : Kst) (S : Sto) : Prop := KS S0 S k.D A (k.C nm A)
section
variable {S0 S : Sto} {nm : List Nm} {A : Tg → Addr} {k : Kst}
theorem KJ.self (h : KJ S0 nm A k S) (ns : List Str) (vs : List T) : KJ S0 nm A { k with ns := ns, vs := vs } (ups S (A .self) (.ins "Kin" ns vs)) :=
  (KS.put (t := .self) h trivial).congr (fun t h => by cases t <;> exact h) (fun _ _ => rfl) fun t _ => by
    cases t <;> first | exact updT_same.symm | exact (updT_ne (by simp)).symm
theorem KJ.fam (h : KJ S0 nm A k S) {f : List Nm} (hf : f ∈ k.us) (x : List T) : KJ S0 nm A { k with LF := fun g => if g = f then x else k.LF g } (ups S (A (.fam f)) (.lst x)) :=
  (KS.put (t := .fam f) h hf).congr (fun t h => by cases t <;> exact h) (fun _ _ => rfl) fun t _ => by
    cases t with
    | fam g =>
      by_cases e : g = f
      · subst e
        rw [updT_same]
        show Cell.lst (if g = g then x else _) = _
        rw [if_pos rfl]
      · rw [updT_ne (fun z => e (by injection z))]
        show Cell.lst (if g = f then x else _) = _
        rw [if_neg e]
        rfl
    | _ => exact (updT_ne (by simp)).symm
theorem KJ.ch (h : KJ S0 nm A k S) {n : Nm} (hn : n ∈ k.cn) (x : List T) : KJ S0 nm A { k with LC := fun m => if m = n then x else k.LC m } (ups S (A (.ch n)) (.lst x)) :=
  (KS.put (t := .ch n) h hn).congr (fun t h => by cases t <;> exact h) (fun _ _ => rfl) fun t _ => by
    cases t with
    | ch m =>
      by_cases e : m = n
      · subst e
        rw [updT_same]
        show Cell.lst (if m = m then x else _) = _
        rw [if_pos rfl]
      · rw [updT_ne (fun z => e (by injection z))]
        show Cell.lst (if m = n then x else _) = _
        rw [if_neg e]
        rfl
    | _ => exact (updT_ne (by simp)).symm
theorem KJ.pa (h : KJ S0 nm A k S) {n : Nm} (hn : n ∈ k.pn) (x : List T) : KJ S0 nm A { k with LP := fun m => if m = n then x else k.LP m } (ups S (A (.pa n)) (.lst x)) :=
  (KS.put (t := .pa n) h hn).congr (fun t h => by cases t <;> exact h) (fun _ _ => rfl) fun t _ => by
    cases t with
    | pa m =>
      by_cases e : m = n
      · subst e
        rw [updT_same]
        show Cell.lst (if m = m then x else _) = _
        rw [if_pos rfl]
      · rw [updT_ne (fun z => e (by injection z))]
        show Cell.lst (if m = n then x else _) = _
        rw [if_neg e]
        rfl
    | _ => exact (updT_ne (by simp)).symm
end
end TL
namespace TL
open PySem PySem.Spec PyProof.Rows
open L2 hiding putF
open Classical in
def TV (p : Addr) (b : T) (τ : TEnv) : Prop := τ.length = 5 ∧ τ[0]? = some (some (.ref p)) ∧ τ[1]? = some (some b)
theorem TV.set {p : Addr} {b : T} {τ : TEnv} {i : Nat} {x : Option T} (h : TV p b τ) (hi : 2 ≤ i) : TV p b (τ.set i x) :=
  ⟨by rw [List.length_set]; exact h.1, by rw [List.getElem?_set_ne (by omega)]; exact h.2.1, by rw [List.getElem?_set_ne (by omega)]; exact h.2.2⟩
theorem TV.at_ {p : Addr} {b : T} {τ : TEnv} {i : Nat} {x : Option T} (h : TV p b τ) (hi : i < 5) : (τ.set i x)[i]? = some x := List.getElem?_set_self (by rw [h.1]; exact hi)
section
variable {S0 : Sto} {p : Addr} {B : Bk} {ok : Str → Bool} {D : TD} {E : T → TEnv → Sto → Prop} {A : Tg → Addr} {k : Kst} {S : Sto} {τ : TEnv} {nm : List Nm}
end
def k0 : Kst := ⟨[], [], false, [], [], false, [], false, fun f => f.map T.str, fun _ => [], fun _ => []⟩
end TL
namespace L2
open PySem PySem.Spec PyProof.Rows
section
variable {X : Cx} {o e : Expr} {es : List Expr} {to : TE} {t : TA} {name : Str} {apos cpos : Pos} {id : String} {r : V → List V → Hp → VK → Prop}
end
end L2
namespace TL
open PySem PySem.Spec PyProof.Rows
open L2 hiding putF
section
variable {X : Cx} {o e : Expr} {to te : TTE} {apos cpos : Pos}
end
section
variable {X : Cx} {e elt tg : Expr} {ifs : List Expr} {scope : Scope} {g : TTG} {tc : TTB} {te : TTE} {pos apos cpos : Pos} {ow : List (Str × Nat)} {p : TEnv → Sto → T → Prop} {rd : L2.St → Hp → V → Prop} {body : List Stmt} {t : TTS} {vs : List Nat}
end
section
variable {X : Cx}
end
end TL
namespace TL
open PySem PySem.Spec PyProof.Rows L2
section
variable {X : Cx} {e ls ks : Expr} {te tl tk : L2.TE} {p3 pos : Pos}
end
section
variable {κ : Type} {W : κ → Sto} {p : TEnv} {l : Cs} {a b c : TTE} {ma mb mc : PM κ T}
end
end TL
namespace TL
open PySem PySem.Spec PyProof.Rows L2
section
variable {X : Cx} {c : Str} {C : Addr} {fs : List Str} {e : Expr} {es : List Expr} {p pos : Pos} {j : Nat}
variable {ta : TTA}
end
section
variable {κ : Type} {W : κ → Sto} {p : TEnv} {l : Cs}
end
end TL
namespace TL
open PySem PySem.Spec PyProof.Rows L2
variable {X : Cx}
end TL
namespace TL
open PySem PySem.Spec PyProof.Rows L2
/-- what digits tell -/
def digV (x : List Sg) : Nat := x.foldl (fun a c => a * 10 + (c.val - 48)) 0
def digB (x : List Sg) : Bool := !x.isEmpty && (decide (x.length ≤ 600) && x.all fun c => decide (48 ≤ c.val) && decide (c.val ≤ 57))
def itxF (_ : Sto) : List T → Option T
  | [.str x] => if digB x = true then some (.int (digV x : Nat)) else none
  | _ => none
theorem itx_reads {x : List Sg} (h : digB x = true) : PySem.intText? (txt x) = some ((digV x : Nat) : Int) ∧ (txt x).length ≤ 640 := by
  unfold digB at h
  rw [Bool.and_eq_true, Bool.and_eq_true, decide_eq_true_eq, List.all_eq_true] at h
  obtain ⟨h1, h2, h3⟩ := h
  have e : (txt x).cps.toList = x.map (·.val) := by unfold txt; simp
  have l : (txt x).length ≤ 600 := by rw [txt_len]; exact h2
  refine ⟨?_, by omega⟩
  rw [intText_digits (x := txt x) (by
    rw [e]
    intro c hc
    obtain ⟨d, hd, rfl⟩ := List.mem_map.mp hc
    have := h3 d hd
    rw [Bool.and_eq_true, decide_eq_true_eq, decide_eq_true_eq] at this
    exact this) (by
    rw [e]
    intro z
    have := List.map_eq_nil_iff.mp z
    rw [this] at h1
    cases h1) (by omega), e]
  congr 2
  show (x.map (·.val)).foldl (fun acc c => acc * 10 + (c - 48)) 0 = x.foldl (fun a c => a * 10 + (c.val - 48)) 0
  rw [List.foldl_map]
theorem fn_itx {X : Cx} : CallT X (.type "int") itxF := by
  intro pins s σ H xs us Q I r h
  obtain ⟨M, S, ts, t, o, rs, e, fin⟩ := h
  unfold itxF at e
  split at e
  · rename_i x
    split at e
    · rename_i hx
      obtain rfl := Option.some.inj e
      obtain ⟨v, rfl, ry⟩ := rs.one
      cases ry
      obtain ⟨h1, h2⟩ := itx_reads hx
      exact call_int_str pins s σ H _ us Q I r ⟨txt x, _, rfl, h1, h2, fin _ H o Ext.refl (.int _)⟩
    · cases e
  · cases e
theorem fnx_itxF : FnX' itxF := fun _ _ _ h => h
end TL
namespace TL
open PySem PySem.Spec PyProof.Rows L2
variable {X : Cx} {e : Expr} {te : TTE} {p p2 pos pos2 : Pos}
end TL
namespace TL
open PySem PySem.Spec PyProof.Rows L2
section
variable {κ : Type} {W : κ → Sto} {p : TEnv} {l : Cs} {β : Type} {u : TTS} {post : β → Dest}
end
end TL
namespace TL
open PySem PySem.Spec PyProof.Rows L2
theorem te_v {X : Cx} {i : Nat} {x : Str} {p : Pos} (h : X.N[i]? = some x := by rfl) (hv : Vis X.env.scope x := by exact .inl rfl) (hd : (x == ("__debug__" : Str)) = false := by decide) (hc : (x == ("__classdict__" : Str)) = false := by decide) : TE X (.Name x p) (cVar i) := te_var h hv hd hc
/-- what a def's body reads as, at all calls -/
abbrev HB (P : Program) (w : World) (K : PySem.W.Frag) (mg : Str → Option Value) (base : Heap) (n : Nat) (N : List Str) (nm : Str) (d : Stmt) (c : TTS) : Prop := ∀ (cdv : Value) (A : Around) (outer : List Env) (s : Shared) (H : Hp) (E : XK), Room n (A.deeper (envOfC nm (defScope d) s.heap.objs.size (He.ga K nm) cdv)) → TSs (cxOf (L2N.CX P w) P w K mg base N nm (defScope d) (He.ga K nm) cdv A outer s H E) (defBody d) c
end TL
namespace TL
open PySem PySem.Spec PyProof.Rows
open L2 hiding putF
def cnS (y : List Sg) : Nat → List Sg → Nat
  | _, [] => 0
  | 0, c :: r => if (c :: r).take y.length = y then 1 + cnS y (y.length - 1) r else cnS y 0 r
  | s + 1, _ :: r => cnS y s r
theorem rpS_len {y z : List Sg} (hy : 1 ≤ y.length) : ∀ (n : Nat) (x : List Sg), n ≤ x.length → (rpS y z n x).length + cnS y n x * y.length + n = x.length + cnS y n x * z.length
  | 0, [], _ => by unfold rpS cnS; simp
  | n + 1, [], h => absurd h (by simp)
  | 0, c :: r, _ => by
    unfold rpS cnS
    by_cases h : (c :: r).take y.length = y
    · rw [if_pos h, if_pos h]
      have hl := congrArg List.length h
      rw [List.length_take, List.length_cons] at hl
      have ih := rpS_len (z := z) hy (y.length - 1) r (by omega)
      rw [List.length_append, List.length_cons, Nat.add_mul, Nat.add_mul, Nat.one_mul, Nat.one_mul]
      omega
    · rw [if_neg h, if_neg h]
      have ih := rpS_len (z := z) hy 0 r (Nat.zero_le _)
      rw [List.length_cons, List.length_cons]
      omega
  | s + 1, c :: r, h => by
    unfold rpS cnS
    have ih := rpS_len (z := z) hy s r (by simpa using h)
    rw [List.length_cons]
    omega
theorem repl_count (x y z : Str) : (Txt.replace x y z).length + (Builtin.Str.occurrences x y 0 x.length (x.length + 1)).length * y.length = x.length + (Builtin.Str.occurrences x y 0 x.length (x.length + 1)).length * z.length := by
  have hy : (Builtin.Str.glued y (Builtin.Str.partsBetween x (Builtin.Str.occurrences x y 0 x.length (x.length + 1)) y.length)).length = x.length := by rw [StrLaws.glued_between_self]
  unfold Txt.replace
  split
  · rename_i h
    rw [size_glued, length_partsBetween, Nat.add_sub_cancel] at hy
    rw [Bool.or_eq_true, List.isEmpty_iff, Bool.and_eq_true] at h
    rcases h with h | ⟨h1, h2⟩
    · rw [h]
      simp
    · have h1 : y.length = 0 := by simpa using h1
      have h2 : z.length = 0 := by simpa using h2
      rw [h1, h2]
  · rw [size_glued, length_partsBetween, Nat.add_sub_cancel] at hy
    rw [size_glued, length_partsBetween, Nat.add_sub_cancel]
    omega
theorem count_txt {x y : List Sg} (hy : 1 ≤ y.length) : Txt.count (txt x) (txt y) = (cnS y 0 x : Nat) := by
  have h1 := rpS_len (z := y ++ y) hy 0 x (Nat.zero_le _)
  have h2 := repl_count (txt x) (txt y) (txt (y ++ y))
  rw [repl_txt hy, txt_len, txt_len, txt_len, txt_len, List.length_append] at h2
  rw [List.length_append] at h1
  show ((_ : Nat) : Int) = _
  have e : (Builtin.Str.occurrences (txt x) (txt y) 0 (txt x).length ((txt x).length + 1)).length * y.length = cnS y 0 x * y.length := by
    rw [txt_len]
    rw [Nat.mul_add] at h1 h2
    omega
  rw [Nat.eq_of_mul_eq_mul_right hy e]
def cntF (_ : Sto) (o : T) (ys : List T) : Option T := match o, ys with
  | .str x, [.str (c :: y)] => some (.int (cnS (c :: y) 0 x : Nat))
  | _, _ => none
theorem mtx_cntF : MtX' cntF := fun _ _ _ _ h => h
theorem mt_cntT {X : Cx} : MetT X "str.count" cntF := by
  intro pins s σ H x xs v us Q I rx rs h
  obtain ⟨M, S, tx, ts, t, o, hx, hs, e, fin⟩ := h
  unfold cntF at e
  split at e
  · rename_i a c y
    cases hx
    obtain ⟨w, rfl, ry⟩ := hs.one
    cases ry
    cases e
    refine mt_count pins s σ H _ _ v us Q I rx rs ⟨txt a, txt (c :: y), rfl, rfl, ?_⟩
    rw [count_txt (by simp)]
    exact fin _ _ o Ext.refl (.int _)
  · cases e
def inS (_ : Sto) (x y : T) : Option T := match x, y with
  | .str (c :: z), .str w => some (.bl (parG (c :: z) [] w).isSome)
  | _, _ => none
theorem occ_part {x : List Sg} {c : Sg} {y : List Sg} : (!(Builtin.Str.occurrences (txt x) (txt (c :: y)) 0 (txt x).length 1).isEmpty) = (parG (c :: y) [] x).isSome := by
  have h := part_txt c y x
  unfold Txt.partition at h
  have ne : txt (c :: y) ≠ txt [] := fun z => by
    have := congrArg Str.length z
    rw [txt_len, txt_len] at this
    cases this
  have ne2 : txt (c :: y) ≠ Str.empty := fun z => by
    have := congrArg Str.length z
    rw [txt_len] at this
    cases this
  cases e : Builtin.Str.occurrences (txt x) (txt (c :: y)) 0 (txt x).length 1 with
  | nil =>
    rw [e] at h
    cases p : parG (c :: y) [] x with
    | none => rfl
    | some q =>
      rw [p] at h
      have h := congrArg (fun z => z.2.1) h
      exact absurd h.symm (by simpa using ne2)
  | cons i r =>
    rw [e] at h
    cases p : parG (c :: y) [] x with
    | some q => rfl
    | none =>
      rw [p] at h
      have h := congrArg (fun z => z.2.1) h
      exact absurd h (by simpa using ne)
theorem op_inS {X : Cx} : OpT X (compareOp .In) inS := by
  intro pins s σ H x y v u Q I rx ry h
  obtain ⟨M, S, tx, ty, t, o, hx, hy, e, fin⟩ := h
  unfold inS at e
  split at e
  · rename_i c z w
    cases hx
    cases hy
    cases e
    refine op_in_str pins s σ H _ _ v u Q I rx ry ⟨txt (c :: z), txt w, rfl, rfl, ?_⟩
    rw [occ_part]
    exact fin _ _ o Ext.refl (.bl _)
  · cases e
def cGet1 (a b : TTE) : TTE := fun τ S Q E => a τ S (fun x S1 => (∃ p, dView S1 x = some p) ∧ b τ S1 (fun y S2 => ∃ w, dg2T S2 x y .non = some w ∧ Q w S2) E) E
theorem te_get1 {X : Cx} {o b : Expr} {ta tb : TTE} {apos cpos : Pos} (hu : X.A.units + 64 < cLine) (ha : TE X o ta) (hb : TE X b tb) (m : M1 X o "get" apos b cpos := by exact ⟨rfl, rfl, rfl, rfl⟩) : TE X (.Call (.Attribute o "get" apos) [b] [] cpos) (cGet1 ta tb) := fun M S0 H0 E tk =>
  (pe_dget1 (by omega) (ha M S0 H0 E tk) (hb M S0 H0 E tk) m).weak fun σ H Q ⟨τ, S, Qt, rel, h, k⟩ => ⟨τ, S, _, rel, h, fun zx S1 x H1 ⟨⟨p1, hp1⟩, hb1⟩ o1 x1 r1 => by
    obtain ⟨d, kvs, rfl, hd, q1, q2⟩ := dView_rep o1 r1 hp1
    exact ⟨d, rfl, .inl ⟨kvs, hd⟩, τ, S1, _, rel.step o1 x1, hb1, fun zy S2 y H2 ⟨w, e, hq⟩ o2 x2 r2 => by
      unfold dg2T at e
      split at e
      · rename_i p kk h1 h2
        obtain ⟨d', kvs', ed, hd', q1', q2'⟩ := dView_rep o2 (Rep.ext x2 _ _ r1) h1
        cases ed
        obtain rfl := ky_rep r2 h2
        obtain rfl := Option.some.inj e
        have hl := lk_rep kk q1' q2'
        refine ⟨_, .inl ⟨kvs', kk, hd', rfl, rfl⟩, k _ S2 _ H2 hq o2 (x1.trans x2) ?_⟩
        cases q : dLk p.1 p.2 kk with
        | none => rw [hl.2 q]; exact .non
        | some t =>
          obtain ⟨v, e1, e2⟩ := hl.1 t q
          rw [e1]; exact e2
      · cases e⟩⟩
section
variable {κ : Type} {W : κ → Sto → Prop} {p : TEnv} {l : List (Addr × Cell)} {a b : TTE} {ma mb : PM κ T}
end
def cDispI (prs : List (List Sg × Int)) : TTE := fun _ S Q _ => Q (.dct false (prs.map fun p => .str p.1) (prs.map fun p => .int p.2)) S
theorem cPrs_c {τ : TEnv} {E : T → Sto → Prop} : ∀ {prs : List (List Sg × Int)} {S : Sto} {K : List T → Sto → Prop}, K (prs.map fun p => .int p.2) S → cPrs (prs.map fun p => (p.1, cC (.int p.2))) τ S K E
  | [], _, _, h => h
  | p :: r, S, K, h => cPrs_c (prs := r) (K := fun ys S2 => K (.int p.2 :: ys) S2) h
theorem reps_int {G : Gd} {H : Hp} {S S' : Sto} : ∀ {is : List Int} {vs : List V}, Reps G H S (is.map T.int) vs → Reps G H S' (is.map T.int) vs
  | [], _, .nil => .nil
  | i :: is, _, .cons a b => by
    cases a
    exact .cons (.int _) (reps_int b)
theorem reps_str {G : Gd} {H : Hp} {S S' : Sto} : ∀ {is : List (List Sg)} {vs : List V}, Reps G H S (is.map T.str) vs → Reps G H S' (is.map T.str) vs
  | [], _, .nil => .nil
  | i :: is, _, .cons a b => by
    cases a
    exact .cons (.str _) (reps_str b)
theorem te_dispI {X : Cx} {pos : Pos} {ks : List (Option Expr)} {vs : List Expr} {prs : List (List Sg × Int)} (h : TPs X ks vs (prs.map fun p => (p.1, cC (.int p.2)))) (nd : (prs.map (·.1)).Nodup) (h0 : ks ≠ []) (h15 : ks.length ≤ 15) : TE X (.Dict ks vs pos) (cDispI prs) := fun M S0 H0 E tk =>
  (te_dispM h (by rw [List.map_map]; exact nd) h0 h15 M S0 H0 E tk).weak fun σ H Q ⟨τ, S, Qt, rel, hq, k⟩ =>
    ⟨τ, S, fun z S' => ∃ p, z = .ref p ∧ S p = none ∧ S' p = some (.dct false (prs.map fun p => .str p.1) (prs.map fun p => .int p.2)) ∧ ∀ b, b ≠ p → S' b = S b, rel, fun p np => cPrs_c ⟨ups_same, p, rfl, np, by
      rw [List.map_map]
      exact ups_same, fun b hb => by rw [ups_ne hb, ups_ne hb]⟩, fun z S' v H' ⟨p, ez, np, hp, hb⟩ o x r => by
      subst ez
      cases r
      refine k _ S _ H' hq (o.drop fun a c e => ?_) (fun b u n => ⟨fun w f => ⟨((x b u n).1 w f).1, n⟩, fun w f => ⟨((x b u n).2 w f).1, n⟩⟩) ?_
      · rw [hb a fun z => by rw [z, np] at e; cases e]
        exact e
      · obtain ⟨kvs, g1, g2, g3⟩ := o.at_ p _ hp
        have nm : ¬ (gdOf X M).M p := fun m => by
          have := o.sep p m
          rw [hp] at this
          cases this
        have r1 : Reps (gdOf X M) H' S (prs.map fun p => .str p.1) (kvs.map fun p => kV p.1) := by
          have g : Reps (gdOf X M) H' S' ((prs.map (·.1)).map T.str) (kvs.map fun p => kV p.1) := by rw [List.map_map]; exact g2
          have := reps_str (S' := S) g
          rw [List.map_map] at this
          exact this
        have r2 : Reps (gdOf X M) H' S (prs.map fun p => .int p.2) (kvs.map (·.2)) := by
          have g : Reps (gdOf X M) H' S' ((prs.map (·.2)).map T.int) (kvs.map (·.2)) := by rw [List.map_map]; exact g3
          have := reps_int (S' := S) g
          rw [List.map_map] at this
          exact this
        exact .dK ⟨.inl g1, np, nm⟩ r1 r2⟩
end TL
namespace TL
open PySem PySem.Spec PyProof.Rows
open L2 hiding putF
def PE1 (X : Cx) (e : Expr) (t : L2.TE) : Prop := ∀ (pins : List (Addr × Obj)) (s : Shared) (σ : L2.St) (H : Hp) (Q : VK), Inv X pins σ H s → t σ H Q →
  wpAny (model X.prog X.w) X.A (eval e X.env) (fun v s' => 1 ≤ s'.toks ∧ EP X pins σ Q v s') X.xe s
def TE1 (X : Cx) (e : Expr) (t : TTE) : Prop := ∀ M S0 H0 E, Takes X (wOf X M S0 H0 E) → PE1 X e (LE X M S0 H0 t E)
section
variable {X : Cx} {a b o : Expr} {ta tb to : TTE} {j k : Nat} {p c0 c1 apos pos : Pos}
theorem pe1_ix {la lb : L2.TE} {r : R2} (hr : IxR X r) (ha : PE1 X a la) (hb : PE X b lb) (hs : PlainIx b) : PE1 X (.Subscript a b pos) (tOp r la lb) := fun pins s σ H Q I h => by
  refine Subscript_ (wpAny_mono (ha pins s σ H _ I h) (fun v s1 ⟨h0, x, H1, I1, r1, q1⟩ => ?_) fun _ _ z => z)
  refine wpAny_mono (wpAny_toks_of h0 (hb.run pins s1 σ H1 _ I1 q1)) (fun u s2 ⟨h2, y, H2, I2, r2, q2⟩ => ?_) fun _ _ z => z.2
  exact wpAny_mono (wpAny_toks_of h2 (hr a b pins s2 σ H2 x y v u Q I2 r1 r2 q2 (hs _ _))) (fun _ _ z => z) fun _ _ z => z.2
theorem te1_ix (ha : TE1 X a ta) (hb : TE X b tb) (hs : PlainIx b := by intro _ _; rfl) : TE1 X (.Subscript a b pos) (cOp ixT ta tb) := fun M S0 H0 E tk pins s σ H Q I h =>
  pe1_ix ix_seq (ha M S0 H0 E tk) (hb M S0 H0 E tk) hs pins s σ H Q I (two (fun x y H Q ⟨M, S, tx, ty, t, o, hx, hy, e, fin⟩ => by
    unfold ixT at e
    split at e
    · rename_i ts i h1
      obtain ⟨p, xs, rfl, q1, r1⟩ := res_lst o hx h1
      cases hy
      obtain ⟨w, hw, rw_⟩ := r1.atI e
      exact .inl ⟨p, xs, i, w, rfl, rfl, SqL.of q1, hw, fin _ H o Ext.refl rw_⟩
    · rename_i ts i h1
      obtain rfl := res_id h1 fun _ z => nomatch z
      cases hx with
      | tup a1 a2 =>
        cases hy
        obtain ⟨w, hw, rw_⟩ := a2.atI e
        exact .inr (.inl ⟨_, _, i, w, rfl, rfl, a1.sq, hw, fin _ H o Ext.refl rw_⟩)
    · rename_i z i h1
      obtain rfl := res_id h1 fun _ z => nomatch z
      cases hx
      cases hy
      split at e
      · rename_i hz
        obtain ⟨c, hc, rfl⟩ := Option.map_eq_some_iff.mp e
        exact .inr (.inr ⟨txt z, i, c.val, rfl, rfl, by rw [txt_len]; exact hz, by rw [txt_list, atI_map, hc]; rfl, fin (.str (txt [c])) H o Ext.refl (.str [c])⟩)
      · cases e
    · cases e) h)
/-- text.m("..") -/
theorem te1_sm1 {id : String} {name x : Str} {f : Sto → T → List T → Option T} (slot : Slot "str" name id) (ty : typeOf (.builtin id) = pure (.type "method_descriptor")) (hm : MetT X id f) (ho : TE X o to) (hx : txt (q x) = x)
    (hs : starEach [.Constant (.str x) j p] X.env = [(false, eval (.Constant (.str x) j p) X.env)] := by rfl) (hbase : attributeBase o name X.env (eval o X.env) = eval o X.env := by rfl) (hline : (apos.endLine == pos.line) = true := by rfl) :
    TE1 X (.Call (.Attribute o name apos) [.Constant (.str x) j p] [] pos) (cM isStr f to (cCons (cC (.str (q x))) cNil)) := fun M S0 H0 E tk pins s σ H Q I h => by
  obtain ⟨τ, S, Qt, rel, h, k⟩ := h
  have h' : LE X M S0 H0 to E σ H (fun v H1 => ∃ a S1, v = .str (txt a) ∧ StoOk (gdOf X M) H1 S1 ∧ Ext S H S1 H1 ∧ ∃ z, f S1 (.str a) [.str (q x)] = some z ∧ Qt z S1) := ⟨τ, S, _, rel, h, fun zx S1 v H1 ⟨hk, h1⟩ o1 x1 r1 => by
    obtain ⟨y, rfl⟩ := isStr_is hk
    cases r1
    obtain ⟨z, e1, hq⟩ := h1
    exact ⟨y, S1, rfl, o1, x1, z, e1, hq⟩⟩
  refine PySem.Call_method1 hbase hs hline (thn ((ho M S0 H0 E tk).run pins s σ H _ I h') fun v s1 ⟨y, H1, I1, r1, q1⟩ => ?_)
  obtain ⟨a, S1, rfl, o1, x1, z, e1, hq⟩ := q1
  obtain ⟨t, rfl⟩ := _root_.id r1
  refine ⟨"str", _, F.plainAttrs_str, slot, ty, typeIs_str _ _ _, (fun _ e => nomatch e), Calls.callWith_builtin rfl (Calls.evalArgs_plain (Calls.spliced_cons (Calls.Constant_str (Calls.spliced_nil ?_))))⟩
  refine wpAny_with_toks (n := 1) (s := { s1 with toks := s1.toks + 1 }) (by show 1 ≤ s1.toks + 1; omega) ?_
  have rx : Rep (gdOf X M) H1 S1 (.str (q x)) (.str x) := by
    have r := Rep.str (G := gdOf X M) (H := H1) (S := S1) (q x)
    rw [hx] at r
    exact r
  exact wpAny_mono (hm pins _ σ H1 (.str (txt a)) [.str x] _ [_] Q (I1.tok _) r1 (.cons ⟨_, rfl⟩ .nil) ⟨M, S1, .str a, [.str (q x)], z, o1, .str a, .cons rx .nil, e1, fun v H' o2 x2 r2 => k z S1 v H' hq o2 (x1.trans x2) r2⟩) (fun c s3 h3 h0 => ⟨h0, h3⟩) fun _ _ z _ => z
/-- e.replace("..", ".."), a token out behind e -/
theorem te_repl1 {y z : Str} (ho : TE1 X o to) (hy : txt (q y) = y) (hz : txt (q z) = z) (hl : (decide (1 ≤ (q y).length) && decide ((q z).length ≤ 8)) = true) (hyz : (y == z) = false := by decide)
    (hst : starEach [.Constant (.str y) j c0, .Constant (.str z) k c1] X.env = [(false, eval (.Constant (.str y) j c0) X.env), (false, eval (.Constant (.str z) k c1) X.env)] := by rfl)
    (hbase : attributeBase o "replace" X.env (eval o X.env) = eval o X.env := by rfl) (hline : (apos.endLine == pos.line) = true := by rfl) :
    TE X (.Call (.Attribute o "replace" apos) [.Constant (.str y) j c0, .Constant (.str z) k c1] [] pos) (cUn (rplT (q y) (q z)) to) := fun M S0 H0 E tk => ⟨fun pins s σ H Q I h => by
  obtain ⟨τ, S, Qt, rel, h, kk⟩ := h
  rw [Bool.and_eq_true, decide_eq_true_eq, decide_eq_true_eq] at hl
  have h' : LE X M S0 H0 to E σ H (fun v H1 => ∃ a, v = .str (txt a) ∧ a.length ≤ 1000000 ∧ Q (.str (txt (rpS (q y) (q z) 0 a))) H1) := ⟨τ, S, _, rel, h, fun zx S1 v H1 ⟨w, e, hq⟩ o1 x1 r1 => by
    cases zx with
    | str a =>
      cases r1
      unfold rplT at e
      simp only at e
      split at e
      · rename_i ha
        cases e
        exact ⟨a, rfl, ha, kk _ S1 _ H1 hq o1 x1 (.str _)⟩
      · cases e
    | _ => cases e⟩
  refine PySem.Call_method2 hbase hst hline (wpAny_mono (ho M S0 H0 E tk pins s σ H _ I h') (fun v s1 qq => ?_) fun _ _ z => z)
  obtain ⟨h0, v', H1, I1, r1, a, e1, ha, hq⟩ := qq
  subst e1
  obtain ⟨tx, rfl⟩ := _root_.id r1
  have e1 : (txt a).length = a.length := txt_len a
  have e2 : z.length ≤ 8 := by rw [← hz, txt_len]; exact hl.2
  have hb : (txt a).length + ((txt a).length + 1) * z.length ≤ 16777216 := by
    rw [e1]
    have := Nat.mul_le_mul (Nat.le_refl (a.length + 1)) e2
    omega
  have er : Txt.replace (txt a) y z = txt (rpS (q y) (q z) 0 a) := by
    have := repl_txt (y := q y) (z := q z) (x := a) hl.1
    rw [hy, hz] at this
    exact this
  refine ⟨"str", _, PySem.F.plainAttrs_str, PySem.F.slot_str_replace, PySem.F.type_str_replace, typeIs_str _ _ _, (fun _ e => nomatch e), Calls.callWith_builtin rfl (Calls.evalArgs_plain (Calls.spliced_cons (Calls.Constant_str (Calls.spliced_cons (Calls.Constant_str (Calls.spliced_nil ?_))))))⟩
  have f0 : s1.toks ≠ 0 := by omega
  have f1 : s1.toks + 1 ≠ 0 := by omega
  have f2 : s1.toks ≠ s1.toks + 1 := by omega
  refine PySem.SC.replace f0 f1 f2 hyz hb fun t' n => ⟨.str (txt (rpS (q y) (q z) 0 a)), H1, I1.tok n, ⟨t', ?_⟩, hq⟩
  rw [er]⟩
end
theorem opv_inS : OpV inS := fun S x v y w r hx hy e => by
  rcases hx with rfl | ⟨_, _, _, _, rfl⟩ | ⟨_, _, _, _, _, _, rfl⟩
  · rcases hy with rfl | ⟨_, _, _, _, rfl⟩ | ⟨_, _, _, _, _, _, rfl⟩
    · exact e
    · unfold inS at e
      split at e <;> simp_all
    · unfold inS at e
      split at e <;> simp_all
  · cases e
  · cases e
section
variable {κ : Type} {W : κ → Sto} {p : TEnv} {l : Cs} {a b : TTE} {ma mb : PM κ T}
theorem xe_get1 (ha : XV W p l a ma) (hb : XE W p l b mb) : XE W p l (cGet1 a b) (bd ma fun x => bd (gd ((dView emp x).isSome = true)) fun _ => bd mb fun y => ofO (dg2T emp x y .non)) := fun Q E k τ S hE i s => by
  refine ha _ _ k τ S hE i ((Sat.bd.mp s).mono (fun v k1 s1 z S1 i1 w1 => ?_) fun _ _ q => q)
  have s1 := Sat.bd.mp s1
  unfold gd at s1
  by_cases hd : (dView emp v).isSome = true
  · rw [if_pos hd] at s1
    obtain ⟨p, hp⟩ := Option.isSome_iff_exists.mp hd
    refine ⟨⟨p, dView_v (w1.at i1) hp⟩, ?_⟩
    refine hb _ _ k1 τ S1 hE i1 ((Sat.bd.mp s1).mono (fun v2 k2 s2 S2 i2 => ?_) fun _ _ q => q)
    unfold ofO at s2
    cases q : dg2T emp v v2 .non with
    | none => rw [q] at s2; exact s2.elim
    | some r => rw [q] at s2; exact ⟨r, dg2T_v (w1.at i2) q, s2 S2 i2⟩
  · rw [if_neg hd] at s1; exact s1.elim
theorem xe_dispI {prs : List (List Sg × Int)} : XE W p l (cDispI prs) (pu (.dct false (prs.map fun p => .str p.1) (prs.map fun p => .int p.2))) := fun Q E k τ S hE i s => s S i
end
end TL
namespace K35
open PySem PySem.Spec PyProof.Rows TL
open L2 hiding putF
def k_ABOVE : T := .tup ((["aunt", "uncle", "pibling"] : List Str).map fun x => .str (q x))
def k_BELOW : T := .tup ((["niece", "nephew", "nibling"] : List Str).map fun x => .str (q x))
def k_BESIDE : T := .tup ((["sister", "brother", "sibling"] : List Str).map fun x => .str (q x))
def k_DEGREES : T := .tup ((["first", "second", "third", "fourth"] : List Str).map fun x => .str (q x))
def k_DOWN : T := .tup ((["daughter", "son", "child"] : List Str).map fun x => .str (q x))
def k_MARKS : T := .tup ((["w", "m", "o"] : List Str).map fun x => .str (q x))
def k_TIMES : T := .tup ((["", " once removed", " twice removed"] : List Str).map fun x => .str (q x))
def k_UP : T := .tup ((["mother", "father", "parent"] : List Str).map fun x => .str (q x))
def N_greats : List Str := ["many"]
def c_greats : TTS :=
  (cSeq (cRet (cOp mulT2 (cC (.str (q "great-"))) (cVar 0)))
    cSkip)
def m_greats (p_many : T) : PM Unit T :=
  bd (bd (pu (.str (q "great-"))) fun v1 => bd (pu p_many) fun v2 => ofO (mulT2 emp v1 v2)) fun v3 => pu v3
theorem x_greats (S : Sto) (p_many : T) : XS (fun _ : Unit => S) [some p_many] [] c_greats (m_greats p_many) .rt :=
  (xs_ret (g := fun v => v) (fun _ => rfl) (XE.v (xe_op opv_mulT2 (XE.v xe_c) (XE.v (xe_var rfl)))))
def sp_greats : SpT := spU (u1 m_greats)
theorem len_greats : ∀ ts S Q E, sp_greats ts S Q E → ts.length = 1 := spU_len ar1
theorem vc_greats : VC N_greats sp_greats c_greats := vc_u1 x_greats
def N_line_word : List Str := ["words", "at", "steps"]
def c_line_word : TTS :=
  (cSeq (cIfS (bVal (cOp eqT (cVar 2) (cC (.int 1)))) (cSeq (cRet (cOp ixT (cVar 0) (cVar 1)))
    cSkip) cSkip)
    (cSeq (cRet (cOp addT (cOp addT (cCall sp_greats (cCons (cOp subT (cVar 2) (cC (.int 2))) cNil)) (cC (.str (q "grand")))) (cOp ixT (cVar 0) (cVar 1))))
    cSkip))
def m_line_word (p_words p_at p_steps : T) : PM Unit T :=
  bd (bd (bd (pu p_steps) fun v1 => bd (pu (.int 1)) fun v2 => ofO (eqT emp v1 v2)) tb) fun v3 => if v3 = true then bd (bd (pu p_words) fun v4 => bd (pu p_at) fun v5 => ofO (ixT emp v4 v5)) fun v6 => pu v6 else bd (bd (bd (bd (bd (pu p_steps) fun v7 => bd (pu (.int 2)) fun v8 => ofO (subT emp v7 v8)) fun v9 => lft (m_greats v9)) fun v10 => bd (pu (.str (q "grand"))) fun v11 => ofO (addT emp v10 v11)) fun v14 => bd (bd (pu p_words) fun v12 => bd (pu p_at) fun v13 => ofO (ixT emp v12 v13)) fun v15 => ofO (addT emp v14 v15)) fun v16 => pu v16
theorem x_line_word (S : Sto) (p_words p_at p_steps : T) : XS (fun _ : Unit => S) [some p_words, some p_at, some p_steps] [] c_line_word (m_line_word p_words p_at p_steps) .rt :=
  (xs_ifE (xb_val (xe_op opv_eqT (XE.v (xe_var rfl)) (XE.v xe_c))) (xs_assoc (xs_ret (g := fun v => v) (fun _ => rfl) (XE.v (xe_op opv_ixT (XE.v (xe_var rfl)) (XE.v (xe_var rfl)))))) (xs_skipseq (xs_ret (g := fun v => v) (fun _ => rfl) (XE.v (xe_op opv_addT (XE.v (xe_op opv_addT (XE.v (xe_call (xa_cons (xe_op opv_subT (XE.v (xe_var rfl)) (XE.v xe_c)) xa_nil))) (XE.v xe_c))) (XE.v (xe_op opv_ixT (XE.v (xe_var rfl)) (XE.v (xe_var rfl)))))))))
def sp_line_word : SpT := spU (u3 m_line_word)
theorem len_line_word : ∀ ts S Q E, sp_line_word ts S Q E → ts.length = 3 := spU_len ar3
theorem vc_line_word : VC N_line_word sp_line_word c_line_word := vc_u3 x_line_word
def N_cousin_word : List Str := ["m", "n", "degree", "ahead", "far", "behind"]
def c_cousin_word : TTS :=
  (cSeq (cSet 2 (cOp subT (cFn min2F (cCons (cVar 0) (cCons (cVar 1) cNil))) (cC (.int 1))))
    (cSeq (cSet 3 (cOp addT (cFn strF (cCons (cVar 2) cNil)) (cC (.str (q "th")))))
    (cSeq (cIfS (bVal (cOp leT (cVar 2) (cFn lenF (cCons (cC k_DEGREES) cNil)))) (cSeq (cSet 3 (cOp ixT (cC k_DEGREES) (cOp subT (cVar 2) (cC (.int 1)))))
    cSkip) cSkip)
    (cSeq (cSet 4 (cFn absF (cCons (cOp subT (cVar 0) (cVar 1)) cNil)))
    (cSeq (cSet 5 (cOp addT (cOp addT (cC (.str (q " "))) (cFn strF (cCons (cVar 4) cNil))) (cC (.str (q " times removed")))))
    (cSeq (cIfS (bVal (cOp ltT (cVar 4) (cFn lenF (cCons (cC k_TIMES) cNil)))) (cSeq (cSet 5 (cOp ixT (cC k_TIMES) (cVar 4)))
    cSkip) cSkip)
    (cSeq (cRet (cOp addT (cOp addT (cVar 3) (cC (.str (q " cousin")))) (cVar 5)))
    cSkip)))))))
def m_cousin_word (p_m p_n : T) : PM Unit T :=
  bd (bd (bd (pu p_m) fun v1 => bd (pu p_n) fun v2 => ofO (min2F emp [v1, v2])) fun v3 => bd (pu (.int 1)) fun v4 => ofO (subT emp v3 v4)) fun v5 => bd (bd (bd (pu v5) fun v7 => ofO (strF emp [v7])) fun v8 => bd (pu (.str (q "th"))) fun v9 => ofO (addT emp v8 v9)) fun v10 => bd (bd (bd (bd (pu v5) fun v13 => bd (bd (pu k_DEGREES) fun v12 => ofO (lenF emp [v12])) fun v14 => ofO (leT emp v13 v14)) tb) fun v15 => if v15 = true then (bd (bd (pu k_DEGREES) fun v19 => bd (bd (pu v5) fun v17 => bd (pu (.int 1)) fun v18 => ofO (subT emp v17 v18)) fun v20 => ofO (ixT emp v19 v20)) fun v21 => pu v21 : PM _ (T)) else pu v10) fun s16 => bd (bd (bd (pu p_m) fun v23 => bd (pu p_n) fun v24 => ofO (subT emp v23 v24)) fun v25 => ofO (absF emp [v25])) fun v26 => bd (bd (bd (pu (.str (q " "))) fun v29 => bd (bd (pu v26) fun v28 => ofO (strF emp [v28])) fun v30 => ofO (addT emp v29 v30)) fun v31 => bd (pu (.str (q " times removed"))) fun v32 => ofO (addT emp v31 v32)) fun v33 => bd (bd (bd (bd (pu v26) fun v36 => bd (bd (pu k_TIMES) fun v35 => ofO (lenF emp [v35])) fun v37 => ofO (ltT emp v36 v37)) tb) fun v38 => if v38 = true then (bd (bd (pu k_TIMES) fun v40 => bd (pu v26) fun v41 => ofO (ixT emp v40 v41)) fun v42 => pu v42 : PM _ (T)) else pu v33) fun s39 => bd (bd (bd (pu s16) fun v44 => bd (pu (.str (q " cousin"))) fun v45 => ofO (addT emp v44 v45)) fun v46 => bd (pu s39) fun v47 => ofO (addT emp v46 v47)) fun v48 => pu v48
theorem x_cousin_word (S : Sto) (p_m p_n : T) : XS (fun _ : Unit => S) [some p_m, some p_n, none, none, none, none] [] c_cousin_word (m_cousin_word p_m p_n) .rt :=
  (xs_set (xe_op opv_subT (XE.v (xe_fnx fnx_min2F (xa_cons (xe_var rfl) (xa_cons (xe_var rfl) xa_nil)))) (XE.v xe_c)) fun v5 => (xs_set (xe_op opv_addT (XE.v (xe_fnx fnx_strF (xa_cons (xe_var rfl) xa_nil))) (XE.v xe_c)) fun v10 => (xs_seq (σ := T) (P := fun s16 => [some p_m, some p_n, some v5, some s16, none, none]) (C := fun s16 => []) (xs_if (xb_val (xe_opx opx_leT (xe_var rfl) (xe_fn fnv_lenF (xav_cons (XE.v xe_c) xav_nil)))) (xs_set (xe_op opv_ixT (XE.v xe_c) (XE.v (xe_op opv_subT (XE.v (xe_var rfl)) (XE.v xe_c)))) fun v21 => (xs_skip rfl ⟨.inr rfl, .inr rfl, .inr rfl, .inr rfl, .inl rfl, .inl rfl, trivial⟩)) (xs_skip rfl ⟨.inr rfl, .inr rfl, .inr rfl, .inr rfl, .inl rfl, .inl rfl, trivial⟩)) fun s16 => (xs_set (xe_fnx fnx_absF (xa_cons (xe_op opv_subT (XE.v (xe_var rfl)) (XE.v (xe_var rfl))) xa_nil)) fun v26 => (xs_set (xe_op opv_addT (XE.v (xe_op opv_addT (XE.v xe_c) (XE.v (xe_fnx fnx_strF (xa_cons (xe_var rfl) xa_nil))))) (XE.v xe_c)) fun v33 => (xs_seq (σ := T) (P := fun s39 => [some p_m, some p_n, some v5, some s16, some v26, some s39]) (C := fun s39 => []) (xs_if (xb_val (xe_opx opx_ltT (xe_var rfl) (xe_fn fnv_lenF (xav_cons (XE.v xe_c) xav_nil)))) (xs_set (xe_op opv_ixT (XE.v xe_c) (XE.v (xe_var rfl))) fun v42 => (xs_skip rfl ⟨.inr rfl, .inr rfl, .inr rfl, .inr rfl, .inr rfl, .inr rfl, trivial⟩)) (xs_skip rfl ⟨.inr rfl, .inr rfl, .inr rfl, .inr rfl, .inr rfl, .inr rfl, trivial⟩)) fun s39 => (xs_ret (g := fun v => v) (fun _ => rfl) (XE.v (xe_op opv_addT (XE.v (xe_op opv_addT (XE.v (xe_var rfl)) (XE.v xe_c))) (XE.v (xe_var rfl)))))))))))
def sp_cousin_word : SpT := spU (u2 m_cousin_word)
theorem len_cousin_word : ∀ ts S Q E, sp_cousin_word ts S Q E → ts.length = 2 := spU_len ar2
theorem vc_cousin_word : VC N_cousin_word sp_cousin_word c_cousin_word := vc_u2 x_cousin_word
def N_plain_word : List Str := ["m", "n", "mark", "at"]
def c_plain_word : TTS :=
  (cSeq (cSet 3 (cM isTup tixF (cC k_MARKS) (cCons (cVar 2) cNil)))
    (cSeq (cIfS (bVal (cOp eqT (cVar 0) (cC (.int 0)))) (cSeq (cRet (cCall sp_line_word (cCons (cC k_UP) (cCons (cVar 3) (cCons (cVar 1) cNil)))))
    cSkip) cSkip)
    (cSeq (cIfS (bVal (cOp eqT (cVar 1) (cC (.int 0)))) (cSeq (cRet (cCall sp_line_word (cCons (cC k_DOWN) (cCons (cVar 3) (cCons (cVar 0) cNil)))))
    cSkip) cSkip)
    (cSeq (cIfS (bAnd (bVal (cOp eqT (cVar 0) (cC (.int 1)))) (bVal (cOp eqT (cVar 1) (cC (.int 1))))) (cSeq (cRet (cOp ixT (cC k_BESIDE) (cVar 3)))
    cSkip) cSkip)
    (cSeq (cIfS (bVal (cOp eqT (cVar 0) (cC (.int 1)))) (cSeq (cRet (cOp addT (cCall sp_greats (cCons (cOp subT (cVar 1) (cC (.int 2))) cNil)) (cOp ixT (cC k_ABOVE) (cVar 3))))
    cSkip) cSkip)
    (cSeq (cIfS (bVal (cOp eqT (cVar 1) (cC (.int 1)))) (cSeq (cRet (cOp addT (cCall sp_greats (cCons (cOp subT (cVar 0) (cC (.int 2))) cNil)) (cOp ixT (cC k_BELOW) (cVar 3))))
    cSkip) cSkip)
    (cSeq (cRet (cCall sp_cousin_word (cCons (cVar 0) (cCons (cVar 1) cNil))))
    cSkip)))))))
def m_plain_word (p_m p_n p_mark : T) : PM Unit T :=
  bd (bd (pu k_MARKS) fun v1 => bd (gd (isTup v1 = true)) fun _ => (bd (pu p_mark) fun v2 => ofO (tixF emp v1 [v2]))) fun v3 => bd (bd (bd (pu p_m) fun v5 => bd (pu (.int 0)) fun v6 => ofO (eqT emp v5 v6)) tb) fun v7 => if v7 = true then bd (bd (pu k_UP) fun v8 => bd (pu v3) fun v9 => bd (pu p_n) fun v10 => lft (m_line_word v8 v9 v10)) fun v11 => pu v11 else bd (bd (bd (pu p_n) fun v12 => bd (pu (.int 0)) fun v13 => ofO (eqT emp v12 v13)) tb) fun v14 => if v14 = true then bd (bd (pu k_DOWN) fun v15 => bd (pu v3) fun v16 => bd (pu p_m) fun v17 => lft (m_line_word v15 v16 v17)) fun v18 => pu v18 else bd (bd (bd (bd (pu p_m) fun v21 => bd (pu (.int 1)) fun v22 => ofO (eqT emp v21 v22)) tb) fun v23 => if v23 = true then (bd (bd (pu p_n) fun v19 => bd (pu (.int 1)) fun v20 => ofO (eqT emp v19 v20)) tb) else pu false) fun v24 => if v24 = true then bd (bd (pu k_BESIDE) fun v25 => bd (pu v3) fun v26 => ofO (ixT emp v25 v26)) fun v27 => pu v27 else bd (bd (bd (pu p_m) fun v28 => bd (pu (.int 1)) fun v29 => ofO (eqT emp v28 v29)) tb) fun v30 => if v30 = true then bd (bd (bd (bd (pu p_n) fun v31 => bd (pu (.int 2)) fun v32 => ofO (subT emp v31 v32)) fun v33 => lft (m_greats v33)) fun v36 => bd (bd (pu k_ABOVE) fun v34 => bd (pu v3) fun v35 => ofO (ixT emp v34 v35)) fun v37 => ofO (addT emp v36 v37)) fun v38 => pu v38 else bd (bd (bd (pu p_n) fun v39 => bd (pu (.int 1)) fun v40 => ofO (eqT emp v39 v40)) tb) fun v41 => if v41 = true then bd (bd (bd (bd (pu p_m) fun v42 => bd (pu (.int 2)) fun v43 => ofO (subT emp v42 v43)) fun v44 => lft (m_greats v44)) fun v47 => bd (bd (pu k_BELOW) fun v45 => bd (pu v3) fun v46 => ofO (ixT emp v45 v46)) fun v48 => ofO (addT emp v47 v48)) fun v49 => pu v49 else bd (bd (pu p_m) fun v50 => bd (pu p_n) fun v51 => lft (m_cousin_word v50 v51)) fun v52 => pu v52
theorem x_plain_word (S : Sto) (p_m p_n p_mark : T) : XS (fun _ : Unit => S) [some p_m, some p_n, some p_mark, none] [] c_plain_word (m_plain_word p_m p_n p_mark) .rt :=
  (xs_set (xe_mx mtx_tixF xe_c fun v1 => (xa_cons (xe_var rfl) xa_nil)) fun v3 => (xs_ifE (xb_val (xe_op opv_eqT (XE.v (xe_var rfl)) (XE.v xe_c))) (xs_assoc (xs_ret (g := fun v => v) (fun _ => rfl) (XE.v (xe_call (xa_cons xe_c (xa_cons (xe_var rfl) (xa_cons (xe_var rfl) xa_nil))))))) (xs_skipseq (xs_ifE (xb_val (xe_op opv_eqT (XE.v (xe_var rfl)) (XE.v xe_c))) (xs_assoc (xs_ret (g := fun v => v) (fun _ => rfl) (XE.v (xe_call (xa_cons xe_c (xa_cons (xe_var rfl) (xa_cons (xe_var rfl) xa_nil))))))) (xs_skipseq (xs_ifE (xb_and (xb_val (xe_op opv_eqT (XE.v (xe_var rfl)) (XE.v xe_c))) (xb_val (xe_op opv_eqT (XE.v (xe_var rfl)) (XE.v xe_c)))) (xs_assoc (xs_ret (g := fun v => v) (fun _ => rfl) (XE.v (xe_op opv_ixT (XE.v xe_c) (XE.v (xe_var rfl)))))) (xs_skipseq (xs_ifE (xb_val (xe_op opv_eqT (XE.v (xe_var rfl)) (XE.v xe_c))) (xs_assoc (xs_ret (g := fun v => v) (fun _ => rfl) (XE.v (xe_op opv_addT (XE.v (xe_call (xa_cons (xe_op opv_subT (XE.v (xe_var rfl)) (XE.v xe_c)) xa_nil))) (XE.v (xe_op opv_ixT (XE.v xe_c) (XE.v (xe_var rfl)))))))) (xs_skipseq (xs_ifE (xb_val (xe_op opv_eqT (XE.v (xe_var rfl)) (XE.v xe_c))) (xs_assoc (xs_ret (g := fun v => v) (fun _ => rfl) (XE.v (xe_op opv_addT (XE.v (xe_call (xa_cons (xe_op opv_subT (XE.v (xe_var rfl)) (XE.v xe_c)) xa_nil))) (XE.v (xe_op opv_ixT (XE.v xe_c) (XE.v (xe_var rfl)))))))) (xs_skipseq (xs_ret (g := fun v => v) (fun _ => rfl) (XE.v (xe_call (xa_cons (xe_var rfl) (xa_cons (xe_var rfl) xa_nil))))))))))))))))
def sp_plain_word : SpT := spU (u3 m_plain_word)
theorem len_plain_word : ∀ ts S Q E, sp_plain_word ts S Q E → ts.length = 3 := spU_len ar3
theorem vc_plain_word : VC N_plain_word sp_plain_word c_plain_word := vc_u3 x_plain_word
def N_word_ahead : List Str := ["tie"]
def c_word_ahead : TTS :=
  (cSeq (cRet (cOp ixT (cLst (cCons (cC (.str (q "adoptive "))) (cCons (cC (.str (q ""))) cNil))) (cFn intF (cCons (cOp eqT (cOp ixT (cVar 0) (cC (.int 3))) (cC (.str (q "birth")))) cNil))))
    cSkip)
def m_word_ahead (p_tie : T) : PM Unit T :=
  bd (bd (bd (pu (.str (q "adoptive "))) fun v1 => bd (pu (.str (q ""))) fun v2 => pu (.lst [v1, v2])) fun v8 => bd (bd (bd (bd (pu p_tie) fun v3 => bd (pu (.int 3)) fun v4 => ofO (ixT emp v3 v4)) fun v5 => bd (pu (.str (q "birth"))) fun v6 => ofO (eqT emp v5 v6)) fun v7 => ofO (intF emp [v7])) fun v9 => ofO (ixT emp v8 v9)) fun v10 => pu v10
theorem x_word_ahead (S : Sto) (p_tie : T) : XS (fun _ : Unit => S) [some p_tie] [] c_word_ahead (m_word_ahead p_tie) .rt :=
  (xs_ret (g := fun v => v) (fun _ => rfl) (XE.v (xe_op opv_ixT (XE.v (xe_lst (xa_cons xe_c (xa_cons xe_c xa_nil)))) (XE.v (xe_fnx fnx_intF (xa_cons (xe_op opv_eqT (XE.v (xe_op opv_ixT (XE.v (xe_var rfl)) (XE.v xe_c))) (XE.v xe_c)) xa_nil))))))
def sp_word_ahead : SpT := spU (u1 m_word_ahead)
theorem len_word_ahead : ∀ ts S Q E, sp_word_ahead ts S Q E → ts.length = 1 := spU_len ar1
theorem vc_word_ahead : VC N_word_ahead sp_word_ahead c_word_ahead := vc_u1 x_word_ahead
def N_half_word : List Str := ["tie", "mark"]
def c_half_word : TTS :=
  (cSeq (cRet (cOp addT (cOp ixT (cLst (cCons (cC (.str (q ""))) (cCons (cC (.str (q "half-"))) cNil))) (cOp ixT (cVar 0) (cC (.int 2)))) (cCall sp_plain_word (cCons (cOp ixT (cVar 0) (cC (.int 0))) (cCons (cOp ixT (cVar 0) (cC (.int 1))) (cCons (cVar 1) cNil))))))
    cSkip)
def m_half_word (p_tie p_mark : T) : PM Unit T :=
  bd (bd (bd (bd (pu (.str (q ""))) fun v1 => bd (pu (.str (q "half-"))) fun v2 => pu (.lst [v1, v2])) fun v5 => bd (bd (pu p_tie) fun v3 => bd (pu (.int 2)) fun v4 => ofO (ixT emp v3 v4)) fun v6 => ofO (ixT emp v5 v6)) fun v14 => bd (bd (bd (pu p_tie) fun v7 => bd (pu (.int 0)) fun v8 => ofO (ixT emp v7 v8)) fun v11 => bd (bd (pu p_tie) fun v9 => bd (pu (.int 1)) fun v10 => ofO (ixT emp v9 v10)) fun v12 => bd (pu p_mark) fun v13 => lft (m_plain_word v11 v12 v13)) fun v15 => ofO (addT emp v14 v15)) fun v16 => pu v16
theorem x_half_word (S : Sto) (p_tie p_mark : T) : XS (fun _ : Unit => S) [some p_tie, some p_mark] [] c_half_word (m_half_word p_tie p_mark) .rt :=
  (xs_ret (g := fun v => v) (fun _ => rfl) (XE.v (xe_op opv_addT (XE.v (xe_op opv_ixT (XE.v (xe_lst (xa_cons xe_c (xa_cons xe_c xa_nil)))) (XE.v (xe_op opv_ixT (XE.v (xe_var rfl)) (XE.v xe_c))))) (XE.v (xe_call (xa_cons (xe_op opv_ixT (XE.v (xe_var rfl)) (XE.v xe_c)) (xa_cons (xe_op opv_ixT (XE.v (xe_var rfl)) (XE.v xe_c)) (xa_cons (xe_var rfl) xa_nil))))))))
def sp_half_word : SpT := spU (u2 m_half_word)
theorem len_half_word : ∀ ts S Q E, sp_half_word ts S Q E → ts.length = 2 := spU_len ar2
theorem vc_half_word : VC N_half_word sp_half_word c_half_word := vc_u2 x_half_word
def N_word_of : List Str := ["tie", "mark"]
def c_word_of : TTS :=
  (cSeq (cRet (cOp addT (cCall sp_word_ahead (cCons (cVar 0) cNil)) (cCall sp_half_word (cCons (cVar 0) (cCons (cVar 1) cNil)))))
    cSkip)
def m_word_of (p_tie p_mark : T) : PM Unit T :=
  bd (bd (bd (pu p_tie) fun v1 => lft (m_word_ahead v1)) fun v4 => bd (bd (pu p_tie) fun v2 => bd (pu p_mark) fun v3 => lft (m_half_word v2 v3)) fun v5 => ofO (addT emp v4 v5)) fun v6 => pu v6
theorem x_word_of (S : Sto) (p_tie p_mark : T) : XS (fun _ : Unit => S) [some p_tie, some p_mark] [] c_word_of (m_word_of p_tie p_mark) .rt :=
  (xs_ret (g := fun v => v) (fun _ => rfl) (XE.v (xe_op opv_addT (XE.v (xe_call (xa_cons (xe_var rfl) xa_nil))) (XE.v (xe_call (xa_cons (xe_var rfl) (xa_cons (xe_var rfl) xa_nil)))))))
def sp_word_of : SpT := spU (u2 m_word_of)
theorem len_word_of : ∀ ts S Q E, sp_word_of ts S Q E → ts.length = 2 := spU_len ar2
theorem vc_word_of : VC N_word_of sp_word_of c_word_of := vc_u2 x_word_of
def N_law_pen_of : List Str := ["_law_script", "_law_cell"]
def c_law_pen_of : TTS :=
  (cSeq (cRet (cLstM (cCons (cComp (iSeq (cSl (cVar 0) oNo (oSome (cC (.int 63))))) (gN 1) bYes (cVar 1) [1]) (cCons (cC (.int 0)) (cCons (cC (.int 0)) cNil)))))
    cSkip)
abbrev sp_law_pen_of : SpT := sp_pen_of
theorem len_law_pen_of : ∀ ts S Q E, sp_law_pen_of ts S Q E → ts.length = 1 := fun ts S Q E h => by obtain ⟨_, rfl, _⟩ := h; rfl
theorem vc_law_pen_of : VC N_law_pen_of sp_law_pen_of c_law_pen_of := by
  rintro ts S Q E ⟨a, rfl, ns, rfl, hq⟩
  simp only [c_law_pen_of, N_law_pen_of, cSeq, cSkip, cRet, cRetN, cSet, cAsg, cDo, cIfS, cPar2, cPar3, cBrk, cCont, cVar, cC, cOp, cUn, cIf, cNil, cCons, cTup, cLst, cLstM, bVal, bAnd, bOr, bNot, bYes, cAnd, cOr, cNot, cCall, cFn, cM, cSl, oNo, oSome, cChain, gN, gT, gL, gZ, gC, gIx, cApp, cExt, cPop, cClr, TL.startT, List.map_cons, List.map_nil, List.cons_append, List.nil_append, List.length_cons, List.length_nil, List.replicate_succ, List.replicate_zero, List.set_cons_zero, List.set_cons_succ, List.getElem?_cons_zero, List.getElem?_cons_succ, Option.some.injEq, Option.map_some, exists_eq_left', exists_eq_left, T.bl.injEq, T.int.injEq, T.str.injEq, T.tup.injEq, T.lst.injEq, T.ref.injEq, List.cons.injEq, and_true, true_and, res, wipeT, sp1_at, sp2_at, sp3_at, sp4_at, sp5_at, Nat.reduceAdd, Nat.reduceSub, if_true, if_false, Bool.false_eq_true, Bool.true_eq_false, cComp, iSeq, slT_scr, items]
  have hl : (cutT ns none (some 63)).length ≤ 63 := by
    have h1 := cut_le ns none 63 (by omega)
    omega
  have hs := sizeLine_eq
  refine compT_map id trivial (by rw [List.length_map]; omega) ?_ ?_
  · rw [List.map_id]
    refine ⟨by omega, fun p hp => Fin.of (hq p _ hp ⟨_, 0, 0, rfl, by omega, by omega, by omega, hl⟩)⟩
  · intro x hx R N h
    simpa only [cSeq, cSkip, cRet, cRetN, cSet, cAsg, cDo, cIfS, cPar2, cPar3, cBrk, cCont, cVar, cC, cOp, cUn, cIf, cNil, cCons, cTup, cLst, cLstM, bVal, bAnd, bOr, bNot, bYes, cAnd, cOr, cNot, cCall, cFn, cM, cSl, oNo, oSome, cChain, gN, gT, gL, gZ, gC, gIx, cApp, cExt, cPop, cClr, TL.startT, List.map_cons, List.map_nil, List.cons_append, List.nil_append, List.length_cons, List.length_nil, List.replicate_succ, List.replicate_zero, List.set_cons_zero, List.set_cons_succ, List.getElem?_cons_zero, List.getElem?_cons_succ, Option.some.injEq, Option.map_some, exists_eq_left', exists_eq_left, T.bl.injEq, T.int.injEq, T.str.injEq, T.tup.injEq, T.lst.injEq, T.ref.injEq, List.cons.injEq, and_true, true_and, res, wipeT, sp1_at, sp2_at, sp3_at, sp4_at, sp5_at, Nat.reduceAdd, Nat.reduceSub, if_true, if_false, Bool.false_eq_true, Bool.true_eq_false, wipeT, id] using h
def N_law_draw : List Str := ["_law_pen", "_law_many", "_law_digit", "_law_at", "_law_cell", "_law_number"]
def c_law_draw : TTS :=
  (cSeq (cIfS (bVal (cOp gtT (cOp ixT (cVar 0) (cC (.int 2))) (cC (.int 0)))) (cSeq (cSet 2 (cOp modT (cOp ixT (cVar 0) (cC (.int 2))) (cVar 1)))
    (cSeq (cAsg (cOp fdivT (cOp ixT (cVar 0) (cC (.int 2))) (cVar 1)) (gIx (cVar 0) (cC (.int 2))))
    (cSeq (cRet (cVar 2))
    cSkip))) cSkip)
    (cSeq (cSet 3 (cOp ixT (cVar 0) (cC (.int 1))))
    (cSeq (cAsg (cOp addT (cVar 3) (cC (.int 1))) (gIx (cVar 0) (cC (.int 1))))
    (cSeq (cSet 4 (cC (.int 11)))
    (cSeq (cIfS (bVal (cOp gtT (cFn lenF (cCons (cOp ixT (cVar 0) (cC (.int 0))) cNil)) (cC (.int 0)))) (cSeq (cSet 4 (cOp ixT (cOp ixT (cVar 0) (cC (.int 0))) (cOp modT (cVar 3) (cFn lenF (cCons (cOp ixT (cVar 0) (cC (.int 0))) cNil)))))
    cSkip) cSkip)
    (cSeq (cIfS (bAnd (bVal (cOp ltT (cVar 3) (cFn lenF (cCons (cOp ixT (cVar 0) (cC (.int 0))) cNil)))) (bVal (cOp geT (cFn absF (cCons (cVar 4) cNil)) (cOp powT (cC (.int 10)) (cC (.int 18)))))) (cSeq (cAsg (cOp fdivT (cFn absF (cCons (cVar 4) cNil)) (cVar 1)) (gIx (cVar 0) (cC (.int 2))))
    (cSeq (cRet (cOp modT (cFn absF (cCons (cVar 4) cNil)) (cVar 1)))
    cSkip)) cSkip)
    (cSeq (cSet 5 (cOp modT (cOp mulT2 (cOp addT (cOp addT (cOp modT (cVar 4) (cC (.int 2147483647))) (cOp mulT2 (cC (.int 69621)) (cVar 3))) (cC (.int 13))) (cC (.int 48271))) (cC (.int 2147483629))))
    (cSeq (cSet 5 (cOp modT (cOp mulT2 (cOp modT (cOp mulT2 (cVar 5) (cVar 5)) (cC (.int 2147483587))) (cOp addT (cOp addT (cOp modT (cVar 5) (cC (.int 65521))) (cOp mulT2 (cC (.int 7)) (cVar 3))) (cC (.int 1)))) (cC (.int 2147483563))))
    (cSeq (cRet (cOp modT (cOp fdivT (cVar 5) (cC (.int 32))) (cVar 1)))
    cSkip)))))))))
abbrev m_law_draw (t : T) : PM Cell T := m_draw t
def sp_law_draw : SpT := spP (u1 m_draw)
theorem len_law_draw : ∀ ts S Q E, sp_law_draw ts S Q E → ts.length = 2 := spP_len ar1
theorem vc_law_draw : VC N_law_draw sp_law_draw c_law_draw := by
  rintro ts S Q E ⟨p, rs, c, rfl, h4, h⟩
  have hr : ∃ t, rs = [t] := by
    have := ar1 (f := m_draw) rs c (sat_nb h)
    match rs, this with
    | [t], _ => exact ⟨t, rfl⟩
  obtain ⟨t, rfl⟩ := hr
  obtain ⟨ns, at_, rest, many, rfl, rfl, ⟨h1, h2, a1, a2, a3, a4⟩, hq⟩ := sat_draw h
  clear h
  unfold penCell at h4
  simp only [c_law_draw, N_law_draw, cSeq, cSkip, cRet, cRetN, cSet, cAsg, cDo, cIfS, cPar2, cPar3, cBrk, cCont, cVar, cC, cOp, cUn, cIf, cNil, cCons, cTup, cLst, cLstM, bVal, bAnd, bOr, bNot, bYes, cAnd, cOr, cNot, cCall, cFn, cM, cSl, oNo, oSome, cChain, gN, gT, gL, gZ, gC, gIx, cApp, cExt, cPop, cClr, TL.startT, List.map_cons, List.map_nil, List.cons_append, List.nil_append, List.length_cons, List.length_nil, List.replicate_succ, List.replicate_zero, List.set_cons_zero, List.set_cons_succ, List.getElem?_cons_zero, List.getElem?_cons_succ, Option.some.injEq, Option.map_some, exists_eq_left', exists_eq_left, T.bl.injEq, T.int.injEq, T.str.injEq, T.tup.injEq, T.lst.injEq, T.ref.injEq, List.cons.injEq, and_true, true_and, res, wipeT, sp1_at, sp2_at, sp3_at, sp4_at, sp5_at, Nat.reduceAdd, Nat.reduceSub, if_true, if_false, Bool.false_eq_true, Bool.true_eq_false, ex_ite, addT_int, addT_str, addT_lst, addT_tup, subT_int, mulT2_int, mulT2_str, fdivT_int, modT_int, powT_int, negT_int, eqT_int, neT_int, eqT_str, neT_str, eqT_bl, neT_bl, ltT_int, gtT_int, leT_int, geT_int, ixT_lst, ixT_tup, ixT_str, atI_0, atI_1, atI_2, atI_3, ixT_ups, lenF_ups, ixN_30, ixN_31, ixN_32, lenF_lst, lenF_tup, lenF_str, absF_int, intF_int, intF_bl, max2F_int, min2F_int, strF_int, isi_str, isi_int, isi_tup, isi_lst, slT_lst, slT_tup, slT_str, slT_scr, ssetT_lst, ssetT_tup, slenT_lst, slenT_tup, sortedF_lst, sortedF_tup, tupleF_lst, tupleF_tup, listF_lst, listF_tup, inT_strs, ninT_strs, ups_ups, ups_same, decide_eq_true_eq, Cell.lst.injEq, Option.map_eq_some_iff, exists_and_left, exists_const, Bool.not_eq_true', ixT_ref h4, h4]
  have a2 : at_ ≤ 1000000000000000000000000000000 := a2
  unfold drawStep at hq
  by_cases r : 0 < rest
  · rw [if_pos r] at hq ⊢
    exact ⟨modI_b h1, divI_b h1 (by omega), Fin.of hq⟩
  rw [if_neg r] at hq ⊢
  have m1 : mulI 69621 at_ = true := mulI_b (by omega) (by omega)
  have m2 : mulI 7 at_ = true := mulI_b (by omega) (by omega)
  have m3 : ∀ z : Int, mulI (z.fmod 2147483647 + 69621 * at_ + 13) 48271 = true := fun z => by
    have := fmod_lo (i := z) (j := 2147483647) (by omega)
    have := fmod_hi (i := z) (j := 2147483647) (by omega)
    exact mulI_b (by omega) (by omega)
  have m4 : ∀ z : Int, mulI (z.fmod 2147483629) (z.fmod 2147483629) = true := fun z => by
    have := fmod_lo (i := z) (j := 2147483629) (by omega)
    have := fmod_hi (i := z) (j := 2147483629) (by omega)
    exact mulI_b (by omega) (by omega)
  have m5 : ∀ z y : Int, mulI (z.fmod 2147483587) (y.fmod 65521 + 7 * at_ + 1) = true := fun z y => by
    have := fmod_lo (i := z) (j := 2147483587) (by omega)
    have := fmod_hi (i := z) (j := 2147483587) (by omega)
    have := fmod_lo (i := y) (j := 65521) (by omega)
    have := fmod_hi (i := y) (j := 65521) (by omega)
    exact mulI_b (by omega) (by omega)
  have hp : powI 10 18 = true := by decide
  have e1 : ∀ z : Int, modI z 2147483647 = true := fun z => modI_b (by omega)
  have e2 : ∀ z : Int, modI z 2147483629 = true := fun z => modI_b (by omega)
  have e3 : ∀ z : Int, modI z 2147483587 = true := fun z => modI_b (by omega)
  have e4 : ∀ z : Int, modI z 65521 = true := fun z => modI_b (by omega)
  have e5 : ∀ z : Int, modI z 2147483563 = true := fun z => modI_b (by omega)
  have e6 : ∀ z : Int, modI z many = true := fun z => modI_b h1
  have e7 : ∀ z : Int, divI z many = true := fun z => divI_b h1 (by omega)
  have e8 : ∀ z : Int, divI z 32 = true := fun z => divI_b (by omega) (by omega)
  have ft : (false = true) = False := by simp
  have t18 : (10 : Int) ^ Int.toNat 18 = 10 ^ 18 := rfl
  by_cases l : 0 < ((ns.map T.int).length : Int)
  · rw [if_pos l]
    refine ⟨modI_b l, ?_⟩
    have ll : 0 < ns.length := by rw [List.length_map] at l; omega
    have ez : L2.atI (ns.map T.int) (at_.fmod ((ns.map T.int).length : Int)) = some (.int (cellAt ns at_)) := by
      have lo := fmod_lo (i := at_) l
      have hi := fmod_hi (i := at_) l
      rw [List.length_map] at lo hi ⊢
      unfold cellAt
      rw [if_pos ll, atI_map]
      obtain ⟨k, hk⟩ := Int.eq_ofNat_of_zero_le lo
      rw [hk, atI_natE, Int.toNat_natCast, List.getD_eq_getElem?_getD]
      have : k < ns.length := by omega
      rw [List.getElem?_eq_getElem this]
      rfl
    refine ⟨_, ez, ?_⟩
    simp only [cSeq, cSkip, cRet, cRetN, cSet, cAsg, cDo, cIfS, cPar2, cPar3, cBrk, cCont, cVar, cC, cOp, cUn, cIf, cNil, cCons, cTup, cLst, cLstM, bVal, bAnd, bOr, bNot, bYes, cAnd, cOr, cNot, cCall, cFn, cM, cSl, oNo, oSome, cChain, gN, gT, gL, gZ, gC, gIx, cApp, cExt, cPop, cClr, TL.startT, List.map_cons, List.map_nil, List.cons_append, List.nil_append, List.length_cons, List.length_nil, List.replicate_succ, List.replicate_zero, List.set_cons_zero, List.set_cons_succ, List.getElem?_cons_zero, List.getElem?_cons_succ, Option.some.injEq, Option.map_some, exists_eq_left', exists_eq_left, T.bl.injEq, T.int.injEq, T.str.injEq, T.tup.injEq, T.lst.injEq, T.ref.injEq, List.cons.injEq, and_true, true_and, res, wipeT, sp1_at, sp2_at, sp3_at, sp4_at, sp5_at, Nat.reduceAdd, Nat.reduceSub, if_true, if_false, Bool.false_eq_true, Bool.true_eq_false, ex_ite, addT_int, addT_str, addT_lst, addT_tup, subT_int, mulT2_int, mulT2_str, fdivT_int, modT_int, powT_int, negT_int, eqT_int, neT_int, eqT_str, neT_str, eqT_bl, neT_bl, ltT_int, gtT_int, leT_int, geT_int, ixT_lst, ixT_tup, ixT_str, atI_0, atI_1, atI_2, atI_3, ixT_ups, lenF_ups, ixN_30, ixN_31, ixN_32, lenF_lst, lenF_tup, lenF_str, absF_int, intF_int, intF_bl, max2F_int, min2F_int, strF_int, isi_str, isi_int, isi_tup, isi_lst, slT_lst, slT_tup, slT_str, slT_scr, ssetT_lst, ssetT_tup, slenT_lst, slenT_tup, sortedF_lst, sortedF_tup, tupleF_lst, tupleF_tup, listF_lst, listF_tup, inT_strs, ninT_strs, ups_ups, ups_same, decide_eq_true_eq, Cell.lst.injEq, Option.map_eq_some_iff, exists_and_left, exists_const, Bool.not_eq_true', m1, m2, m3, m4, m5, hp, e1, e2, e3, e4, e5, e6, e7, e8, ft, if_false, t18, List.length_map]
    by_cases b1 : at_ < (ns.length : Int)
    · rw [if_pos b1] at hq ⊢
      by_cases b2 : 10 ^ 18 ≤ absI (cellAt ns at_)
      · rw [if_pos b2] at hq
        have b3 : 10 ^ 18 ≤ (if cellAt ns at_ < 0 then -(cellAt ns at_) else cellAt ns at_) := b2
        rw [if_pos b3]
        exact Fin.of hq
      · rw [if_neg b2] at hq
        have b3 : ¬ 10 ^ 18 ≤ (if cellAt ns at_ < 0 then -(cellAt ns at_) else cellAt ns at_) := b2
        rw [if_neg b3]
        exact Fin.of hq
    · rw [if_neg b1] at hq ⊢
      exact Fin.of hq
  · rw [if_neg l]
    have ll : ¬ 0 < ns.length := by rw [List.length_map] at l; omega
    have b1 : ¬ at_ < (ns.length : Int) := by omega
    have ez : cellAt ns at_ = 11 := by unfold cellAt; rw [if_neg ll]
    rw [if_neg b1, ez] at hq
    simp only [cSeq, cSkip, cRet, cRetN, cSet, cAsg, cDo, cIfS, cPar2, cPar3, cBrk, cCont, cVar, cC, cOp, cUn, cIf, cNil, cCons, cTup, cLst, cLstM, bVal, bAnd, bOr, bNot, bYes, cAnd, cOr, cNot, cCall, cFn, cM, cSl, oNo, oSome, cChain, gN, gT, gL, gZ, gC, gIx, cApp, cExt, cPop, cClr, TL.startT, List.map_cons, List.map_nil, List.cons_append, List.nil_append, List.length_cons, List.length_nil, List.replicate_succ, List.replicate_zero, List.set_cons_zero, List.set_cons_succ, List.getElem?_cons_zero, List.getElem?_cons_succ, Option.some.injEq, Option.map_some, exists_eq_left', exists_eq_left, T.bl.injEq, T.int.injEq, T.str.injEq, T.tup.injEq, T.lst.injEq, T.ref.injEq, List.cons.injEq, and_true, true_and, res, wipeT, sp1_at, sp2_at, sp3_at, sp4_at, sp5_at, Nat.reduceAdd, Nat.reduceSub, if_true, if_false, Bool.false_eq_true, Bool.true_eq_false, ex_ite, addT_int, addT_str, addT_lst, addT_tup, subT_int, mulT2_int, mulT2_str, fdivT_int, modT_int, powT_int, negT_int, eqT_int, neT_int, eqT_str, neT_str, eqT_bl, neT_bl, ltT_int, gtT_int, leT_int, geT_int, ixT_lst, ixT_tup, ixT_str, atI_0, atI_1, atI_2, atI_3, ixT_ups, lenF_ups, ixN_30, ixN_31, ixN_32, lenF_lst, lenF_tup, lenF_str, absF_int, intF_int, intF_bl, max2F_int, min2F_int, strF_int, isi_str, isi_int, isi_tup, isi_lst, slT_lst, slT_tup, slT_str, slT_scr, ssetT_lst, ssetT_tup, slenT_lst, slenT_tup, sortedF_lst, sortedF_tup, tupleF_lst, tupleF_tup, listF_lst, listF_tup, inT_strs, ninT_strs, ups_ups, ups_same, decide_eq_true_eq, Cell.lst.injEq, Option.map_eq_some_iff, exists_and_left, exists_const, Bool.not_eq_true', m1, m2, m3, m4, m5, hp, e1, e2, e3, e4, e5, e6, e7, e8, ft, if_false, t18, List.length_map]
    rw [if_neg b1]
    exact Fin.of hq
def N_law_read_line : List Str := ["_law_word", "_law_steps"]
def c_law_read_line : TTS :=
  (cSeq (cSet 1 (cC (.int 1)))
    (cSeq (cIfS (bOr (bVal (cM isStr stwF (cVar 0) (cCons (cC (.str (q "great-"))) cNil))) (bVal (cM isStr stwF (cVar 0) (cCons (cC (.str (q "grand"))) cNil)))) (cSeq (cSet 1 (cOp addT (cC (.int 2)) (cM isStr cntF (cVar 0) (cCons (cC (.str (q "great-"))) cNil))))
    cSkip) cSkip)
    (cSeq (cRet (cTup (cCons (cVar 1) (cCons (cUn (rplT (q "grand") (q "")) (cOp ixT (cM isStr splitF (cVar 0) (cCons (cC (.str (q "-"))) cNil)) (cUn negT (cC (.int 1))))) cNil))))
    cSkip)))
def m_law_read_line (p_word : T) : PM Unit T :=
  bd (pu (.int 1)) fun v1 => bd (bd (bd (bd (bd (pu p_word) fun v5 => bd (gd (isStr v5 = true)) fun _ => (bd (pu (.str (q "great-"))) fun v6 => ofO (stwF emp v5 [v6]))) tb) fun v7 => if v7 = true then pu true else (bd (bd (pu p_word) fun v3 => bd (gd (isStr v3 = true)) fun _ => (bd (pu (.str (q "grand"))) fun v4 => ofO (stwF emp v3 [v4]))) tb)) fun v8 => if v8 = true then (bd (bd (pu (.int 2)) fun v12 => bd (bd (pu p_word) fun v10 => bd (gd (isStr v10 = true)) fun _ => (bd (pu (.str (q "great-"))) fun v11 => ofO (cntF emp v10 [v11]))) fun v13 => ofO (addT emp v12 v13)) fun v14 => pu v14 : PM _ (T)) else pu v1) fun s9 => bd (bd (pu s9) fun v22 => bd (bd (bd (bd (pu p_word) fun v16 => bd (gd (isStr v16 = true)) fun _ => (bd (pu (.str (q "-"))) fun v17 => ofO (splitF emp v16 [v17]))) fun v19 => bd (bd (pu (.int 1)) fun v18 => ofO (negT emp v18)) fun v20 => ofO (ixT emp v19 v20)) fun v21 => ofO (rplT (q "grand") (q "") emp v21)) fun v23 => pu (.tup [v22, v23])) fun v24 => pu v24
theorem x_law_read_line (S : Sto) (p_word : T) : XS (fun _ : Unit => S) [some p_word, none] [] c_law_read_line (m_law_read_line p_word) .rt :=
  (xs_set xe_c fun v1 => (xs_seq (σ := T) (P := fun s9 => [some p_word, some s9]) (C := fun s9 => []) (xs_if (xb_or (xb_val (xe_mx mtx_stwF (xe_var rfl) fun v5 => (xa_cons xe_c xa_nil))) (xb_val (xe_mx mtx_stwF (xe_var rfl) fun v3 => (xa_cons xe_c xa_nil)))) (xs_set (xe_op opv_addT (XE.v xe_c) (XE.v (xe_mx mtx_cntF (xe_var rfl) fun v10 => (xa_cons xe_c xa_nil)))) fun v14 => (xs_skip rfl ⟨.inr rfl, .inr rfl, trivial⟩)) (xs_skip rfl ⟨.inr rfl, .inr rfl, trivial⟩)) fun s9 => (xs_ret (g := fun v => v) (fun _ => rfl) (XE.v (xe_tup (xa_cons (xe_var rfl) (xa_cons (xe_un unv_rplT (XE.v (xe_op opv_ixT (XE.v (xe_mx mtx_splitF (xe_var rfl) fun v16 => (xa_cons xe_c xa_nil))) (XE.v (xe_un unv_negT (XE.v xe_c)))))) xa_nil)))))))
def sp_law_read_line : SpT := spU (u1 m_law_read_line)
theorem len_law_read_line : ∀ ts S Q E, sp_law_read_line ts S Q E → ts.length = 1 := spU_len ar1
theorem vc_law_read_line : VC N_law_read_line sp_law_read_line c_law_read_line := vc_u1 x_law_read_line
def N_law_read_cousin : List Str := ["_law_word", "_law_ahead", "_law_cousin", "_law_behind", "_law_degree", "_law_far"]
def c_law_read_cousin : TTS :=
  (cSeq (cAsg (cM isStr partF (cVar 0) (cCons (cC (.str (q " cousin"))) cNil)) (gT (gC (gN 1) (gC (gN 2) (gC (gN 3) gZ)))))
    (cSeq (cSet 4 (cGet1 (cDispI [(q "first", 1), (q "second", 2), (q "third", 3), (q "fourth", 4)]) (cVar 1)))
    (cSeq (cIfS (bVal (cOp isT (cVar 4) (cC .non))) (cSeq (cSet 4 (cFn itxF (cCons (cSl (cVar 1) oNo (oSome (cUn negT (cC (.int 2))))) cNil)))
    cSkip) cSkip)
    (cSeq (cSet 5 (cGet1 (cDispI [(q "", 0), (q " once removed", 1), (q " twice removed", 2)]) (cVar 3)))
    (cSeq (cIfS (bVal (cOp isT (cVar 5) (cC .non))) (cSeq (cSet 5 (cFn itxF (cCons (cOp ixT (cM isStr splitF (cVar 3) (cCons (cC (.str (q " "))) cNil)) (cC (.int 1))) cNil)))
    cSkip) cSkip)
    (cSeq (cRet (cTup (cCons (cOp addT (cVar 4) (cC (.int 1))) (cCons (cOp addT (cOp addT (cVar 4) (cC (.int 1))) (cVar 5)) cNil))))
    cSkip))))))
def m_law_read_cousin (p_word : T) : PM Unit T :=
  bd (bd (pu p_word) fun v1 => bd (gd (isStr v1 = true)) fun _ => (bd (pu (.str (q " cousin"))) fun v2 => ofO (partF emp v1 [v2]))) fun v3 => bd (ofO (un3 v3)) fun b4 => bd (bd (pu (.dct false ([(q "first", 1), (q "second", 2), (q "third", 3), (q "fourth", 4)].map fun p => .str p.1) ([(q "first", 1), (q "second", 2), (q "third", 3), (q "fourth", 4)].map fun p => .int p.2))) fun v5 => bd (gd ((dView emp v5).isSome = true)) fun _ => bd (pu b4.1) fun v6 => ofO (dg2T emp v5 v6 .non)) fun v7 => bd (bd (bd (bd (pu v7) fun v9 => bd (pu .non) fun v10 => ofO (isT emp v9 v10)) tb) fun v11 => if v11 = true then (bd (bd (bd (pu b4.1) fun v16 => bd (pu none) fun v17 => bd (bd (bd (pu (.int 2)) fun v13 => ofO (negT emp v13)) fun v14 => bd (intO v14) fun v15 => pu (some v15)) fun v18 => ofO (slT emp v16 v17 v18)) fun v19 => ofO (itxF emp [v19])) fun v20 => pu v20 : PM _ (T)) else pu v7) fun s12 => bd (bd (pu (.dct false ([(q "", 0), (q " once removed", 1), (q " twice removed", 2)].map fun p => .str p.1) ([(q "", 0), (q " once removed", 1), (q " twice removed", 2)].map fun p => .int p.2))) fun v22 => bd (gd ((dView emp v22).isSome = true)) fun _ => bd (pu b4.2.2) fun v23 => ofO (dg2T emp v22 v23 .non)) fun v24 => bd (bd (bd (bd (pu v24) fun v26 => bd (pu .non) fun v27 => ofO (isT emp v26 v27)) tb) fun v28 => if v28 = true then (bd (bd (bd (bd (pu b4.2.2) fun v30 => bd (gd (isStr v30 = true)) fun _ => (bd (pu (.str (q " "))) fun v31 => ofO (splitF emp v30 [v31]))) fun v32 => bd (pu (.int 1)) fun v33 => ofO (ixT emp v32 v33)) fun v34 => ofO (itxF emp [v34])) fun v35 => pu v35 : PM _ (T)) else pu v24) fun s29 => bd (bd (bd (pu s12) fun v37 => bd (pu (.int 1)) fun v38 => ofO (addT emp v37 v38)) fun v43 => bd (bd (bd (pu s12) fun v39 => bd (pu (.int 1)) fun v40 => ofO (addT emp v39 v40)) fun v41 => bd (pu s29) fun v42 => ofO (addT emp v41 v42)) fun v44 => pu (.tup [v43, v44])) fun v45 => pu v45
theorem x_law_read_cousin (S : Sto) (p_word : T) : XS (fun _ : Unit => S) [some p_word, none, none, none, none, none] [] c_law_read_cousin (m_law_read_cousin p_word) .rt :=
  (xs_asg (xe_mx mtx_partF (xe_var rfl) fun v1 => (xa_cons xe_c xa_nil)) xg_3 fun b4 => (xs_set (xe_get1 (XE.v xe_dispI) (xe_var rfl)) fun v7 => (xs_seq (σ := T) (P := fun s12 => [some p_word, some b4.1, some b4.2.1, some b4.2.2, some s12, none]) (C := fun s12 => []) (xs_if (xb_val (xe_opx opx_isT (xe_var rfl) xe_c)) (xs_set (xe_fnx fnx_itxF (xa_cons (xe_sl (XE.v (xe_var rfl)) xo_no (xo_some (xe_un unv_negT (XE.v xe_c)))) xa_nil)) fun v20 => (xs_skip rfl ⟨.inr rfl, .inr rfl, .inr rfl, .inr rfl, .inr rfl, .inl rfl, trivial⟩)) (xs_skip rfl ⟨.inr rfl, .inr rfl, .inr rfl, .inr rfl, .inr rfl, .inl rfl, trivial⟩)) fun s12 => (xs_set (xe_get1 (XE.v xe_dispI) (xe_var rfl)) fun v24 => (xs_seq (σ := T) (P := fun s29 => [some p_word, some b4.1, some b4.2.1, some b4.2.2, some s12, some s29]) (C := fun s29 => []) (xs_if (xb_val (xe_opx opx_isT (xe_var rfl) xe_c)) (xs_set (xe_fnx fnx_itxF (xa_cons (xe_op opv_ixT (XE.v (xe_mx mtx_splitF (xe_var rfl) fun v30 => (xa_cons xe_c xa_nil))) (XE.v xe_c)) xa_nil)) fun v35 => (xs_skip rfl ⟨.inr rfl, .inr rfl, .inr rfl, .inr rfl, .inr rfl, .inr rfl, trivial⟩)) (xs_skip rfl ⟨.inr rfl, .inr rfl, .inr rfl, .inr rfl, .inr rfl, .inr rfl, trivial⟩)) fun s29 => (xs_ret (g := fun v => v) (fun _ => rfl) (XE.v (xe_tup (xa_cons (xe_op opv_addT (XE.v (xe_var rfl)) (XE.v xe_c)) (xa_cons (xe_op opv_addT (XE.v (xe_op opv_addT (XE.v (xe_var rfl)) (XE.v xe_c))) (XE.v (xe_var rfl))) xa_nil))))))))))
def sp_law_read_cousin : SpT := spU (u1 m_law_read_cousin)
theorem len_law_read_cousin : ∀ ts S Q E, sp_law_read_cousin ts S Q E → ts.length = 1 := spU_len ar1
theorem vc_law_read_cousin : VC N_law_read_cousin sp_law_read_cousin c_law_read_cousin := vc_u1 x_law_read_cousin
def N_law_read_word : List Str := ["_law_word", "_law_by", "_law_half", "_law_steps", "_law_left"]
def c_law_read_word : TTS :=
  (cSeq (cSet 1 (cC (.str (q "birth"))))
    (cSeq (cIfS (bVal (cM isStr stwF (cVar 0) (cCons (cC (.str (q "adoptive "))) cNil))) (cSeq (cPar2 1 0 (cC (.str (q "adoption"))) (cSl (cVar 0) (oSome (cC (.int 9))) oNo))
    cSkip) cSkip)
    (cSeq (cSet 2 (cFn intF (cCons (cM isStr stwF (cVar 0) (cCons (cC (.str (q "half-"))) cNil)) cNil)))
    (cSeq (cSet 0 (cSl (cVar 0) (oSome (cOp mulT2 (cC (.int 5)) (cVar 2))) oNo))
    (cSeq (cIfS (bVal (cOp inS (cC (.str (q " cousin"))) (cVar 0))) (cSeq (cRet (cOp addT (cCall sp_law_read_cousin (cCons (cVar 0) cNil)) (cTup (cCons (cVar 2) (cCons (cVar 1) cNil)))))
    cSkip) cSkip)
    (cSeq (cAsg (cCall sp_law_read_line (cCons (cVar 0) cNil)) (gT (gC (gN 3) (gC (gN 4) gZ))))
    (cSeq (cIfS (bVal (cOp inT (cVar 4) (cTup (cCons (cC (.str (q "mother"))) (cCons (cC (.str (q "father"))) (cCons (cC (.str (q "parent"))) cNil)))))) (cSeq (cRet (cTup (cCons (cC (.int 0)) (cCons (cVar 3) (cCons (cVar 2) (cCons (cVar 1) cNil))))))
    cSkip) cSkip)
    (cSeq (cIfS (bVal (cOp inT (cVar 4) (cTup (cCons (cC (.str (q "daughter"))) (cCons (cC (.str (q "son"))) (cCons (cC (.str (q "child"))) cNil)))))) (cSeq (cRet (cTup (cCons (cVar 3) (cCons (cC (.int 0)) (cCons (cVar 2) (cCons (cVar 1) cNil))))))
    cSkip) cSkip)
    (cSeq (cIfS (bVal (cOp inT (cVar 4) (cTup (cCons (cC (.str (q "sister"))) (cCons (cC (.str (q "brother"))) (cCons (cC (.str (q "sibling"))) cNil)))))) (cSeq (cRet (cTup (cCons (cC (.int 1)) (cCons (cC (.int 1)) (cCons (cVar 2) (cCons (cVar 1) cNil))))))
    cSkip) cSkip)
    (cSeq (cSet 3 (cOp addT (cC (.int 2)) (cM isStr cntF (cVar 0) (cCons (cC (.str (q "great-"))) cNil))))
    (cSeq (cIfS (bVal (cOp inT (cVar 4) (cTup (cCons (cC (.str (q "aunt"))) (cCons (cC (.str (q "uncle"))) (cCons (cC (.str (q "pibling"))) cNil)))))) (cSeq (cRet (cTup (cCons (cC (.int 1)) (cCons (cVar 3) (cCons (cVar 2) (cCons (cVar 1) cNil))))))
    cSkip) cSkip)
    (cSeq (cRet (cTup (cCons (cVar 3) (cCons (cC (.int 1)) (cCons (cVar 2) (cCons (cVar 1) cNil))))))
    cSkip))))))))))))
def m_law_read_word (p_word : T) : PM Unit T :=
  bd (pu (.str (q "birth"))) fun v1 => bd (bd (bd (bd (pu p_word) fun v3 => bd (gd (isStr v3 = true)) fun _ => (bd (pu (.str (q "adoptive "))) fun v4 => ofO (stwF emp v3 [v4]))) tb) fun v5 => if v5 = true then (bd (pu (.str (q "adoption"))) fun v7 => bd (bd (pu p_word) fun v11 => bd (bd (pu (.int 9)) fun v9 => bd (intO v9) fun v10 => pu (some v10)) fun v12 => bd (pu none) fun v13 => ofO (slT emp v11 v12 v13)) fun v14 => pu (v7, v14) : PM _ (T × T)) else pu (v1, p_word)) fun s6 => bd (bd (bd (pu s6.2) fun v16 => bd (gd (isStr v16 = true)) fun _ => (bd (pu (.str (q "half-"))) fun v17 => ofO (stwF emp v16 [v17]))) fun v18 => ofO (intF emp [v18])) fun v19 => bd (bd (pu s6.2) fun v25 => bd (bd (bd (pu (.int 5)) fun v21 => bd (pu v19) fun v22 => ofO (mulT2 emp v21 v22)) fun v23 => bd (intO v23) fun v24 => pu (some v24)) fun v26 => bd (pu none) fun v27 => ofO (slT emp v25 v26 v27)) fun v28 => bd (bd (bd (pu (.str (q " cousin"))) fun v30 => bd (pu v28) fun v31 => ofO (inS emp v30 v31)) tb) fun v32 => if v32 = true then bd (bd (bd (pu v28) fun v33 => lft (m_law_read_cousin v33)) fun v36 => bd (bd (pu v19) fun v34 => bd (pu s6.1) fun v35 => pu (.tup [v34, v35])) fun v37 => ofO (addT emp v36 v37)) fun v38 => pu v38 else bd (bd (pu v28) fun v39 => lft (m_law_read_line v39)) fun v40 => bd (ofO (un2 v40)) fun b41 => bd (bd (bd (pu b41.2) fun v45 => bd (bd (pu (.str (q "mother"))) fun v42 => bd (pu (.str (q "father"))) fun v43 => bd (pu (.str (q "parent"))) fun v44 => pu (.tup [v42, v43, v44])) fun v46 => ofO (inT emp v45 v46)) tb) fun v47 => if v47 = true then bd (bd (pu (.int 0)) fun v48 => bd (pu b41.1) fun v49 => bd (pu v19) fun v50 => bd (pu s6.1) fun v51 => pu (.tup [v48, v49, v50, v51])) fun v52 => pu v52 else bd (bd (bd (pu b41.2) fun v56 => bd (bd (pu (.str (q "daughter"))) fun v53 => bd (pu (.str (q "son"))) fun v54 => bd (pu (.str (q "child"))) fun v55 => pu (.tup [v53, v54, v55])) fun v57 => ofO (inT emp v56 v57)) tb) fun v58 => if v58 = true then bd (bd (pu b41.1) fun v59 => bd (pu (.int 0)) fun v60 => bd (pu v19) fun v61 => bd (pu s6.1) fun v62 => pu (.tup [v59, v60, v61, v62])) fun v63 => pu v63 else bd (bd (bd (pu b41.2) fun v67 => bd (bd (pu (.str (q "sister"))) fun v64 => bd (pu (.str (q "brother"))) fun v65 => bd (pu (.str (q "sibling"))) fun v66 => pu (.tup [v64, v65, v66])) fun v68 => ofO (inT emp v67 v68)) tb) fun v69 => if v69 = true then bd (bd (pu (.int 1)) fun v70 => bd (pu (.int 1)) fun v71 => bd (pu v19) fun v72 => bd (pu s6.1) fun v73 => pu (.tup [v70, v71, v72, v73])) fun v74 => pu v74 else bd (bd (pu (.int 2)) fun v77 => bd (bd (pu v28) fun v75 => bd (gd (isStr v75 = true)) fun _ => (bd (pu (.str (q "great-"))) fun v76 => ofO (cntF emp v75 [v76]))) fun v78 => ofO (addT emp v77 v78)) fun v79 => bd (bd (bd (pu b41.2) fun v84 => bd (bd (pu (.str (q "aunt"))) fun v81 => bd (pu (.str (q "uncle"))) fun v82 => bd (pu (.str (q "pibling"))) fun v83 => pu (.tup [v81, v82, v83])) fun v85 => ofO (inT emp v84 v85)) tb) fun v86 => if v86 = true then bd (bd (pu (.int 1)) fun v87 => bd (pu v79) fun v88 => bd (pu v19) fun v89 => bd (pu s6.1) fun v90 => pu (.tup [v87, v88, v89, v90])) fun v91 => pu v91 else bd (bd (pu v79) fun v92 => bd (pu (.int 1)) fun v93 => bd (pu v19) fun v94 => bd (pu s6.1) fun v95 => pu (.tup [v92, v93, v94, v95])) fun v96 => pu v96
theorem x_law_read_word (S : Sto) (p_word : T) : XS (fun _ : Unit => S) [some p_word, none, none, none, none] [] c_law_read_word (m_law_read_word p_word) .rt :=
  (xs_set xe_c fun v1 => (xs_seq (σ := T × T) (P := fun s6 => [some s6.2, some s6.1, none, none, none]) (C := fun s6 => []) (xs_if (xb_val (xe_mx mtx_stwF (xe_var rfl) fun v3 => (xa_cons xe_c xa_nil))) (xs_par2 (xn_e xe_c) (fun v7 a8 => (xn_e (xe_sl (XE.v (xe_var rfl)) (xo_some xe_c) xo_no))) fun v7 a8 v14 a15 => (xs_skip rfl ⟨.inr rfl, .inr rfl, .inl rfl, .inl rfl, .inl rfl, trivial⟩)) (xs_skip rfl ⟨.inr rfl, .inr rfl, .inl rfl, .inl rfl, .inl rfl, trivial⟩)) fun s6 => (xs_set (xe_fnx fnx_intF (xa_cons (xe_mx mtx_stwF (xe_var rfl) fun v16 => (xa_cons xe_c xa_nil)) xa_nil)) fun v19 => (xs_set (xe_sl (XE.v (xe_var rfl)) (xo_some (xe_op opv_mulT2 (XE.v xe_c) (XE.v (xe_var rfl)))) xo_no) fun v28 => (xs_ifE (xb_val (xe_op opv_inS (XE.v xe_c) (XE.v (xe_var rfl)))) (xs_assoc (xs_ret (g := fun v => v) (fun _ => rfl) (XE.v (xe_op opv_addT (XE.v (xe_call (xa_cons (xe_var rfl) xa_nil))) (XE.v (xe_tup (xa_cons (xe_var rfl) (xa_cons (xe_var rfl) xa_nil)))))))) (xs_skipseq (xs_asg (xe_call (xa_cons (xe_var rfl) xa_nil)) xg_2 fun b41 => (xs_ifE (xb_val (xe_opr opv_inT (xe_var rfl) (XE.v (xe_tup (xa_cons xe_c (xa_cons xe_c (xa_cons xe_c xa_nil))))))) (xs_assoc (xs_ret (g := fun v => v) (fun _ => rfl) (XE.v (xe_tup (xa_cons xe_c (xa_cons (xe_var rfl) (xa_cons (xe_var rfl) (xa_cons (xe_var rfl) xa_nil)))))))) (xs_skipseq (xs_ifE (xb_val (xe_opr opv_inT (xe_var rfl) (XE.v (xe_tup (xa_cons xe_c (xa_cons xe_c (xa_cons xe_c xa_nil))))))) (xs_assoc (xs_ret (g := fun v => v) (fun _ => rfl) (XE.v (xe_tup (xa_cons (xe_var rfl) (xa_cons xe_c (xa_cons (xe_var rfl) (xa_cons (xe_var rfl) xa_nil)))))))) (xs_skipseq (xs_ifE (xb_val (xe_opr opv_inT (xe_var rfl) (XE.v (xe_tup (xa_cons xe_c (xa_cons xe_c (xa_cons xe_c xa_nil))))))) (xs_assoc (xs_ret (g := fun v => v) (fun _ => rfl) (XE.v (xe_tup (xa_cons xe_c (xa_cons xe_c (xa_cons (xe_var rfl) (xa_cons (xe_var rfl) xa_nil)))))))) (xs_skipseq (xs_set (xe_op opv_addT (XE.v xe_c) (XE.v (xe_mx mtx_cntF (xe_var rfl) fun v75 => (xa_cons xe_c xa_nil)))) fun v79 => (xs_ifE (xb_val (xe_opr opv_inT (xe_var rfl) (XE.v (xe_tup (xa_cons xe_c (xa_cons xe_c (xa_cons xe_c xa_nil))))))) (xs_assoc (xs_ret (g := fun v => v) (fun _ => rfl) (XE.v (xe_tup (xa_cons xe_c (xa_cons (xe_var rfl) (xa_cons (xe_var rfl) (xa_cons (xe_var rfl) xa_nil)))))))) (xs_skipseq (xs_ret (g := fun v => v) (fun _ => rfl) (XE.v (xe_tup (xa_cons (xe_var rfl) (xa_cons xe_c (xa_cons (xe_var rfl) (xa_cons (xe_var rfl) xa_nil)))))))))))))))))))))))
def sp_law_read_word : SpT := spU (u1 m_law_read_word)
theorem len_law_read_word : ∀ ts S Q E, sp_law_read_word ts S Q E → ts.length = 1 := spU_len ar1
theorem vc_law_read_word : VC N_law_read_word sp_law_read_word c_law_read_word := vc_u1 x_law_read_word
def N_the_law : List Str := ["_law_script", "_law_pen", "_law_some", "_law_k", "_law_m", "_law_n", "_law_way", "_law_tie", "_law_due", "_law_words", "_law_mark", "_law_word"]
def t_the_law : TTS :=
  (cSeq (cSet 2 (cCompM (iRange2 (cC (.int 1)) (cC (.int 25))) (gN 3) bYes (cTup (cCons (cOp fdivT (cVar 3) (cC (.int 5))) (cCons (cOp modT (cVar 3) (cC (.int 5))) cNil))) [3]))
    (cSeq (cFor (iRange1 (cOp addT (cC (.int 1)) (cCall sp_law_draw (cCons (cVar 1) (cCons (cC (.int 30)) cNil))))) (gN 3) ((cSeq (cDo (cApp (cVar 2) (cTup (cCons (cCall sp_law_draw (cCons (cVar 1) (cCons (cC (.int 41)) cNil))) (cCons (cOp addT (cC (.int 1)) (cCall sp_law_draw (cCons (cVar 1) (cCons (cC (.int 40)) cNil)))) cNil)))))
    cSkip)))
    (cDrop (cSeq (cFor (iSeq (cVar 2)) (gT (gC (gN 4) (gC (gN 5) gZ))) ((cSeq (cFor (iRange1 (cOp addT (cC (.int 2)) (cOp mulT2 (cC (.int 2)) (cFn intF (cCons (cAnd (cOp gtT (cVar 4) (cC (.int 0))) (cOp gtT (cVar 5) (cC (.int 0)))) cNil))))) (gN 6) ((cSeq (cSet 7 (cTup (cCons (cVar 4) (cCons (cVar 5) (cCons (cOp fdivT (cVar 6) (cC (.int 2))) (cCons (cOp ixT (cLst (cCons (cC (.str (q "birth"))) (cCons (cC (.str (q "adoption"))) cNil))) (cOp modT (cVar 6) (cC (.int 2)))) cNil))))))
    (cSeq (cSet 8 (cVar 7))
    (cSeq (cIfS (bAnd (bVal (cOp gtT (cVar 4) (cC (.int 1)))) (bVal (cOp gtT (cVar 5) (cC (.int 1))))) (cSeq (cSet 8 (cOp addT (cTup (cCons (cFn min2F (cCons (cVar 4) (cCons (cVar 5) cNil))) (cCons (cFn max2F (cCons (cVar 4) (cCons (cVar 5) cNil))) cNil))) (cSl (cVar 7) (oSome (cC (.int 2))) oNo)))
    cSkip) cSkip)
    (cSeq (cSet 9 (cComp (iSeq (cC (.str (q "wmo")))) (gN 10) bYes (cCall sp_word_of (cCons (cVar 7) (cCons (cVar 10) cNil))) [10]))
    (cSeq (cIfS (bVal (cOp neT (cComp (iSeq (cVar 9)) (gN 11) (bVal (cOp neT (cCall sp_law_read_word (cCons (cVar 11) cNil)) (cVar 8))) (cVar 11) [11]) (cLst cNil))) (cSeq (cRet (cC (.bl false)))
    cSkip) cSkip)
    (cSeq (cIfS (bVal (cOp neT (cUn slenT (cVar 9)) (cOp ixT (cLst (cCons (cC (.int 3)) (cCons (cC (.int 1)) cNil))) (cFn intF (cCons (cAnd (cOp gtT (cVar 4) (cC (.int 1))) (cOp gtT (cVar 5) (cC (.int 1)))) cNil))))) (cSeq (cRet (cC (.bl false)))
    cSkip) cSkip)
    cSkip))))))))
    cSkip)))
    (cSeq (cRet (cC (.bl true)))
    cSkip)))))
def c_the_law : TTS := cSeq (cSet 1 (cCall sp_law_pen_of (cCons (cVar 0) cNil))) t_the_law
def sp_the_law : SpT := sp_law1
def m_the_law : PM Cell T :=
  bd (bd (bd (pu (.int 1)) fun v1 => bd (pu (.int 25)) fun v2 => rng2 v1 v2) fun xs11 => compG (fun x3 => bd (bd (bd (pu x3) fun v4 => bd (pu (.int 5)) fun v5 => ofO (fdivT emp v4 v5)) fun v8 => bd (bd (pu x3) fun v6 => bd (pu (.int 5)) fun v7 => ofO (modT emp v6 v7)) fun v9 => pu (.tup [v8, v9])) fun v10 => pu (some v10)) xs11) fun ys12 => bd (bd (bd (bd (pu (.int 1)) fun v16 => bd (bd (pu (.int 30)) fun v15 => m_law_draw v15) fun v17 => ofO (addT emp v16 v17)) rng1) fun xs27 => forM (fun x18 (s14 : List T) => bd (bd (bd (pu (.int 41)) fun v21 => m_law_draw v21) fun v25 => bd (bd (pu (.int 1)) fun v23 => bd (bd (pu (.int 40)) fun v22 => m_law_draw v22) fun v24 => ofO (addT emp v23 v24)) fun v26 => pu (.tup [v25, v26])) fun v20 => bd (appM s14 v20) fun ys19 => pu ys19) xs27 ys12) fun (s14 : List T) => bd (bd (bd (pu (.lst s14)) itemsM) fun xs120 => forR (fun x29 (s28 : Unit) => bd (ofO (un2 x29)) fun b30 => bd (bd (bd (bd (pu (.int 2)) fun v41 => bd (bd (pu (.int 2)) fun v39 => bd (bd (bd (bd (pu b30.1) fun v34 => bd (pu (.int 0)) fun v35 => ofO (gtT emp v34 v35)) fun v36 => bd (tb v36) fun v37 => if v37 = true then (bd (pu b30.2) fun v32 => bd (pu (.int 0)) fun v33 => ofO (gtT emp v32 v33)) else pu (.bl false)) fun v38 => ofO (intF emp [v38])) fun v40 => ofO (mulT2 emp v39 v40)) fun v42 => ofO (addT emp v41 v42)) rng1) fun xs118 => forR (fun x43 (s31 : Unit) => bd (bd (pu b30.1) fun v52 => bd (pu b30.2) fun v53 => bd (bd (pu x43) fun v44 => bd (pu (.int 2)) fun v45 => ofO (fdivT emp v44 v45)) fun v54 => bd (bd (bd (pu (.str (q "birth"))) fun v46 => bd (pu (.str (q "adoption"))) fun v47 => pu (.lst [v46, v47])) fun v50 => bd (bd (pu x43) fun v48 => bd (pu (.int 2)) fun v49 => ofO (modT emp v48 v49)) fun v51 => ofO (ixT emp v50 v51)) fun v55 => pu (.tup [v52, v53, v54, v55])) fun v56 => bd (pu v56) fun v58 => bd (bd (bd (bd (bd (pu b30.1) fun v62 => bd (pu (.int 1)) fun v63 => ofO (gtT emp v62 v63)) tb) fun v64 => if v64 = true then (bd (bd (pu b30.2) fun v60 => bd (pu (.int 1)) fun v61 => ofO (gtT emp v60 v61)) tb) else pu false) fun v65 => if v65 = true then (bd (bd (bd (bd (pu b30.1) fun v67 => bd (pu b30.2) fun v68 => ofO (min2F emp [v67, v68])) fun v71 => bd (bd (pu b30.1) fun v69 => bd (pu b30.2) fun v70 => ofO (max2F emp [v69, v70])) fun v72 => pu (.tup [v71, v72])) fun v78 => bd (bd (pu v56) fun v75 => bd (bd (pu (.int 2)) fun v73 => bd (intO v73) fun v74 => pu (some v74)) fun v76 => bd (pu none) fun v77 => ofO (slT emp v75 v76 v77)) fun v79 => ofO (addT emp v78 v79)) fun v80 => pu v80 : PM _ (T)) else pu v58) fun s66 => bd (bd (bd (pu (.str (q "wmo"))) itemsM) fun xs86 => bd (compG (fun x82 => bd (bd (pu v56) fun v83 => bd (pu x82) fun v84 => lft (m_word_of v83 v84)) fun v85 => pu (some v85)) xs86) fun ys87 => pu (.lst ys87)) fun v88 => bd (bd (bd (bd (bd (pu v88) itemsM) fun xs96 => bd (compG (fun x90 => bd (bd (bd (bd (pu x90) fun v92 => lft (m_law_read_word v92)) fun v93 => bd (pu s66) fun v94 => ofO (neT emp v93 v94)) tb) fun v95 => if v95 = true then bd (pu x90) fun v91 => pu (some v91) else pu none) xs96) fun ys97 => pu (.lst ys97)) fun v98 => bd ((pu (.lst []) : PM _ T)) fun v99 => ofO (neT emp v98 v99)) tb) fun v100 => if v100 = true then bd (pu (.bl false)) fun v101 => pu (.rt v101) else bd (bd (bd (bd (pu v88) fun v102 => ofO (slenT emp v102)) fun v114 => bd (bd (bd (pu (.int 3)) fun v103 => bd (pu (.int 1)) fun v104 => pu (.lst [v103, v104])) fun v112 => bd (bd (bd (bd (pu b30.1) fun v107 => bd (pu (.int 1)) fun v108 => ofO (gtT emp v107 v108)) fun v109 => bd (tb v109) fun v110 => if v110 = true then (bd (pu b30.2) fun v105 => bd (pu (.int 1)) fun v106 => ofO (gtT emp v105 v106)) else pu (.bl false)) fun v111 => ofO (intF emp [v111])) fun v113 => ofO (ixT emp v112 v113)) fun v115 => ofO (neT emp v114 v115)) tb) fun v116 => if v116 = true then bd (pu (.bl false)) fun v117 => pu (.rt v117) else pu (.nx ())) xs118 ()) fun r119 => Sum.elim (fun (s31 : Unit) => pu (.nx ())) (fun v => pu (.rt v)) r119) xs120 ()) fun r122 => Sum.elim (fun (s28 : Unit) => bd (pu (.bl true)) fun v121 => pu v121) (fun v => pu v) r122
theorem x_the_law (S : Sto) (pa : Addr) (a : T) : XS (penW S pa) [some a, some (.ref pa), none, none, none, none, none, none, none, none, none, none] [] t_the_law m_the_law .rt :=
  (xs_new (xn_comp (XIy.i (xiy_range2 xe_c xe_c)) (fun x3 => xc_nameY (xe_tup (xa_cons (xe_op opv_fdivT (XE.v (xe_var rfl)) (XE.v xe_c)) (xa_cons (xe_op opv_modT (XE.v (xe_var rfl)) (XE.v xe_c)) xa_nil))))) fun ys12 a13 => (xs_seq (xs_for (σ := List T) (P := fun s14 => [some a, some (.ref pa), some (.ref a13), none, none, none, none, none, none, none, none, none]) (C := fun s14 => [(a13, .lst s14)]) (s0 := ys12) (xiy_range1 (xe_op opv_addT (XE.v xe_c) (XE.v (xe_callP rfl (xa_cons xe_c xa_nil))))) ⟨.inr rfl, .inr rfl, .inr rfl, .inl rfl, .inl rfl, .inl rfl, .inl rfl, .inl rfl, .inl rfl, .inl rfl, .inl rfl, .inl rfl, trivial⟩ rfl (fun x18 s14 => xf_name (xs_app (l1 := []) (l2 := []) rfl (xe_tup (xa_cons (xe_callP rfl (xa_cons xe_c xa_nil)) (xa_cons (xe_op opv_addT (XE.v xe_c) (XE.v (xe_callP rfl (xa_cons xe_c xa_nil)))) xa_nil))) fun ys19 => (xs_skip rfl ⟨.inr rfl, .inr rfl, .inr rfl, .inl rfl, .inl rfl, .inl rfl, .inl rfl, .inl rfl, .inl rfl, .inl rfl, .inl rfl, .inl rfl, trivial⟩)))) fun s14 => (xs_drop (i := 2) (l1 := []) (l2 := []) rfl (xs_seqR (g := fun v => v) (fun _ => rfl) (xs_forR (σ := Unit) (P := fun s28 => [some a, some (.ref pa), some (.lst s14), none, none, none, none, none, none, none, none, none]) (C := fun s28 => []) (s0 := ()) (xiy_seq (xe_var rfl)) ⟨.inr rfl, .inr rfl, .inr rfl, .inl rfl, .inl rfl, .inl rfl, .inl rfl, .inl rfl, .inl rfl, .inl rfl, .inl rfl, .inl rfl, trivial⟩ rfl (fun x29 s28 => xf_un xg_2 fun b30 => (xs_seqR (g := Fl.rt) (fun _ => rfl) (xs_forR (σ := Unit) (P := fun s31 => [some a, some (.ref pa), some (.lst s14), none, some b30.1, some b30.2, none, none, none, none, none, none]) (C := fun s31 => []) (s0 := ()) (xiy_range1 (xe_op opv_addT (XE.v xe_c) (XE.v (xe_op opv_mulT2 (XE.v xe_c) (XE.v (xe_fnx fnx_intF (xa_cons (xe_and (xe_opx opx_gtT (xe_var rfl) xe_c) (xe_opx opx_gtT (xe_var rfl) xe_c)) xa_nil))))))) ⟨.inr rfl, .inr rfl, .inr rfl, .inl rfl, .inr rfl, .inr rfl, .inl rfl, .inl rfl, .inl rfl, .inl rfl, .inl rfl, .inl rfl, trivial⟩ rfl (fun x43 s31 => xf_name (xs_set (xe_tup (xa_cons (xe_var rfl) (xa_cons (xe_var rfl) (xa_cons (xe_op opv_fdivT (XE.v (xe_var rfl)) (XE.v xe_c)) (xa_cons (xe_op opv_ixT (XE.v (xe_lst (xa_cons xe_c (xa_cons xe_c xa_nil)))) (XE.v (xe_op opv_modT (XE.v (xe_var rfl)) (XE.v xe_c)))) xa_nil))))) fun v56 => (xs_set (xe_var rfl) fun v58 => (xs_seq (σ := T) (P := fun s66 => [some a, some (.ref pa), some (.lst s14), none, some b30.1, some b30.2, some x43, some v56, some s66, none, none, none]) (C := fun s66 => []) (xs_if (xb_and (xb_val (xe_opx opx_gtT (xe_var rfl) xe_c)) (xb_val (xe_opx opx_gtT (xe_var rfl) xe_c))) (xs_set (xe_op opv_addT (XE.v (xe_tup (xa_cons (xe_fnx fnx_min2F (xa_cons (xe_var rfl) (xa_cons (xe_var rfl) xa_nil))) (xa_cons (xe_fnx fnx_max2F (xa_cons (xe_var rfl) (xa_cons (xe_var rfl) xa_nil))) xa_nil)))) (XE.v (xe_sl (XE.v (xe_var rfl)) (xo_some xe_c) xo_no))) fun v80 => (xs_skip rfl ⟨.inr rfl, .inr rfl, .inr rfl, .inl rfl, .inr rfl, .inr rfl, .inr rfl, .inr rfl, .inr rfl, .inl rfl, .inl rfl, .inl rfl, trivial⟩)) (xs_skip rfl ⟨.inr rfl, .inr rfl, .inr rfl, .inl rfl, .inr rfl, .inr rfl, .inr rfl, .inr rfl, .inr rfl, .inl rfl, .inl rfl, .inl rfl, trivial⟩)) fun s66 => (xs_set (xe_comp (XIy.i (xiy_seq xe_c)) (fun x82 => xc_nameY (xe_call (xa_cons (xe_var rfl) (xa_cons (xe_var rfl) xa_nil))))) fun v88 => (xs_ifE (xb_val (xe_op opv_neT (XE.v (xe_comp (XIy.i (xiy_seq (xe_var rfl))) (fun x90 => xc_name (xb_val (xe_op opv_neT (XE.v (xe_call (xa_cons (xe_var rfl) xa_nil))) (XE.v (xe_var rfl)))) (xe_var rfl)))) (XE.v (xe_lst xa_nil)))) (xs_assoc (xs_ret (g := Fl.rt) (fun _ => rfl) (XE.v xe_c))) (xs_skipseq (xs_ifE (xb_val (xe_op opv_neT (XE.v (xe_un unv_slenT (XE.v (xe_var rfl)))) (XE.v (xe_op opv_ixT (XE.v (xe_lst (xa_cons xe_c (xa_cons xe_c xa_nil)))) (XE.v (xe_fnx fnx_intF (xa_cons (xe_and (xe_opx opx_gtT (xe_var rfl) xe_c) (xe_opx opx_gtT (xe_var rfl) xe_c)) xa_nil))))))) (xs_assoc (xs_ret (g := Fl.rt) (fun _ => rfl) (XE.v xe_c))) (xs_skipseq (xs_skip rfl ⟨.inr rfl, .inr rfl, .inr rfl, .inl rfl, .inr rfl, .inr rfl, .inl rfl, .inl rfl, .inl rfl, .inl rfl, .inl rfl, .inl rfl, trivial⟩))))))))))) fun s31 => (xs_skip rfl ⟨.inr rfl, .inr rfl, .inr rfl, .inl rfl, .inl rfl, .inl rfl, .inl rfl, .inl rfl, .inl rfl, .inl rfl, .inl rfl, .inl rfl, trivial⟩)))) fun s28 => (xs_ret (g := fun v => v) (fun _ => rfl) (XE.v xe_c))))))
end K35
namespace K35
open PySem PySem.Spec PyProof.Rows TL
open L2 hiding putF
local macro_rules | `(tactic| simp_arith [$ts,*] $[$loc]?) => `(tactic| simp (implicitDefEqProofs := false) only [pu_bd, bd_bd, bd_pu, ofO_some, ofO_none, ofO_ite, stuck_bd, thr_bd, lft_pu, lft_bd, lft_gdc, lft_ite, lft_stuck, tb_bl, intO_int, itemsM_tup, itemsM_lst, itemsM_str, gd_c, gdc_T, compG_map, compA_pu, compA_gd, compA_if, compA_gdif, forM_map, forR_map, un2_tup, un3_tup, un4_tup, sum_inl, sum_inr, isStr_str, isTup_tup, joinF_l, joinF_t, strsOf_nil, strsOf_cons, strsOf_map, Option.bind_some, Option.bind_none, addT_int, addT_str, addT_lst, addT_tup, subT_int, mulT2_int, mulT2_str, fdivT_int, modT_int, powT_int, negT_int, eqT_int, neT_int, eqT_str, neT_str, eqT_bl, neT_bl, ltT_int, gtT_int, leT_int, geT_int, ixT_lst, ixT_tup, atI_0, atI_1, atI_2, atI_3, lenF_lst, lenF_tup, lenF_str, absF_int, intF_int, intF_bl, max2F_int, min2F_int, strF_int, isi_str, isi_int, isi_tup, isi_lst, slT_lst, slT_tup, slT_str, tupleF_lst, tupleF_tup, listF_lst, listF_tup, inT_strs, ninT_strs, inT_strsT, ninT_strsT, ite_pu, decide_eq_true_eq, Bool.not_eq_true', if_true, if_false, Bool.false_eq_true, Bool.true_eq_false, Option.map_some, Option.map_none, isbT_bl, isnbT_bl, $ts,*] $[$loc]?)
local macro_rules | `(tactic| simp_arith! [$ts,*] $[$loc]?) => `(tactic| simp (implicitDefEqProofs := false) only [pu_bd, bd_bd, bd_pu, ofO_some, ofO_none, ofO_ite, stuck_bd, thr_bd, lft_pu, lft_bd, lft_gdc, lft_ite, lft_stuck, tb_bl, intO_int, itemsM_tup, itemsM_lst, itemsM_str, gd_c, gdc_T, compG_map, compA_pu, compA_gd, compA_if, compA_gdif, forM_map, forR_map, un2_tup, un3_tup, un4_tup, sum_inl, sum_inr, isStr_str, isTup_tup, joinF_l, joinF_t, strsOf_nil, strsOf_cons, strsOf_map, Option.bind_some, Option.bind_none, addT_int, addT_str, addT_lst, addT_tup, subT_int, mulT2_int, mulT2_str, fdivT_int, modT_int, powT_int, negT_int, eqT_int, neT_int, eqT_str, neT_str, eqT_bl, neT_bl, ltT_int, gtT_int, leT_int, geT_int, ixT_lst, ixT_tup, atI_0, atI_1, atI_2, atI_3, lenF_lst, lenF_tup, lenF_str, absF_int, intF_int, intF_bl, max2F_int, min2F_int, strF_int, isi_str, isi_int, isi_tup, isi_lst, slT_lst, slT_tup, slT_str, tupleF_lst, tupleF_tup, listF_lst, listF_tup, inT_strs, ninT_strs, inT_strsT, ninT_strsT, ite_pu, decide_eq_true_eq, Bool.not_eq_true', if_true, if_false, Bool.false_eq_true, Bool.true_eq_false, Option.map_some, Option.map_none, isbT_bl, isnbT_bl, kis_non_non, kis_non_bool, kis_non_int, kis_non_str, kis_non_tup, kis_non_lst, kis_non_dct, kis_bool_non, kis_bool_bool, kis_bool_int, kis_bool_str, kis_bool_tup, kis_bool_lst, kis_bool_dct, kis_int_non, kis_int_bool, kis_int_int, kis_int_str, kis_int_tup, kis_int_lst, kis_int_dct, kis_str_non, kis_str_bool, kis_str_int, kis_str_str, kis_str_tup, kis_str_lst, kis_str_dct, kis_tup_non, kis_tup_bool, kis_tup_int, kis_tup_str, kis_tup_tup, kis_tup_lst, kis_tup_dct, kis_lst_non, kis_lst_bool, kis_lst_int, kis_lst_str, kis_lst_tup, kis_lst_lst, kis_lst_dct, kis_dct_non, kis_dct_bool, kis_dct_int, kis_dct_str, kis_dct_tup, kis_dct_lst, kis_dct_dct, isi_bl, isi_non, List.any_cons, List.any_nil, Bool.or_false, Bool.or_true, Bool.false_or, Bool.true_or, Bool.not_true, Bool.not_false, beq_self_eq_true, bne_self_eq_false, $ts,*] $[$loc]?)
local macro_rules | `(tactic| simp_all_arith [$ts,*]) => `(tactic| simp (implicitDefEqProofs := false) only [pu_bd, bd_bd, bd_pu, ofO_some, ofO_none, ofO_ite, stuck_bd, thr_bd, lft_pu, lft_bd, lft_gdc, lft_ite, lft_stuck, tb_bl, intO_int, itemsM_tup, itemsM_lst, itemsM_str, gd_c, gdc_T, compG_map, compA_pu, compA_gd, compA_if, compA_gdif, forM_map, forR_map, un2_tup, un3_tup, un4_tup, sum_inl, sum_inr, isStr_str, isTup_tup, joinF_l, joinF_t, strsOf_nil, strsOf_cons, strsOf_map, Option.bind_some, Option.bind_none, addT_int, addT_str, addT_lst, addT_tup, subT_int, mulT2_int, mulT2_str, fdivT_int, modT_int, powT_int, negT_int, eqT_int, neT_int, eqT_str, neT_str, eqT_bl, neT_bl, ltT_int, gtT_int, leT_int, geT_int, ixT_lst, ixT_tup, atI_0, atI_1, atI_2, atI_3, lenF_lst, lenF_tup, lenF_str, absF_int, intF_int, intF_bl, max2F_int, min2F_int, strF_int, isi_str, isi_int, isi_tup, isi_lst, slT_lst, slT_tup, slT_str, tupleF_lst, tupleF_tup, listF_lst, listF_tup, inT_strs, ninT_strs, inT_strsT, ninT_strsT, ite_pu, decide_eq_true_eq, Bool.not_eq_true', if_true, if_false, Bool.false_eq_true, Bool.true_eq_false, Option.map_some, Option.map_none, isbT_bl, isnbT_bl, extM_l, appM_c, compA_ifo, fkT, kinT, famT, List.cons_append, List.nil_append, $ts,*])
def byT (b : Bool) : Nm := if b = true then q "birth" else q "adoption"
def tyT (m n k : Nat) (b : Bool) : T := .tup [.int m, .int n, .int k, .str (byT b)]
def rdB (w : Nm) (m n k : Nat) (b : Bool) : Bool := match m_law_read_word (.str w) () with
  | .ok (.tup [.int x, .int y, .int z, .str v]) _ => decide (x = (m : Int)) && decide (y = (n : Int)) && decide (z = (k : Int)) && decide (v = byT b)
  | _ => false
def chkT (x y z : Sg) (m n k : Nat) (b : Bool) : Bool := match m_word_of (tyT m n k b) (.str [x]) (), m_word_of (tyT m n k b) (.str [y]) (), m_word_of (tyT m n k b) (.str [z]) () with
  | .ok (.str u) _, .ok (.str v) _, .ok (.str w) _ =>
    if m > 1 ∧ n > 1 then decide (u = v) && decide (v = w) && rdB u (min m n) (max m n) k b
    else decide (u ≠ v) && decide (u ≠ w) && decide (v ≠ w) && rdB u m n k b && rdB v m n k b && rdB w m n k b
  | _, _, _ => false
def sgW : Sg := (q "w")[0]!
def sgM : Sg := (q "m")[0]!
def sgO : Sg := (q "o")[0]!
theorem wmo : q "wmo" = [sgW, sgM, sgO] := by decide +kernel
def okMN (m n : Nat) : Bool := decide (m + n = 0) || ([0, 1].all fun k => (decide (k = 1) && (decide (m = 0) || decide (n = 0))) || (chkT sgW sgM sgO m n k true && chkT sgW sgM sgO m n k false))
def chunk (j : Nat) : Bool := (List.range 4).all fun i => (List.range 41).all fun n => okMN (4 * j + i) n
theorem ch0 : chunk 0 = true := by decide +kernel
theorem ch1 : chunk 1 = true := by decide +kernel
theorem ch2 : chunk 2 = true := by decide +kernel
theorem ch3 : chunk 3 = true := by decide +kernel
theorem ch4 : chunk 4 = true := by decide +kernel
theorem ch5 : chunk 5 = true := by decide +kernel
theorem ch6 : chunk 6 = true := by decide +kernel
theorem ch7 : chunk 7 = true := by decide +kernel
theorem ch8 : chunk 8 = true := by decide +kernel
theorem ch9 : chunk 9 = true := by decide +kernel
theorem ch10 : chunk 10 = true := by decide +kernel
theorem chs : ∀ j, j < 11 → chunk j = true
  | 0, _ => ch0
  | 1, _ => ch1
  | 2, _ => ch2
  | 3, _ => ch3
  | 4, _ => ch4
  | 5, _ => ch5
  | 6, _ => ch6
  | 7, _ => ch7
  | 8, _ => ch8
  | 9, _ => ch9
  | 10, _ => ch10
  | n + 11, h => absurd h (by omega)
theorem okMN_all {m n : Nat} (h1 : m ≤ 40) (h2 : n ≤ 40) : okMN m n = true := by
  have h := List.all_eq_true.mp (chs (m / 4) (by omega)) (m % 4) (List.mem_range.mpr (by omega))
  rw [Nat.div_add_mod] at h
  exact List.all_eq_true.mp h n (List.mem_range.mpr (by omega))
theorem chk_all {m n k : Nat} (h1 : m ≤ 40) (h2 : n ≤ 40) (h0 : m + n ≠ 0) (hk : k = 0 ∨ k = 1 ∧ m ≠ 0 ∧ n ≠ 0) (b : Bool) : chkT sgW sgM sgO m n k b = true := by
  have h := okMN_all h1 h2
  unfold okMN at h
  rw [decide_eq_false h0, Bool.false_or] at h
  have h := List.all_eq_true.mp h k (by rcases hk with rfl | ⟨rfl, _⟩ <;> simp)
  have e : (decide (k = 1) && (decide (m = 0) || decide (n = 0))) = false := by
    rcases hk with rfl | ⟨rfl, a, c⟩
    · rfl
    · rw [decide_eq_false a, decide_eq_false c]; rfl
  rw [e, Bool.false_or, Bool.and_eq_true] at h
  cases b
  · exact h.2
  · exact h.1
theorem rdB_pu {w : Nm} {m n k : Nat} {b : Bool} (h : rdB w m n k b = true) : m_law_read_word (.str w) = pu (tyT m n k b) := by
  funext c
  show m_law_read_word (.str w) () = .ok _ ()
  unfold rdB at h
  split at h
  · rename_i x y z v c' e
    simp only [Bool.and_eq_true, decide_eq_true_eq] at h
    obtain ⟨⟨⟨rfl, rfl⟩, rfl⟩, rfl⟩ := h
    rw [e]
    rfl
  · cases h
def dueW (m n k : Nat) (b : Bool) : T := if m > 1 ∧ n > 1 then tyT (min m n) (max m n) k b else tyT m n k b
theorem told3 {m n k : Nat} {b : Bool} (h : chkT sgW sgM sgO m n k b = true) : ∃ u v w, m_word_of (tyT m n k b) (.str [sgW]) = pu (.str u) ∧ m_word_of (tyT m n k b) (.str [sgM]) = pu (.str v) ∧ m_word_of (tyT m n k b) (.str [sgO]) = pu (.str w) ∧
    m_law_read_word (.str u) = pu (dueW m n k b) ∧ m_law_read_word (.str v) = pu (dueW m n k b) ∧ m_law_read_word (.str w) = pu (dueW m n k b) ∧ (ddup T.str [u, v, w]).length = if m > 1 ∧ n > 1 then 1 else 3 := by
  unfold chkT at h
  split at h
  · rename_i u c1 v c2 w c3 e1 e2 e3
    refine ⟨u, v, w, funext fun _ => e1, funext fun _ => e2, funext fun _ => e3, ?_⟩
    unfold dueW
    split at h
    · rename_i z
      simp only [Bool.and_eq_true, decide_eq_true_eq] at h
      obtain ⟨⟨rfl, rfl⟩, h⟩ := h
      rw [if_pos z, if_pos z]
      refine ⟨rdB_pu h, rdB_pu h, rdB_pu h, ?_⟩
      unfold ddup ddup ddup ddup
      simp [ke_str.eqt]
    · rename_i z
      simp only [Bool.and_eq_true, decide_eq_true_eq] at h
      obtain ⟨⟨⟨⟨⟨a, b⟩, c⟩, h1⟩, h2⟩, h3⟩ := h
      rw [if_neg z, if_neg z]
      refine ⟨rdB_pu h1, rdB_pu h2, rdB_pu h3, ?_⟩
      unfold ddup ddup ddup ddup
      simp [ke_str.eqt, a, b, c]
  · cases h
def pT (p : Nat × Nat) : T := .tup [.int p.1, .int p.2]
def OkP (p : Nat × Nat) : Prop := p.1 ≤ 40 ∧ p.2 ≤ 40 ∧ p.1 + p.2 ≠ 0
theorem way_of (j : Nat) : L2.atI [T.str (q "birth"), T.str (q "adoption")] ((j : Int) % 2) = some (.str (byT (decide (j % 2 = 0)))) := by
  rcases Nat.mod_two_eq_zero_or_one j with h | h
  · rw [show (j : Int) % 2 = 0 by omega, h]; rfl
  · rw [show (j : Int) % 2 = 1 by omega, h]; rfl
theorem compA_pun {κ α : Type} : ∀ xs : List α, compA (κ := κ) (fun _ => pu none) xs = pu []
  | [] => rfl
  | x :: xs => by
    rw [compA_cons, compA_pun xs]
    rfl
theorem neT_ty (m n k : Nat) (b : Bool) : TL.neT emp (tyT m n k b) (tyT m n k b) = some (.bl false) := by
  have o : okd (tyT m n k b) = true := rfl
  have kk : kx (tyT m n k b) = true := kx_row _ fun x hx => by
    rcases List.mem_cons.mp hx with rfl | hx
    · rfl
    rcases List.mem_cons.mp hx with rfl | hx
    · rfl
    rcases List.mem_cons.mp hx with rfl | hx
    · rfl
    rw [List.mem_singleton.mp hx]
    rfl
  have oo : (okd (res emp (tyT m n k b)) && okd (res emp (tyT m n k b))) = true := rfl
  unfold TL.neT
  rw [if_pos oo]
  show some (T.bl (!(eqt (tyT m n k b) (tyT m n k b)))) = _
  rw [(eqt_kx _ _ kk kk).mpr rfl]
  rfl
theorem law_true : ∀ c, PenC 0 c → ∃ k, m_the_law c = .ok (.bl true) k := HT.law (d := 100) (by
  have hs := sizeLine_eq
  unfold m_the_law
  simp_arith []
  rw [rng2_int (by omega), pu_bd, compG_map, bd_bd]
  refine HT.gdc (by rw [List.length_range]; omega) ?_
  have c0 : TL.compA (κ := Cell) (fun k : Nat => bd (ofO (fdivT emp (T.int (1 + (k : Nat))) (T.int 5))) fun a => bd (ofO (modT emp (T.int (1 + (k : Nat))) (T.int 5))) fun a_1 => pu (some (T.tup [a, a_1]))) (List.range ((25 : Int) - 1).toNat) = pu (((List.range 24).map fun k => ((1 + k) / 5, (1 + k) % 5)).map pT) := by
    rw [compA_congr (g := fun k : Nat => pu (some (pT ((1 + k) / 5, (1 + k) % 5)))) fun k hk => ?_, compA_pu, List.map_map]
    · rfl
    · simp_arith []
      rw [gdc_b (show divI (1 + (k : Int)) 5 = true from (by decide : divI 0 5 = true)), gdc_b (show modI (1 + (k : Int)) 5 = true from (by decide : modI 0 5 = true)), Int.fdiv_eq_ediv_of_nonneg _ (by omega), Int.fmod_eq_emod_of_nonneg _ (by omega)]
      rfl
  rw [c0, pu_bd]
  refine HT.drawB (many := 30) (d := 99) (by omega) (by omega) fun i i0 i1 => ?_
  simp_arith []
  rw [rng1_int (by omega), pu_bd, forM_map]
  refine HT.bd (d1 := 60) (d2 := 39) (P := fun s => ∃ ps : List (Nat × Nat), s = ps.map pT ∧ (∀ p ∈ ps, OkP p) ∧ ps.length ≤ 100) ?_ ?_
  · refine (HT.forN 2 30 (I := fun xs s => ∃ ps : List (Nat × Nat), s = ps.map pT ∧ (∀ p ∈ ps, OkP p) ∧ ps.length + xs.length ≤ 60) (by rw [List.length_range]; omega) ⟨_, rfl, ?_, ?_⟩ ?_).mono fun s hs => ?_
    · intro p hp
      obtain ⟨k, hk, rfl⟩ := List.mem_map.mp hp
      have := List.mem_range.mp hk
      refine ⟨?_, ?_, ?_⟩ <;> simp only <;> omega
    · rw [List.length_map, List.length_range, List.length_range]
      omega
    · rintro x xs s ⟨ps, rfl, ok, ln⟩
      rw [List.length_cons] at ln
      refine HT.drawB (many := 41) (d := 1) (by omega) (by omega) fun a a0 a1 => ?_
      refine HT.drawB (many := 40) (d := 0) (by omega) (by omega) fun b b0 b1 => ?_
      simp_arith []
      rw [appM_c]
      refine HT.gdc (by rw [List.length_map]; omega) ?_
      refine HT.pu ⟨ps ++ [(a.toNat, (1 + b).toNat)], ?_, fun p hp => ?_, by rw [List.length_append, List.length_singleton]; omega⟩
      · rw [List.map_append]
        show _ = _ ++ [pT _]
        unfold pT
        rw [Int.toNat_of_nonneg a0, Int.toNat_of_nonneg (by omega : 0 ≤ 1 + b)]
      · rcases List.mem_append.mp hp with hp | hp
        · exact ok p hp
        · rw [List.mem_singleton.mp hp]
          refine ⟨?_, ?_, ?_⟩ <;> simp only <;> omega
    · obtain ⟨ps, rfl, ok, ln⟩ := hs
      exact ⟨ps, rfl, ok, by simp at ln; omega⟩
  rintro s ⟨ps, rfl, ok, ln⟩
  rw [forR_map, forRA_all _ _ fun p hp => ?_]
  · simp_arith []
    exact HT.pu rfl
  · obtain ⟨m, n⟩ := p
    obtain ⟨h1, h2, h0⟩ := ok _ hp
    have un : un2 (pT (m, n)) = some (.int m, .int n) := rfl
    have e0 : (if (0 : Int) < (m : Int) then T.bl (decide ((0 : Int) < (n : Int))) else T.bl false) = T.bl (decide (0 < m ∧ 0 < n)) := by by_cases z : 0 < m <;> simp [z]
    have e1 : (if (1 : Int) < (m : Int) then T.bl (decide ((1 : Int) < (n : Int))) else T.bl false) = T.bl (decide (1 < m ∧ 1 < n)) := by
      by_cases z : 1 < m
      · rw [if_pos (by omega)]; simp [z]; omega
      · rw [if_neg (by omega)]; simp [z]
    have e2 : (if (1 : Int) < (m : Int) then decide ((1 : Int) < (n : Int)) else false) = decide (1 < m ∧ 1 < n) := by
      by_cases z : 1 < m
      · rw [if_pos (by omega)]; simp [z]; omega
      · rw [if_neg (by omega)]; simp [z]
    simp_arith [un, e0, e1, e2]
    rw [gdc_b (show mulI 2 (if 0 < m ∧ 0 < n then 1 else 0) = true from by split <;> decide), rng1_int (by split <;> omega), pu_bd, forR_map, forRA_all _ _ fun j hj => ?_]
    · rw [pu_bd]
      rfl
    · have hj := List.mem_range.mp hj
      have hk : j / 2 = 0 ∨ j / 2 = 1 ∧ m ≠ 0 ∧ n ≠ 0 := by
        split at hj
        · rename_i z
          omega
        · omega
      obtain ⟨u, v, w, w1, w2, w3, r1, r2, r3, dl⟩ := told3 (chk_all h1 h2 h0 hk (decide (j % 2 = 0)))
      have ed : ((0 : Int) + (j : Nat)).fdiv 2 = ((j / 2 : Nat) : Int) := by
        rw [Int.fdiv_eq_ediv_of_nonneg _ (by omega)]
        omega
      have em : ((0 : Int) + (j : Nat)).fmod 2 = (j : Int) % 2 := by
        rw [Int.fmod_eq_emod_of_nonneg _ (by omega)]
        omega
      have d2 : divI ((0 : Int) + (j : Nat)) 2 = true := (by decide : divI 0 2 = true)
      have m2 : modI ((0 : Int) + (j : Nat)) 2 = true := (by decide : modI 0 2 = true)
      have s6 : (if 1 < m ∧ 1 < n then bd (gdc ([T.int (if (n : Int) < m then (n : Int) else m), T.int (if (n : Int) > m then (n : Int) else m)].length + (cutT [T.int m, T.int n, .int (j / 2 : Nat), .str (byT (decide (j % 2 = 0)))] (some 2) none).length ≤ sizeLine)) fun _ => pu (T.tup ([T.int (if (n : Int) < m then (n : Int) else m), T.int (if (n : Int) > m then (n : Int) else m)] ++ cutT [T.int m, T.int n, .int (j / 2 : Nat), .str (byT (decide (j % 2 = 0)))] (some 2) none)) else pu (T.tup [T.int m, T.int n, .int (j / 2 : Nat), .str (byT (decide (j % 2 = 0)))]) : PM Cell T) = pu (dueW m n (j / 2) (decide (j % 2 = 0))) := by
        have ec : cutT [T.int m, T.int n, .int (j / 2 : Nat), .str (byT (decide (j % 2 = 0)))] (some 2) none = [.int (j / 2 : Nat), .str (byT (decide (j % 2 = 0)))] := rfl
        unfold dueW
        by_cases z : 1 < m ∧ 1 < n
        · rw [if_pos z, if_pos z, ec, gdc_b (by simp; omega)]
          have a : (if (n : Int) < m then (n : Int) else m) = ((min m n : Nat) : Int) := by split <;> omega
          have b : (if (n : Int) > m then (n : Int) else m) = ((max m n : Nat) : Int) := by split <;> omega
          rw [a, b]
          rfl
        · rw [if_neg z, if_neg z]
          rfl
      unfold tyT at w1 w2 w3
      simp_arith [gdc_b d2, gdc_b m2, ed, em, ixT_lst, way_of]
      rw [s6, pu_bd, gdc_b (by rw [wmo]; simp; omega), wmo]
      have cw : TL.compA (κ := Cell) (fun a => bd (lft (m_word_of (T.tup [T.int m, T.int n, T.int (j / 2 : Nat), T.str (byT (decide (j % 2 = 0)))]) (T.str [a]))) fun v10 => pu (some v10)) [sgW, sgM, sgO] = pu ([u, v, w].map T.str) := by
        rw [compA_cons, compA_cons, compA_cons, w1, w2, w3]
        rfl
      have ne : TL.neT emp (dueW m n (j / 2) (decide (j % 2 = 0))) (dueW m n (j / 2) (decide (j % 2 = 0))) = some (.bl false) := by
        unfold dueW
        split <;> exact neT_ty _ _ _ _
      rw [cw, pu_bd, compG_map, bd_bd, gdc_b (by simp; omega), compA_congr (g := fun _ => pu none) (fun x hx => by
        have e : m_law_read_word (.str x) = pu (dueW m n (j / 2) (decide (j % 2 = 0))) := by
          rcases List.mem_cons.mp hx with rfl | hx
          · exact r1
          rcases List.mem_cons.mp hx with rfl | hx
          · exact r2
          rw [List.mem_singleton.mp hx]
          exact r3
        rw [e, lft_pu, pu_bd, ne, ofO_some, pu_bd, tb_bl, pu_bd, if_neg (by simp)]), compA_pun, pu_bd]
      rw [show TL.neT emp (T.lst []) (T.lst []) = some (.bl false) from rfl, ofO_some, pu_bd, tb_bl, pu_bd, if_neg (by simp), slen_strs (xs := [u, v, w]) (show 3 + 2 < scanBound by decide), ofO_some, pu_bd, dl]
      by_cases z : 1 < m ∧ 1 < n
      · rw [if_pos z, if_pos z]
        rfl
      · rw [if_neg z, if_neg z]
        rfl) (by omega)

end K35
namespace K35
open PySem PySem.Spec PyProof.Rows TL
open L2 hiding putF
/-- what the head tells -/
structure Zx (K : PySem.W.Frag) (mg : Str → Option Value) : Prop where
  b_abs : mg "abs" = none
  b_int : mg "int" = none
  b_len : mg "len" = none
  b_max : mg "max" = none
  b_min : mg "min" = none
  b_range : mg "range" = none
  b_set : mg "set" = none
  b_str : mg "str" = none
  m_ABOVE : mg "ABOVE" = some (.ref (He.ga K "ABOVE"))
  r_ABOVE : ∀ (G : Gd) (H : Hp) (S : Sto), G.K = K → Rep G H S k_ABOVE (.ref (He.ga K "ABOVE"))
  d_ABOVE : ∃ ob, K.lookup (He.ga K "ABOVE") = some ob ∧ ob.cls = .type "tuple" ∧ ob.dict = none
  m_BELOW : mg "BELOW" = some (.ref (He.ga K "BELOW"))
  r_BELOW : ∀ (G : Gd) (H : Hp) (S : Sto), G.K = K → Rep G H S k_BELOW (.ref (He.ga K "BELOW"))
  d_BELOW : ∃ ob, K.lookup (He.ga K "BELOW") = some ob ∧ ob.cls = .type "tuple" ∧ ob.dict = none
  m_BESIDE : mg "BESIDE" = some (.ref (He.ga K "BESIDE"))
  r_BESIDE : ∀ (G : Gd) (H : Hp) (S : Sto), G.K = K → Rep G H S k_BESIDE (.ref (He.ga K "BESIDE"))
  d_BESIDE : ∃ ob, K.lookup (He.ga K "BESIDE") = some ob ∧ ob.cls = .type "tuple" ∧ ob.dict = none
  m_DEGREES : mg "DEGREES" = some (.ref (He.ga K "DEGREES"))
  r_DEGREES : ∀ (G : Gd) (H : Hp) (S : Sto), G.K = K → Rep G H S k_DEGREES (.ref (He.ga K "DEGREES"))
  d_DEGREES : ∃ ob, K.lookup (He.ga K "DEGREES") = some ob ∧ ob.cls = .type "tuple" ∧ ob.dict = none
  m_DOWN : mg "DOWN" = some (.ref (He.ga K "DOWN"))
  r_DOWN : ∀ (G : Gd) (H : Hp) (S : Sto), G.K = K → Rep G H S k_DOWN (.ref (He.ga K "DOWN"))
  d_DOWN : ∃ ob, K.lookup (He.ga K "DOWN") = some ob ∧ ob.cls = .type "tuple" ∧ ob.dict = none
  m_MARKS : mg "MARKS" = some (.ref (He.ga K "MARKS"))
  r_MARKS : ∀ (G : Gd) (H : Hp) (S : Sto), G.K = K → Rep G H S k_MARKS (.ref (He.ga K "MARKS"))
  d_MARKS : ∃ ob, K.lookup (He.ga K "MARKS") = some ob ∧ ob.cls = .type "tuple" ∧ ob.dict = none
  m_TIMES : mg "TIMES" = some (.ref (He.ga K "TIMES"))
  r_TIMES : ∀ (G : Gd) (H : Hp) (S : Sto), G.K = K → Rep G H S k_TIMES (.ref (He.ga K "TIMES"))
  d_TIMES : ∃ ob, K.lookup (He.ga K "TIMES") = some ob ∧ ob.cls = .type "tuple" ∧ ob.dict = none
  m_UP : mg "UP" = some (.ref (He.ga K "UP"))
  r_UP : ∀ (G : Gd) (H : Hp) (S : Sto), G.K = K → Rep G H S k_UP (.ref (He.ga K "UP"))
  d_UP : ∃ ob, K.lookup (He.ga K "UP") = some ob ∧ ob.cls = .type "tuple" ∧ ob.dict = none
  f_greats : ∃ fd, FunD K "greats" "greats" (defArgs s_greats) (defBody s_greats) (defScope s_greats) [] [] (He.ga K "greats") fd
  g_greats : mg "greats" = some (.ref (He.ga K "greats"))
  f_line_word : ∃ fd, FunD K "line_word" "line_word" (defArgs s_line_word) (defBody s_line_word) (defScope s_line_word) [] [] (He.ga K "line_word") fd
  g_line_word : mg "line_word" = some (.ref (He.ga K "line_word"))
  f_cousin_word : ∃ fd, FunD K "cousin_word" "cousin_word" (defArgs s_cousin_word) (defBody s_cousin_word) (defScope s_cousin_word) [] [] (He.ga K "cousin_word") fd
  g_cousin_word : mg "cousin_word" = some (.ref (He.ga K "cousin_word"))
  f_plain_word : ∃ fd, FunD K "plain_word" "plain_word" (defArgs s_plain_word) (defBody s_plain_word) (defScope s_plain_word) [] [] (He.ga K "plain_word") fd
  g_plain_word : mg "plain_word" = some (.ref (He.ga K "plain_word"))
  f_word_ahead : ∃ fd, FunD K "word_ahead" "word_ahead" (defArgs s_word_ahead) (defBody s_word_ahead) (defScope s_word_ahead) [] [] (He.ga K "word_ahead") fd
  g_word_ahead : mg "word_ahead" = some (.ref (He.ga K "word_ahead"))
  f_half_word : ∃ fd, FunD K "half_word" "half_word" (defArgs s_half_word) (defBody s_half_word) (defScope s_half_word) [] [] (He.ga K "half_word") fd
  g_half_word : mg "half_word" = some (.ref (He.ga K "half_word"))
  f_word_of : ∃ fd, FunD K "word_of" "word_of" (defArgs s_word_of) (defBody s_word_of) (defScope s_word_of) [] [] (He.ga K "word_of") fd
  g_word_of : mg "word_of" = some (.ref (He.ga K "word_of"))
  f_law_pen_of : ∃ fd, FunD K "_law_pen_of" "_law_pen_of" (defArgs s_law_pen_of) (defBody s_law_pen_of) (defScope s_law_pen_of) [] [] (He.ga K "_law_pen_of") fd
  g_law_pen_of : mg "_law_pen_of" = some (.ref (He.ga K "_law_pen_of"))
  f_law_draw : ∃ fd, FunD K "_law_draw" "_law_draw" (defArgs s_law_draw) (defBody s_law_draw) (defScope s_law_draw) [] [] (He.ga K "_law_draw") fd
  g_law_draw : mg "_law_draw" = some (.ref (He.ga K "_law_draw"))
  f_law_read_line : ∃ fd, FunD K "_law_read_line" "_law_read_line" (defArgs s_law_read_line) (defBody s_law_read_line) (defScope s_law_read_line) [] [] (He.ga K "_law_read_line") fd
  g_law_read_line : mg "_law_read_line" = some (.ref (He.ga K "_law_read_line"))
  f_law_read_cousin : ∃ fd, FunD K "_law_read_cousin" "_law_read_cousin" (defArgs s_law_read_cousin) (defBody s_law_read_cousin) (defScope s_law_read_cousin) [] [] (He.ga K "_law_read_cousin") fd
  g_law_read_cousin : mg "_law_read_cousin" = some (.ref (He.ga K "_law_read_cousin"))
  f_law_read_word : ∃ fd, FunD K "_law_read_word" "_law_read_word" (defArgs s_law_read_word) (defBody s_law_read_word) (defScope s_law_read_word) [] [] (He.ga K "_law_read_word") fd
  g_law_read_word : mg "_law_read_word" = some (.ref (He.ga K "_law_read_word"))
  f_the_law : ∃ fd, FunD K "law" "law" (defArgs s_the_law) (defBody s_the_law) (defScope s_the_law) [] [] (He.ga K "law") fd
  g_the_law : mg "law" = some (.ref (He.ga K "law"))
theorem vc_the_law : VC N_the_law sp_the_law c_the_law := vc_law x_the_law law_true
section
variable {P : Program} {w : World} {K : PySem.W.Frag} {mg : Str → Option Value} {base : Heap}
theorem sc_greats : FnScope N_greats (["many"] : List Str) (defScope s_greats) := ⟨rfl, rfl, rfl, by decide +kernel, rfl, by decide +kernel, by decide +kernel⟩
theorem ok_greats (Z : Zx K mg) : Okf P w K mg base 1 "greats" (["many"] : List Str) sp_greats := by
  obtain ⟨fd, F⟩ := Z.f_greats
  have hb : ∀ (cdv : Value) (A : Around) (outer : List Env) (s : Shared) (H : Hp) (E : XK), Room 0 (A.deeper (envOfC "greats" (defScope s_greats) s.heap.objs.size (He.ga K "greats") cdv)) → TSs (cxOf (L2N.CX P w) P w K mg base N_greats "greats" (defScope s_greats) (He.ga K "greats") cdv A outer s H E) (defBody s_greats) c_greats := fun cdv A outer s H E hr =>
    (tss_cons (ts_ret (te_bin op_mulT2 te_str (te_var (i := 0) rfl (.inl rfl))))
      tss_nil)
  exact ⟨fd, fn_t F sc_greats len_greats hb vc_greats, Z.g_greats, F.kp, F.bindsN fun _ _ _ _ _ _ us hl => match us, hl with | [_], _ => rfl⟩
theorem sc_line_word : FnScope N_line_word (["words", "at", "steps"] : List Str) (defScope s_line_word) := ⟨rfl, rfl, rfl, by decide +kernel, rfl, by decide +kernel, by decide +kernel⟩
theorem ok_line_word (Z : Zx K mg) : Okf P w K mg base 2 "line_word" (["words", "at", "steps"] : List Str) sp_line_word := by
  have O_greats : Okf P w K mg base 1 "greats" (["many"] : List Str) sp_greats := ok_greats Z
  obtain ⟨fd, F⟩ := Z.f_line_word
  have hb : ∀ (cdv : Value) (A : Around) (outer : List Env) (s : Shared) (H : Hp) (E : XK), Room 1 (A.deeper (envOfC "line_word" (defScope s_line_word) s.heap.objs.size (He.ga K "line_word") cdv)) → TSs (cxOf (L2N.CX P w) P w K mg base N_line_word "line_word" (defScope s_line_word) (He.ga K "line_word") cdv A outer s H E) (defBody s_line_word) c_line_word := fun cdv A outer s H E hr =>
    (tss_cons (ts_if (tb_cmp (op_eqT (u64 hr)) (te_var (i := 2) rfl (.inl rfl)) te_int rfl) (tss_cons (ts_ret (te_ix (te_var (i := 0) rfl (.inl rfl)) (te_var (i := 1) rfl (.inl rfl))))
      tss_nil) tss_nil)
      (tss_cons (ts_ret (te_bin op_addT (te_bin op_addT (te_callO O_greats hr (by decide) rfl (ta_cons (te_bin op_subT (te_var (i := 2) rfl (.inl rfl)) te_int) ta_nil)) te_str) (te_ix (te_var (i := 0) rfl (.inl rfl)) (te_var (i := 1) rfl (.inl rfl)))))
      tss_nil))
  exact ⟨fd, fn_t F sc_line_word len_line_word hb vc_line_word, Z.g_line_word, F.kp, F.bindsN fun _ _ _ _ _ _ us hl => match us, hl with | [_, _, _], _ => rfl⟩
theorem sc_cousin_word : FnScope N_cousin_word (["m", "n"] : List Str) (defScope s_cousin_word) := ⟨rfl, rfl, rfl, by decide +kernel, rfl, by decide +kernel, by decide +kernel⟩
theorem ok_cousin_word (Z : Zx K mg) : Okf P w K mg base 1 "cousin_word" (["m", "n"] : List Str) sp_cousin_word := by
  obtain ⟨fd, F⟩ := Z.f_cousin_word
  have hb : ∀ (cdv : Value) (A : Around) (outer : List Env) (s : Shared) (H : Hp) (E : XK), Room 0 (A.deeper (envOfC "cousin_word" (defScope s_cousin_word) s.heap.objs.size (He.ga K "cousin_word") cdv)) → TSs (cxOf (L2N.CX P w) P w K mg base N_cousin_word "cousin_word" (defScope s_cousin_word) (He.ga K "cousin_word") cdv A outer s H E) (defBody s_cousin_word) c_cousin_word := fun cdv A outer s H E hr =>
    (tss_cons (ts_set (i := 2) sc_cousin_word.nd rfl (.inl rfl) (te_bin op_subT (te_fnB (fn_min2 rfl) rfl Z.b_min boot_min (ta_cons (te_var (i := 0) rfl (.inl rfl)) (ta_cons (te_var (i := 1) rfl (.inl rfl)) ta_nil))) te_int))
      (tss_cons (ts_set (i := 3) sc_cousin_word.nd rfl (.inl rfl) (te_bin op_addT (te_fnT fn_str rfl Z.b_str boot_str (ta_cons (te_var (i := 2) rfl (.inl rfl)) ta_nil)) te_str))
      (tss_cons (ts_if (tb_cmp (op_leT (u64 hr)) (te_var (i := 2) rfl (.inl rfl)) (te_fnB fn_len rfl Z.b_len boot_len (ta_cons (te_globR rfl Z.m_DEGREES (fun M H S => Z.r_DEGREES _ H S rfl)) ta_nil)) rfl) (tss_cons (ts_set (i := 3) sc_cousin_word.nd rfl (.inl rfl) (te_ix (te_globR rfl Z.m_DEGREES (fun M H S => Z.r_DEGREES _ H S rfl)) (te_bin op_subT (te_var (i := 2) rfl (.inl rfl)) te_int)))
      tss_nil) tss_nil)
      (tss_cons (ts_set (i := 4) sc_cousin_word.nd rfl (.inl rfl) (te_fnB fn_abs rfl Z.b_abs boot_abs (ta_cons (te_bin op_subT (te_var (i := 0) rfl (.inl rfl)) (te_var (i := 1) rfl (.inl rfl))) ta_nil)))
      (tss_cons (ts_set (i := 5) sc_cousin_word.nd rfl (.inl rfl) (te_bin op_addT (te_bin op_addT te_str (te_fnT fn_str rfl Z.b_str boot_str (ta_cons (te_var (i := 4) rfl (.inl rfl)) ta_nil))) te_str))
      (tss_cons (ts_if (tb_cmp (op_ltT (u64 hr)) (te_var (i := 4) rfl (.inl rfl)) (te_fnB fn_len rfl Z.b_len boot_len (ta_cons (te_globR rfl Z.m_TIMES (fun M H S => Z.r_TIMES _ H S rfl)) ta_nil)) rfl) (tss_cons (ts_set (i := 5) sc_cousin_word.nd rfl (.inl rfl) (te_ix (te_globR rfl Z.m_TIMES (fun M H S => Z.r_TIMES _ H S rfl)) (te_var (i := 4) rfl (.inl rfl))))
      tss_nil) tss_nil)
      (tss_cons (ts_ret (te_bin op_addT (te_bin op_addT (te_var (i := 3) rfl (.inl rfl)) te_str) (te_var (i := 5) rfl (.inl rfl))))
      tss_nil)))))))
  exact ⟨fd, fn_t F sc_cousin_word len_cousin_word hb vc_cousin_word, Z.g_cousin_word, F.kp, F.bindsN fun _ _ _ _ _ _ us hl => match us, hl with | [_, _], _ => rfl⟩
theorem sc_plain_word : FnScope N_plain_word (["m", "n", "mark"] : List Str) (defScope s_plain_word) := ⟨rfl, rfl, rfl, by decide +kernel, rfl, by decide +kernel, by decide +kernel⟩
theorem ok_plain_word (Z : Zx K mg) : Okf P w K mg base 3 "plain_word" (["m", "n", "mark"] : List Str) sp_plain_word := by
  have O_line_word : Okf P w K mg base 2 "line_word" (["words", "at", "steps"] : List Str) sp_line_word := ok_line_word Z
  have O_greats : Okf P w K mg base 1 "greats" (["many"] : List Str) sp_greats := ok_greats Z
  have O_cousin_word : Okf P w K mg base 1 "cousin_word" (["m", "n"] : List Str) sp_cousin_word := ok_cousin_word Z
  obtain ⟨fd, F⟩ := Z.f_plain_word
  have hb : ∀ (cdv : Value) (A : Around) (outer : List Env) (s : Shared) (H : Hp) (E : XK), Room 2 (A.deeper (envOfC "plain_word" (defScope s_plain_word) s.heap.objs.size (He.ga K "plain_word") cdv)) → TSs (cxOf (L2N.CX P w) P w K mg base N_plain_word "plain_word" (defScope s_plain_word) (He.ga K "plain_word") cdv A outer s H E) (defBody s_plain_word) c_plain_word := fun cdv A outer s H E hr =>
    (tss_cons (ts_set (i := 3) sc_plain_word.nd rfl (.inl rfl) (te_tm PySem.F.slot_tuple_index PySem.F.type_tuple_index mt_tixT rfl Z.m_MARKS Z.d_MARKS (fun M H S => Z.r_MARKS _ H S rfl) (ta_cons (te_var (i := 2) rfl (.inl rfl)) ta_nil)))
      (tss_cons (ts_if (tb_cmp (op_eqT (u64 hr)) (te_var (i := 0) rfl (.inl rfl)) te_int rfl) (tss_cons (ts_ret (te_callO O_line_word hr (by decide) rfl (ta_cons (te_globR rfl Z.m_UP (fun M H S => Z.r_UP _ H S rfl)) (ta_cons (te_var (i := 3) rfl (.inl rfl)) (ta_cons (te_var (i := 1) rfl (.inl rfl)) ta_nil)))))
      tss_nil) tss_nil)
      (tss_cons (ts_if (tb_cmp (op_eqT (u64 hr)) (te_var (i := 1) rfl (.inl rfl)) te_int rfl) (tss_cons (ts_ret (te_callO O_line_word hr (by decide) rfl (ta_cons (te_globR rfl Z.m_DOWN (fun M H S => Z.r_DOWN _ H S rfl)) (ta_cons (te_var (i := 3) rfl (.inl rfl)) (ta_cons (te_var (i := 0) rfl (.inl rfl)) ta_nil)))))
      tss_nil) tss_nil)
      (tss_cons (ts_if (TW.toB (tw_and (tb_cmp (op_eqT (u64 hr)) (te_var (i := 0) rfl (.inl rfl)) te_int rfl) (tw_and1 (tb_cmp (op_eqT (u64 hr)) (te_var (i := 1) rfl (.inl rfl)) te_int rfl)))) (tss_cons (ts_ret (te_ix (te_globR rfl Z.m_BESIDE (fun M H S => Z.r_BESIDE _ H S rfl)) (te_var (i := 3) rfl (.inl rfl))))
      tss_nil) tss_nil)
      (tss_cons (ts_if (tb_cmp (op_eqT (u64 hr)) (te_var (i := 0) rfl (.inl rfl)) te_int rfl) (tss_cons (ts_ret (te_bin op_addT (te_callO O_greats hr (by decide) rfl (ta_cons (te_bin op_subT (te_var (i := 1) rfl (.inl rfl)) te_int) ta_nil)) (te_ix (te_globR rfl Z.m_ABOVE (fun M H S => Z.r_ABOVE _ H S rfl)) (te_var (i := 3) rfl (.inl rfl)))))
      tss_nil) tss_nil)
      (tss_cons (ts_if (tb_cmp (op_eqT (u64 hr)) (te_var (i := 1) rfl (.inl rfl)) te_int rfl) (tss_cons (ts_ret (te_bin op_addT (te_callO O_greats hr (by decide) rfl (ta_cons (te_bin op_subT (te_var (i := 0) rfl (.inl rfl)) te_int) ta_nil)) (te_ix (te_globR rfl Z.m_BELOW (fun M H S => Z.r_BELOW _ H S rfl)) (te_var (i := 3) rfl (.inl rfl)))))
      tss_nil) tss_nil)
      (tss_cons (ts_ret (te_callO O_cousin_word hr (by decide) rfl (ta_cons (te_var (i := 0) rfl (.inl rfl)) (ta_cons (te_var (i := 1) rfl (.inl rfl)) ta_nil))))
      tss_nil)))))))
  exact ⟨fd, fn_t F sc_plain_word len_plain_word hb vc_plain_word, Z.g_plain_word, F.kp, F.bindsN fun _ _ _ _ _ _ us hl => match us, hl with | [_, _, _], _ => rfl⟩
theorem sc_word_ahead : FnScope N_word_ahead (["tie"] : List Str) (defScope s_word_ahead) := ⟨rfl, rfl, rfl, by decide +kernel, rfl, by decide +kernel, by decide +kernel⟩
theorem ok_word_ahead (Z : Zx K mg) : Okf P w K mg base 1 "word_ahead" (["tie"] : List Str) sp_word_ahead := by
  obtain ⟨fd, F⟩ := Z.f_word_ahead
  have hb : ∀ (cdv : Value) (A : Around) (outer : List Env) (s : Shared) (H : Hp) (E : XK), Room 0 (A.deeper (envOfC "word_ahead" (defScope s_word_ahead) s.heap.objs.size (He.ga K "word_ahead") cdv)) → TSs (cxOf (L2N.CX P w) P w K mg base N_word_ahead "word_ahead" (defScope s_word_ahead) (He.ga K "word_ahead") cdv A outer s H E) (defBody s_word_ahead) c_word_ahead := fun cdv A outer s H E hr =>
    (tss_cons (ts_ret (te_ix (te_lst (ta_cons te_str (ta_cons te_str ta_nil))) (te_fnT fn_int rfl Z.b_int boot_int (ta_cons (te_cmp (op_eqT (u64 hr)) (te_ix (te_var (i := 0) rfl (.inl rfl)) te_int) te_str rfl) ta_nil))))
      tss_nil)
  exact ⟨fd, fn_t F sc_word_ahead len_word_ahead hb vc_word_ahead, Z.g_word_ahead, F.kp, F.bindsN fun _ _ _ _ _ _ us hl => match us, hl with | [_], _ => rfl⟩
theorem sc_half_word : FnScope N_half_word (["tie", "mark"] : List Str) (defScope s_half_word) := ⟨rfl, rfl, rfl, by decide +kernel, rfl, by decide +kernel, by decide +kernel⟩
theorem ok_half_word (Z : Zx K mg) : Okf P w K mg base 4 "half_word" (["tie", "mark"] : List Str) sp_half_word := by
  have O_plain_word : Okf P w K mg base 3 "plain_word" (["m", "n", "mark"] : List Str) sp_plain_word := ok_plain_word Z
  obtain ⟨fd, F⟩ := Z.f_half_word
  have hb : ∀ (cdv : Value) (A : Around) (outer : List Env) (s : Shared) (H : Hp) (E : XK), Room 3 (A.deeper (envOfC "half_word" (defScope s_half_word) s.heap.objs.size (He.ga K "half_word") cdv)) → TSs (cxOf (L2N.CX P w) P w K mg base N_half_word "half_word" (defScope s_half_word) (He.ga K "half_word") cdv A outer s H E) (defBody s_half_word) c_half_word := fun cdv A outer s H E hr =>
    (tss_cons (ts_ret (te_bin op_addT (te_ix (te_lst (ta_cons te_str (ta_cons te_str ta_nil))) (te_ix (te_var (i := 0) rfl (.inl rfl)) te_int)) (te_callO O_plain_word hr (by decide) rfl (ta_cons (te_ix (te_var (i := 0) rfl (.inl rfl)) te_int) (ta_cons (te_ix (te_var (i := 0) rfl (.inl rfl)) te_int) (ta_cons (te_var (i := 1) rfl (.inl rfl)) ta_nil))))))
      tss_nil)
  exact ⟨fd, fn_t F sc_half_word len_half_word hb vc_half_word, Z.g_half_word, F.kp, F.bindsN fun _ _ _ _ _ _ us hl => match us, hl with | [_, _], _ => rfl⟩
theorem sc_word_of : FnScope N_word_of (["tie", "mark"] : List Str) (defScope s_word_of) := ⟨rfl, rfl, rfl, by decide +kernel, rfl, by decide +kernel, by decide +kernel⟩
theorem ok_word_of (Z : Zx K mg) : Okf P w K mg base 5 "word_of" (["tie", "mark"] : List Str) sp_word_of := by
  have O_word_ahead : Okf P w K mg base 1 "word_ahead" (["tie"] : List Str) sp_word_ahead := ok_word_ahead Z
  have O_half_word : Okf P w K mg base 4 "half_word" (["tie", "mark"] : List Str) sp_half_word := ok_half_word Z
  obtain ⟨fd, F⟩ := Z.f_word_of
  have hb : ∀ (cdv : Value) (A : Around) (outer : List Env) (s : Shared) (H : Hp) (E : XK), Room 4 (A.deeper (envOfC "word_of" (defScope s_word_of) s.heap.objs.size (He.ga K "word_of") cdv)) → TSs (cxOf (L2N.CX P w) P w K mg base N_word_of "word_of" (defScope s_word_of) (He.ga K "word_of") cdv A outer s H E) (defBody s_word_of) c_word_of := fun cdv A outer s H E hr =>
    (tss_cons (ts_ret (te_bin op_addT (te_callO O_word_ahead hr (by decide) rfl (ta_cons (te_var (i := 0) rfl (.inl rfl)) ta_nil)) (te_callO O_half_word hr (by decide) rfl (ta_cons (te_var (i := 0) rfl (.inl rfl)) (ta_cons (te_var (i := 1) rfl (.inl rfl)) ta_nil)))))
      tss_nil)
  exact ⟨fd, fn_t F sc_word_of len_word_of hb vc_word_of, Z.g_word_of, F.kp, F.bindsN fun _ _ _ _ _ _ us hl => match us, hl with | [_, _], _ => rfl⟩
theorem sc_law_pen_of : FnScope N_law_pen_of (["_law_script"] : List Str) (defScope s_law_pen_of) := ⟨rfl, rfl, rfl, by decide +kernel, rfl, by decide +kernel, by decide +kernel⟩
theorem ok_law_pen_of (Z : Zx K mg) : Okf P w K mg base 1 "_law_pen_of" (["_law_script"] : List Str) sp_law_pen_of := by
  obtain ⟨fd, F⟩ := Z.f_law_pen_of
  have hb : ∀ (cdv : Value) (A : Around) (outer : List Env) (s : Shared) (H : Hp) (E : XK), Room 0 (A.deeper (envOfC "_law_pen_of" (defScope s_law_pen_of) s.heap.objs.size (He.ga K "_law_pen_of") cdv)) → TSs (cxOf (L2N.CX P w) P w K mg base N_law_pen_of "_law_pen_of" (defScope s_law_pen_of) (He.ga K "_law_pen_of") cdv A outer s H E) (defBody s_law_pen_of) c_law_pen_of := fun cdv A outer s H E hr =>
    (tss_cons (ts_ret (te_lstM (ta_cons (te_comp rfl sc_law_pen_of.nd (ti_seq (te_slice (te_var (i := 0) rfl (.inl rfl)) to_no (to_some te_int))) (ow := [("_law_cell", 1)]) (blkOk_by (by kernel_rfl)) (fun _ _ _ _ _ => (tg_name (i := 1) (by decide) sc_law_pen_of.nd rfl (.inl rfl))) (fun _ _ _ _ _ => tbs_nil) (fun _ _ _ _ _ => (te_var (i := 1) rfl (.inl rfl)))) (ta_cons te_int (ta_cons te_int ta_nil)))))
      tss_nil)
  exact ⟨fd, fn_t F sc_law_pen_of len_law_pen_of hb vc_law_pen_of, Z.g_law_pen_of, F.kp, F.bindsN fun _ _ _ _ _ _ us hl => match us, hl with | [_], _ => rfl⟩
theorem sc_law_draw : FnScope N_law_draw (["_law_pen", "_law_many"] : List Str) (defScope s_law_draw) := ⟨rfl, rfl, rfl, by decide +kernel, rfl, by decide +kernel, by decide +kernel⟩
theorem ok_law_draw (Z : Zx K mg) : Okf P w K mg base 1 "_law_draw" (["_law_pen", "_law_many"] : List Str) sp_law_draw := by
  obtain ⟨fd, F⟩ := Z.f_law_draw
  have hb : ∀ (cdv : Value) (A : Around) (outer : List Env) (s : Shared) (H : Hp) (E : XK), Room 0 (A.deeper (envOfC "_law_draw" (defScope s_law_draw) s.heap.objs.size (He.ga K "_law_draw") cdv)) → TSs (cxOf (L2N.CX P w) P w K mg base N_law_draw "_law_draw" (defScope s_law_draw) (He.ga K "_law_draw") cdv A outer s H E) (defBody s_law_draw) c_law_draw := fun cdv A outer s H E hr =>
    (tss_cons (ts_if (tb_cmp (op_gtT (u64 hr)) (te_ix (te_var (i := 0) rfl (.inl rfl)) te_int) te_int rfl) (tss_cons (ts_set (i := 2) sc_law_draw.nd rfl (.inl rfl) (te_bin op_modT (te_ix (te_var (i := 0) rfl (.inl rfl)) te_int) (te_var (i := 1) rfl (.inl rfl))))
      (tss_cons (ts_asg (vs := []) (te_bin op_fdivT (te_ix (te_var (i := 0) rfl (.inl rfl)) te_int) (te_var (i := 1) rfl (.inl rfl))) (tg_ix (te_var (i := 0) rfl (.inl rfl)) te_int))
      (tss_cons (ts_ret (te_var (i := 2) rfl (.inl rfl)))
      tss_nil))) tss_nil)
      (tss_cons (ts_set (i := 3) sc_law_draw.nd rfl (.inl rfl) (te_ix (te_var (i := 0) rfl (.inl rfl)) te_int))
      (tss_cons (ts_asg (vs := []) (te_bin op_addT (te_var (i := 3) rfl (.inl rfl)) te_int) (tg_ix (te_var (i := 0) rfl (.inl rfl)) te_int))
      (tss_cons (ts_set (i := 4) sc_law_draw.nd rfl (.inl rfl) te_int)
      (tss_cons (ts_if (tb_cmp (op_gtT (u64 hr)) (te_fnB fn_len rfl Z.b_len boot_len (ta_cons (te_ix (te_var (i := 0) rfl (.inl rfl)) te_int) ta_nil)) te_int rfl) (tss_cons (ts_set (i := 4) sc_law_draw.nd rfl (.inl rfl) (te_ix (te_ix (te_var (i := 0) rfl (.inl rfl)) te_int) (te_bin op_modT (te_var (i := 3) rfl (.inl rfl)) (te_fnB fn_len rfl Z.b_len boot_len (ta_cons (te_ix (te_var (i := 0) rfl (.inl rfl)) te_int) ta_nil)))))
      tss_nil) tss_nil)
      (tss_cons (ts_if (TW.toB (tw_and (tb_cmp (op_ltT (u64 hr)) (te_var (i := 3) rfl (.inl rfl)) (te_fnB fn_len rfl Z.b_len boot_len (ta_cons (te_ix (te_var (i := 0) rfl (.inl rfl)) te_int) ta_nil)) rfl) (tw_and1 (tb_cmp (op_geT (u64 hr)) (te_fnB fn_abs rfl Z.b_abs boot_abs (ta_cons (te_var (i := 4) rfl (.inl rfl)) ta_nil)) (te_bin op_powT te_int te_int) rfl)))) (tss_cons (ts_asg (vs := []) (te_bin op_fdivT (te_fnB fn_abs rfl Z.b_abs boot_abs (ta_cons (te_var (i := 4) rfl (.inl rfl)) ta_nil)) (te_var (i := 1) rfl (.inl rfl))) (tg_ix (te_var (i := 0) rfl (.inl rfl)) te_int))
      (tss_cons (ts_ret (te_bin op_modT (te_fnB fn_abs rfl Z.b_abs boot_abs (ta_cons (te_var (i := 4) rfl (.inl rfl)) ta_nil)) (te_var (i := 1) rfl (.inl rfl))))
      tss_nil)) tss_nil)
      (tss_cons (ts_set (i := 5) sc_law_draw.nd rfl (.inl rfl) (te_bin op_modT (te_bin op_mulT2 (te_bin op_addT (te_bin op_addT (te_bin op_modT (te_var (i := 4) rfl (.inl rfl)) te_int) (te_bin op_mulT2 te_int (te_var (i := 3) rfl (.inl rfl)))) te_int) te_int) te_int))
      (tss_cons (ts_set (i := 5) sc_law_draw.nd rfl (.inl rfl) (te_bin op_modT (te_bin op_mulT2 (te_bin op_modT (te_bin op_mulT2 (te_var (i := 5) rfl (.inl rfl)) (te_var (i := 5) rfl (.inl rfl))) te_int) (te_bin op_addT (te_bin op_addT (te_bin op_modT (te_var (i := 5) rfl (.inl rfl)) te_int) (te_bin op_mulT2 te_int (te_var (i := 3) rfl (.inl rfl)))) te_int)) te_int))
      (tss_cons (ts_ret (te_bin op_modT (te_bin op_fdivT (te_var (i := 5) rfl (.inl rfl)) te_int) (te_var (i := 1) rfl (.inl rfl))))
      tss_nil)))))))))
  exact ⟨fd, fn_t F sc_law_draw len_law_draw hb vc_law_draw, Z.g_law_draw, F.kp, F.bindsN fun _ _ _ _ _ _ us hl => match us, hl with | [_, _], _ => rfl⟩
theorem sc_law_read_line : FnScope N_law_read_line (["_law_word"] : List Str) (defScope s_law_read_line) := ⟨rfl, rfl, rfl, by decide +kernel, rfl, by decide +kernel, by decide +kernel⟩
theorem ok_law_read_line (Z : Zx K mg) : Okf P w K mg base 1 "_law_read_line" (["_law_word"] : List Str) sp_law_read_line := by
  obtain ⟨fd, F⟩ := Z.f_law_read_line
  have hb : ∀ (cdv : Value) (A : Around) (outer : List Env) (s : Shared) (H : Hp) (E : XK), Room 0 (A.deeper (envOfC "_law_read_line" (defScope s_law_read_line) s.heap.objs.size (He.ga K "_law_read_line") cdv)) → TSs (cxOf (L2N.CX P w) P w K mg base N_law_read_line "_law_read_line" (defScope s_law_read_line) (He.ga K "_law_read_line") cdv A outer s H E) (defBody s_law_read_line) c_law_read_line := fun cdv A outer s H E hr =>
    (tss_cons (ts_set (i := 1) sc_law_read_line.nd rfl (.inl rfl) te_int)
      (tss_cons (ts_if (TW.toB (tw_or (tb_val (te_sm1 PySem.F.slot_str_startswith PySem.F.type_str_startswith mt_stwT (te_var (i := 0) rfl (.inl rfl)) te_str)) (tw_or1 (tb_val (te_sm1 PySem.F.slot_str_startswith PySem.F.type_str_startswith mt_stwT (te_var (i := 0) rfl (.inl rfl)) te_str))))) (tss_cons (ts_set (i := 1) sc_law_read_line.nd rfl (.inl rfl) (te_bin op_addT te_int (te_sm1 PySem.F.slot_str_count PySem.F.type_str_count mt_cntT (te_var (i := 0) rfl (.inl rfl)) te_str)))
      tss_nil) tss_nil)
      (tss_cons (ts_ret (te_tup (ta_cons (te_var (i := 1) rfl (.inl rfl)) (ta_cons (te_repl1 (te1_ix (te1_sm1 PySem.F.slot_str_split PySem.F.type_str_split mt_splitT (te_var (i := 0) rfl (.inl rfl)) (by decide +kernel)) (te_un op_negT te_int)) (by decide +kernel) (by decide +kernel) (by decide +kernel)) ta_nil))))
      tss_nil)))
  exact ⟨fd, fn_t F sc_law_read_line len_law_read_line hb vc_law_read_line, Z.g_law_read_line, F.kp, F.bindsN fun _ _ _ _ _ _ us hl => match us, hl with | [_], _ => rfl⟩
theorem sc_law_read_cousin : FnScope N_law_read_cousin (["_law_word"] : List Str) (defScope s_law_read_cousin) := ⟨rfl, rfl, rfl, by decide +kernel, rfl, by decide +kernel, by decide +kernel⟩
theorem ok_law_read_cousin (Z : Zx K mg) : Okf P w K mg base 1 "_law_read_cousin" (["_law_word"] : List Str) sp_law_read_cousin := by
  obtain ⟨fd, F⟩ := Z.f_law_read_cousin
  have hb : ∀ (cdv : Value) (A : Around) (outer : List Env) (s : Shared) (H : Hp) (E : XK), Room 0 (A.deeper (envOfC "_law_read_cousin" (defScope s_law_read_cousin) s.heap.objs.size (He.ga K "_law_read_cousin") cdv)) → TSs (cxOf (L2N.CX P w) P w K mg base N_law_read_cousin "_law_read_cousin" (defScope s_law_read_cousin) (He.ga K "_law_read_cousin") cdv A outer s H E) (defBody s_law_read_cousin) c_law_read_cousin := fun cdv A outer s H E hr =>
    (tss_cons (ts_asg (vs := [1, 2, 3]) (te_sm1 PySem.F.slot_str_partition PySem.F.type_str_partition mt_partT (te_var (i := 0) rfl (.inl rfl)) te_str) (tg_tup rfl (n := 3) (tgs_cons (tg_name (i := 1) (by decide) sc_law_read_cousin.nd rfl (.inl rfl)) (tgs_cons (tg_name (i := 2) (by decide) sc_law_read_cousin.nd rfl (.inl rfl)) (tgs_cons (tg_name (i := 3) (by decide) sc_law_read_cousin.nd rfl (.inl rfl)) tgs_nil))) rfl rfl (takes_c (takes_c (takes_c takes_z)))))
      (tss_cons (ts_set (i := 4) sc_law_read_cousin.nd rfl (.inl rfl) (te_get1 (u64 hr) (te_dispI (prs := [(q "first", 1), (q "second", 2), (q "third", 3), (q "fourth", 4)]) (.cons te_str te_int (.cons te_str te_int (.cons te_str te_int (.cons te_str te_int .nil)))) (by decide +kernel) (by simp) (by simp)) (te_var (i := 1) rfl (.inl rfl))))
      (tss_cons (ts_if (tb_cmp op_isT (te_var (i := 4) rfl (.inl rfl)) te_non rfl) (tss_cons (ts_set (i := 4) sc_law_read_cousin.nd rfl (.inl rfl) (te_fnT fn_itx rfl Z.b_int boot_int (ta_cons (te_slice (te_var (i := 1) rfl (.inl rfl)) to_no (to_some (te_un op_negT te_int))) ta_nil)))
      tss_nil) tss_nil)
      (tss_cons (ts_set (i := 5) sc_law_read_cousin.nd rfl (.inl rfl) (te_get1 (u64 hr) (te_dispI (prs := [(q "", 0), (q " once removed", 1), (q " twice removed", 2)]) (.cons te_str te_int (.cons te_str te_int (.cons te_str te_int .nil))) (by decide +kernel) (by simp) (by simp)) (te_var (i := 3) rfl (.inl rfl))))
      (tss_cons (ts_if (tb_cmp op_isT (te_var (i := 5) rfl (.inl rfl)) te_non rfl) (tss_cons (ts_set (i := 5) sc_law_read_cousin.nd rfl (.inl rfl) (te_fnT fn_itx rfl Z.b_int boot_int (ta_cons (te_ix (te_sm1 PySem.F.slot_str_split PySem.F.type_str_split mt_splitT (te_var (i := 3) rfl (.inl rfl)) te_str) te_int) ta_nil)))
      tss_nil) tss_nil)
      (tss_cons (ts_ret (te_tup (ta_cons (te_bin op_addT (te_var (i := 4) rfl (.inl rfl)) te_int) (ta_cons (te_bin op_addT (te_bin op_addT (te_var (i := 4) rfl (.inl rfl)) te_int) (te_var (i := 5) rfl (.inl rfl))) ta_nil))))
      tss_nil))))))
  exact ⟨fd, fn_t F sc_law_read_cousin len_law_read_cousin hb vc_law_read_cousin, Z.g_law_read_cousin, F.kp, F.bindsN fun _ _ _ _ _ _ us hl => match us, hl with | [_], _ => rfl⟩
theorem sc_law_read_word : FnScope N_law_read_word (["_law_word"] : List Str) (defScope s_law_read_word) := ⟨rfl, rfl, rfl, by decide +kernel, rfl, by decide +kernel, by decide +kernel⟩
theorem ok_law_read_word (Z : Zx K mg) : Okf P w K mg base 2 "_law_read_word" (["_law_word"] : List Str) sp_law_read_word := by
  have O_law_read_cousin : Okf P w K mg base 1 "_law_read_cousin" (["_law_word"] : List Str) sp_law_read_cousin := ok_law_read_cousin Z
  have O_law_read_line : Okf P w K mg base 1 "_law_read_line" (["_law_word"] : List Str) sp_law_read_line := ok_law_read_line Z
  obtain ⟨fd, F⟩ := Z.f_law_read_word
  have hb : ∀ (cdv : Value) (A : Around) (outer : List Env) (s : Shared) (H : Hp) (E : XK), Room 1 (A.deeper (envOfC "_law_read_word" (defScope s_law_read_word) s.heap.objs.size (He.ga K "_law_read_word") cdv)) → TSs (cxOf (L2N.CX P w) P w K mg base N_law_read_word "_law_read_word" (defScope s_law_read_word) (He.ga K "_law_read_word") cdv A outer s H E) (defBody s_law_read_word) c_law_read_word := fun cdv A outer s H E hr =>
    (tss_cons (ts_set (i := 1) sc_law_read_word.nd rfl (.inl rfl) te_str)
      (tss_cons (ts_if (tb_val (te_sm1 PySem.F.slot_str_startswith PySem.F.type_str_startswith mt_stwT (te_var (i := 0) rfl (.inl rfl)) te_str)) (tss_cons (ts_par2 (i := 1) (j := 0) rfl sc_law_read_word.nd rfl rfl (by decide) rfl rfl (ta_cons te_str (ta_cons (te_slice (te_var (i := 0) rfl (.inl rfl)) (to_some te_int) to_no) ta_nil)) rfl)
      tss_nil) tss_nil)
      (tss_cons (ts_set (i := 2) sc_law_read_word.nd rfl (.inl rfl) (te_fnT fn_int rfl Z.b_int boot_int (ta_cons (te_sm1 PySem.F.slot_str_startswith PySem.F.type_str_startswith mt_stwT (te_var (i := 0) rfl (.inl rfl)) te_str) ta_nil)))
      (tss_cons (ts_set (i := 0) sc_law_read_word.nd rfl (.inl rfl) (te_slice (te_var (i := 0) rfl (.inl rfl)) (to_some (te_bin op_mulT2 te_int (te_var (i := 2) rfl (.inl rfl)))) to_no))
      (tss_cons (ts_if (tb_cmp op_inS te_str (te_var (i := 0) rfl (.inl rfl)) rfl) (tss_cons (ts_ret (te_bin op_addT (te_callO O_law_read_cousin hr (by decide) rfl (ta_cons (te_var (i := 0) rfl (.inl rfl)) ta_nil)) (te_tup (ta_cons (te_var (i := 2) rfl (.inl rfl)) (ta_cons (te_var (i := 1) rfl (.inl rfl)) ta_nil)))))
      tss_nil) tss_nil)
      (tss_cons (ts_asg (vs := [3, 4]) (te_callO O_law_read_line hr (by decide) rfl (ta_cons (te_var (i := 0) rfl (.inl rfl)) ta_nil)) (tg_tup rfl (n := 2) (tgs_cons (tg_name (i := 3) (by decide) sc_law_read_word.nd rfl (.inl rfl)) (tgs_cons (tg_name (i := 4) (by decide) sc_law_read_word.nd rfl (.inl rfl)) tgs_nil)) rfl rfl (takes_c (takes_c takes_z))))
      (tss_cons (ts_if (tb_cmp (op_inT (u65 hr)) (te_var (i := 4) rfl (.inl rfl)) (te_tup (ta_cons te_str (ta_cons te_str (ta_cons te_str ta_nil)))) rfl) (tss_cons (ts_ret (te_tup (ta_cons te_int (ta_cons (te_var (i := 3) rfl (.inl rfl)) (ta_cons (te_var (i := 2) rfl (.inl rfl)) (ta_cons (te_var (i := 1) rfl (.inl rfl)) ta_nil))))))
      tss_nil) tss_nil)
      (tss_cons (ts_if (tb_cmp (op_inT (u65 hr)) (te_var (i := 4) rfl (.inl rfl)) (te_tup (ta_cons te_str (ta_cons te_str (ta_cons te_str ta_nil)))) rfl) (tss_cons (ts_ret (te_tup (ta_cons (te_var (i := 3) rfl (.inl rfl)) (ta_cons te_int (ta_cons (te_var (i := 2) rfl (.inl rfl)) (ta_cons (te_var (i := 1) rfl (.inl rfl)) ta_nil))))))
      tss_nil) tss_nil)
      (tss_cons (ts_if (tb_cmp (op_inT (u65 hr)) (te_var (i := 4) rfl (.inl rfl)) (te_tup (ta_cons te_str (ta_cons te_str (ta_cons te_str ta_nil)))) rfl) (tss_cons (ts_ret (te_tup (ta_cons te_int (ta_cons te_int (ta_cons (te_var (i := 2) rfl (.inl rfl)) (ta_cons (te_var (i := 1) rfl (.inl rfl)) ta_nil))))))
      tss_nil) tss_nil)
      (tss_cons (ts_set (i := 3) sc_law_read_word.nd rfl (.inl rfl) (te_bin op_addT te_int (te_sm1 PySem.F.slot_str_count PySem.F.type_str_count mt_cntT (te_var (i := 0) rfl (.inl rfl)) te_str)))
      (tss_cons (ts_if (tb_cmp (op_inT (u65 hr)) (te_var (i := 4) rfl (.inl rfl)) (te_tup (ta_cons te_str (ta_cons te_str (ta_cons te_str ta_nil)))) rfl) (tss_cons (ts_ret (te_tup (ta_cons te_int (ta_cons (te_var (i := 3) rfl (.inl rfl)) (ta_cons (te_var (i := 2) rfl (.inl rfl)) (ta_cons (te_var (i := 1) rfl (.inl rfl)) ta_nil))))))
      tss_nil) tss_nil)
      (tss_cons (ts_ret (te_tup (ta_cons (te_var (i := 3) rfl (.inl rfl)) (ta_cons te_int (ta_cons (te_var (i := 2) rfl (.inl rfl)) (ta_cons (te_var (i := 1) rfl (.inl rfl)) ta_nil))))))
      tss_nil))))))))))))
  exact ⟨fd, fn_t F sc_law_read_word len_law_read_word hb vc_law_read_word, Z.g_law_read_word, F.kp, F.bindsN fun _ _ _ _ _ _ us hl => match us, hl with | [_], _ => rfl⟩
theorem sc_the_law : FnScope N_the_law (["_law_script"] : List Str) (defScope s_the_law) := ⟨rfl, rfl, rfl, by decide +kernel, rfl, by decide +kernel, by decide +kernel⟩
theorem ok_the_law (Z : Zx K mg) : ∃ fd : FuncData, (∀ (s : Shared) (u : Value), BindsTo s fd ⟨[u], []⟩ [("_law_script", u)]) ∧ ∀ base : Heap, FnOk P w K mg base (L2N.CX P w) 6 (He.ga K "law") fd (["_law_script"] : List Str) (liftSp P K w sp_the_law) := by
  obtain ⟨fd, F⟩ := Z.f_the_law
  refine ⟨fd, law_def F fun _ _ _ _ _ _ us hl => match us, hl with | [_], _ => rfl, fun base => ?_⟩
  have O_law_pen_of : Okf P w K mg base 1 "_law_pen_of" (["_law_script"] : List Str) sp_law_pen_of := ok_law_pen_of Z
  have O_law_draw : Okf P w K mg base 1 "_law_draw" (["_law_pen", "_law_many"] : List Str) sp_law_draw := ok_law_draw Z
  have O_word_of : Okf P w K mg base 5 "word_of" (["tie", "mark"] : List Str) sp_word_of := ok_word_of Z
  have O_law_read_word : Okf P w K mg base 2 "_law_read_word" (["_law_word"] : List Str) sp_law_read_word := ok_law_read_word Z
  have hb : ∀ (cdv : Value) (A : Around) (outer : List Env) (s : Shared) (H : Hp) (E : XK), Room 5 (A.deeper (envOfC "law" (defScope s_the_law) s.heap.objs.size (He.ga K "law") cdv)) → TSs (cxOf (L2N.CX P w) P w K mg base N_the_law "law" (defScope s_the_law) (He.ga K "law") cdv A outer s H E) (defBody s_the_law) c_the_law := fun cdv A outer s H E hr =>
    (tss_cons (ts_set (i := 1) sc_the_law.nd rfl (.inl rfl) (te_callO O_law_pen_of hr (by decide) rfl (ta_cons (te_var (i := 0) rfl (.inl rfl)) ta_nil)))
      (tss_cons (ts_setCompM (i := 2) rfl sc_the_law.nd rfl rfl rfl (ti_range2 rfl Z.b_range te_int te_int) (ow := [("_law_k", 3)]) (blkOk_by (by kernel_rfl)) (fun _ _ _ _ _ => (tg_name (i := 3) (by decide) sc_the_law.nd rfl (.inl rfl))) (fun _ _ _ _ _ => tbs_nil) (fun _ _ _ _ _ => (te_tup (ta_cons (te_bin op_fdivT (te_var (i := 3) rfl (.inl rfl)) te_int) (ta_cons (te_bin op_modT (te_var (i := 3) rfl (.inl rfl)) te_int) ta_nil)))))
      (tss_cons (ts_for (vs := [3]) (passes_of rfl) rfl (ti_range1 rfl Z.b_range (te_bin op_addT te_int (te_callO O_law_draw hr (by decide) rfl (ta_cons (te_var (i := 1) rfl (.inl rfl)) (ta_cons te_int ta_nil))))) (tg_name (i := 3) (by decide) sc_the_law.nd rfl (.inl rfl)) (tss_cons (ts_do (te_app (te_var (i := 2) rfl (.inl rfl)) (te_tup (ta_cons (te_callO O_law_draw hr (by decide) rfl (ta_cons (te_var (i := 1) rfl (.inl rfl)) (ta_cons te_int ta_nil))) (ta_cons (te_bin op_addT te_int (te_callO O_law_draw hr (by decide) rfl (ta_cons (te_var (i := 1) rfl (.inl rfl)) (ta_cons te_int ta_nil)))) ta_nil)))))
      tss_nil))
      (tss_drop (tss_cons (ts_for (vs := [4, 5]) (passes_of rfl) rfl (ti_seq (te_var (i := 2) rfl (.inl rfl))) (tg_tup rfl (n := 2) (tgs_cons (tg_name (i := 4) (by decide) sc_the_law.nd rfl (.inl rfl)) (tgs_cons (tg_name (i := 5) (by decide) sc_the_law.nd rfl (.inl rfl)) tgs_nil)) rfl rfl (takes_c (takes_c takes_z))) (tss_cons (ts_for (vs := [6]) (passes_of rfl) rfl (ti_range1 rfl Z.b_range (te_bin op_addT te_int (te_bin op_mulT2 te_int (te_fnT fn_int rfl Z.b_int boot_int (ta_cons (te_and (te_cmp (op_gtT (u64 hr)) (te_var (i := 4) rfl (.inl rfl)) te_int rfl) (te_one (te_cmp (op_gtT (u64 hr)) (te_var (i := 5) rfl (.inl rfl)) te_int rfl))) ta_nil))))) (tg_name (i := 6) (by decide) sc_the_law.nd rfl (.inl rfl)) (tss_cons (ts_set (i := 7) sc_the_law.nd rfl (.inr rfl) (te_tup (ta_cons (te_var (i := 4) rfl (.inl rfl)) (ta_cons (te_var (i := 5) rfl (.inl rfl)) (ta_cons (te_bin op_fdivT (te_var (i := 6) rfl (.inl rfl)) te_int) (ta_cons (te_ix (te_lst (ta_cons te_str (ta_cons te_str ta_nil))) (te_bin op_modT (te_var (i := 6) rfl (.inl rfl)) te_int)) ta_nil))))))
      (tss_cons (ts_set (i := 8) sc_the_law.nd rfl (.inr rfl) (te_var (i := 7) rfl (.inr (.inl rfl))))
      (tss_cons (ts_if (TW.toB (tw_and (tb_cmp (op_gtT (u64 hr)) (te_var (i := 4) rfl (.inl rfl)) te_int rfl) (tw_and1 (tb_cmp (op_gtT (u64 hr)) (te_var (i := 5) rfl (.inl rfl)) te_int rfl)))) (tss_cons (ts_set (i := 8) sc_the_law.nd rfl (.inr rfl) (te_bin op_addT (te_tup (ta_cons (te_fnB (fn_min2 rfl) rfl Z.b_min boot_min (ta_cons (te_var (i := 4) rfl (.inl rfl)) (ta_cons (te_var (i := 5) rfl (.inl rfl)) ta_nil))) (ta_cons (te_fnB (fn_max2 rfl) rfl Z.b_max boot_max (ta_cons (te_var (i := 4) rfl (.inl rfl)) (ta_cons (te_var (i := 5) rfl (.inl rfl)) ta_nil))) ta_nil))) (te_slice (te_var (i := 7) rfl (.inr (.inl rfl))) (to_some te_int) to_no)))
      tss_nil) tss_nil)
      (tss_cons (ts_setComp (i := 9) rfl sc_the_law.nd rfl rfl rfl (ti_seq te_str) (ow := [("_law_mark", 10)]) (blkOk_by (by kernel_rfl)) (fun _ _ _ _ _ => (tg_name (i := 10) (by decide) sc_the_law.nd rfl (.inl rfl))) (fun _ _ _ _ _ => tbs_nil) (fun _ _ _ _ _ => (te_callO O_word_of hr (by decide) rfl (ta_cons (te_var (i := 7) rfl (.inr (.inl rfl))) (ta_cons (te_var (i := 10) rfl (.inl rfl)) ta_nil)))))
      (tss_cons (ts_if (tb_cmp (op_neT (u64 hr)) (te_comp rfl sc_the_law.nd (ti_seq (te_var (i := 9) rfl (.inl rfl))) (ow := [("_law_word", 11)]) (blkOk_by (by kernel_rfl)) (fun _ _ _ _ _ => (tg_name (i := 11) (by decide) sc_the_law.nd rfl (.inl rfl))) (fun _ _ _ _ _ => (tbs_one (tb_cmp (op_neT (u64 hr)) (te_callO O_law_read_word hr (by decide) rfl (ta_cons (te_var (i := 11) rfl (.inl rfl)) ta_nil)) (te_var (i := 8) rfl (.inr (.inl rfl))) rfl))) (fun _ _ _ _ _ => (te_var (i := 11) rfl (.inl rfl)))) (te_lst ta_nil) rfl) (tss_cons (ts_ret te_bl)
      tss_nil) tss_nil)
      (tss_cons (ts_if (tb_cmp (op_neT (u64 hr)) (te_slen rfl (u70 hr) (te_var (i := 9) rfl (.inl rfl)) rfl Z.b_len rfl Z.b_set) (te_ix (te_lst (ta_cons te_int (ta_cons te_int ta_nil))) (te_fnT fn_int rfl Z.b_int boot_int (ta_cons (te_and (te_cmp (op_gtT (u64 hr)) (te_var (i := 4) rfl (.inl rfl)) te_int rfl) (te_one (te_cmp (op_gtT (u64 hr)) (te_var (i := 5) rfl (.inl rfl)) te_int rfl))) ta_nil))) rfl) (tss_cons (ts_ret te_bl)
      tss_nil) tss_nil)
      tss_nil)))))))
      tss_nil))
      (tss_cons (ts_ret te_bl)
      tss_nil))))))
  exact fn_t F sc_the_law (fun ts S Q E h => by obtain ⟨_, rfl, _⟩ := h; rfl) hb vc_the_law
end
end K35
namespace K35
open PySem PySem.Spec PyProof.Rows TL
open L2 hiding putF
theorem zx {w : World} {K : PySem.W.Frag} {h : Heap} {mg : Str → Option Value} (X : K.In h) (H : h.Ns mainGlobals mg) (c : SaysZ fa fn tbs ex w K) : Zx K mg where
  b_abs := He.free_ok X H (c.t.d.fact 0 (f := .free "abs") rfl)
  b_int := He.free_ok X H (c.t.d.fact 1 (f := .free "int") rfl)
  b_len := He.free_ok X H (c.t.d.fact 2 (f := .free "len") rfl)
  b_max := He.free_ok X H (c.t.d.fact 3 (f := .free "max") rfl)
  b_min := He.free_ok X H (c.t.d.fact 4 (f := .free "min") rfl)
  b_range := He.free_ok X H (c.t.d.fact 5 (f := .free "range") rfl)
  b_set := He.free_ok X H (c.t.d.fact 6 (f := .free "set") rfl)
  b_str := He.free_ok X H (c.t.d.fact 7 (f := .free "str") rfl)
  m_ABOVE := He.glo_ok X H (c.t.d.fact 8 (f := .glo "ABOVE") rfl)
  r_ABOVE := rep_texts (all_at c.more 0) (by decide +kernel) (all_at c.more 1)
  d_ABOVE := noDic_ok (all_at c.more 1)
  m_BELOW := He.glo_ok X H (c.t.d.fact 9 (f := .glo "BELOW") rfl)
  r_BELOW := rep_texts (all_at c.more 2) (by decide +kernel) (all_at c.more 3)
  d_BELOW := noDic_ok (all_at c.more 3)
  m_BESIDE := He.glo_ok X H (c.t.d.fact 10 (f := .glo "BESIDE") rfl)
  r_BESIDE := rep_texts (all_at c.more 4) (by decide +kernel) (all_at c.more 5)
  d_BESIDE := noDic_ok (all_at c.more 5)
  m_DEGREES := He.glo_ok X H (c.t.d.fact 11 (f := .glo "DEGREES") rfl)
  r_DEGREES := rep_texts (all_at c.more 6) (by decide +kernel) (all_at c.more 7)
  d_DEGREES := noDic_ok (all_at c.more 7)
  m_DOWN := He.glo_ok X H (c.t.d.fact 12 (f := .glo "DOWN") rfl)
  r_DOWN := rep_texts (all_at c.more 8) (by decide +kernel) (all_at c.more 9)
  d_DOWN := noDic_ok (all_at c.more 9)
  m_MARKS := He.glo_ok X H (c.t.d.fact 13 (f := .glo "MARKS") rfl)
  r_MARKS := rep_texts (all_at c.more 10) (by decide +kernel) (all_at c.more 11)
  d_MARKS := noDic_ok (all_at c.more 11)
  m_TIMES := He.glo_ok X H (c.t.d.fact 14 (f := .glo "TIMES") rfl)
  r_TIMES := rep_texts (all_at c.more 12) (by decide +kernel) (all_at c.more 13)
  d_TIMES := noDic_ok (all_at c.more 13)
  m_UP := He.glo_ok X H (c.t.d.fact 15 (f := .glo "UP") rfl)
  r_UP := rep_texts (all_at c.more 14) (by decide +kernel) (all_at c.more 15)
  d_UP := noDic_ok (all_at c.more 15)
  f_greats := c.t.d.def_ 0 (d := h_greats) rfl
  g_greats := He.glo_ok X H (c.t.d.fact 16 (f := .glo "greats") rfl)
  f_line_word := c.t.d.def_ 1 (d := h_line_word) rfl
  g_line_word := He.glo_ok X H (c.t.d.fact 17 (f := .glo "line_word") rfl)
  f_cousin_word := c.t.d.def_ 2 (d := h_cousin_word) rfl
  g_cousin_word := He.glo_ok X H (c.t.d.fact 18 (f := .glo "cousin_word") rfl)
  f_plain_word := c.t.d.def_ 3 (d := h_plain_word) rfl
  g_plain_word := He.glo_ok X H (c.t.d.fact 19 (f := .glo "plain_word") rfl)
  f_word_ahead := c.t.d.def_ 4 (d := h_word_ahead) rfl
  g_word_ahead := He.glo_ok X H (c.t.d.fact 20 (f := .glo "word_ahead") rfl)
  f_half_word := c.t.d.def_ 5 (d := h_half_word) rfl
  g_half_word := He.glo_ok X H (c.t.d.fact 21 (f := .glo "half_word") rfl)
  f_word_of := c.t.d.def_ 6 (d := h_word_of) rfl
  g_word_of := He.glo_ok X H (c.t.d.fact 22 (f := .glo "word_of") rfl)
  f_law_pen_of := c.t.d.def_ 7 (d := h_law_pen_of) rfl
  g_law_pen_of := He.glo_ok X H (c.t.d.fact 23 (f := .glo "_law_pen_of") rfl)
  f_law_draw := c.t.d.def_ 8 (d := h_law_draw) rfl
  g_law_draw := He.glo_ok X H (c.t.d.fact 24 (f := .glo "_law_draw") rfl)
  f_law_read_line := c.t.d.def_ 9 (d := h_law_read_line) rfl
  g_law_read_line := He.glo_ok X H (c.t.d.fact 25 (f := .glo "_law_read_line") rfl)
  f_law_read_cousin := c.t.d.def_ 10 (d := h_law_read_cousin) rfl
  g_law_read_cousin := He.glo_ok X H (c.t.d.fact 26 (f := .glo "_law_read_cousin") rfl)
  f_law_read_word := c.t.d.def_ 11 (d := h_law_read_word) rfl
  g_law_read_word := He.glo_ok X H (c.t.d.fact 27 (f := .glo "_law_read_word") rfl)
  f_the_law := c.t.d.def_ 12 (d := h_the_law) rfl
  g_the_law := He.glo_ok X H (c.t.d.fact 28 (f := .glo "law") rfl)
end K35
open PySem PySem.W PySem.Calls PyProof.Rows
theorem PySem.Challenge.cw_kinlines_k35_whole_words_tell_ties_holds : PySem.Challenge.rw_kinlines_k35_whole_words_tell_ties.Holds := by
  w_on; o_law
  refine HandSHeadRun.head_any (r := OpenLaw.row PySem.Challenge.rw_kinlines_k35_whole_words_tell_ties) (q := view (OpenLaw.row PySem.Challenge.rw_kinlines_k35_whole_words_tell_ties).prog [22]) (H := K35.hk) (ob := K35.ob) (M := 6000) (loose := K35.loose) (d := HandSHeadRun.topDef (OpenLaw.row PySem.Challenge.rw_kinlines_k35_whole_words_tell_ties).prog 22) (kwd := []) K35.ob_eq
    (by kernel_rfl) (fun s => by kernel_rfl) K35.run (by kernel_rfl) (by kernel_rfl) (by kernel_rfl) (by rfl) (by first | assumption | decide +kernel) (by decide +kernel) ⟨rfl, rfl, rfl, rfl, rfl, by decide +kernel⟩ ?hw ?hc
  case hw => w_witness2
  case hc =>
    refine TL.walk_tl (l := PySem.Challenge.rw_kinlines_k35_whole_words_tell_ties) (k := 6) (x := "_law_script") (y := "law") (sp := K35.sp_the_law) rfl (by kernel_rfl) ⟨rfl, by decide, by decide⟩ (by kernel_rfl) TL.law1_sp ?_
    intro w mg h Y G
    obtain ⟨K, KX, c⟩ := Y
    have Z := K35.zx KX G c
    obtain ⟨fd, hb, hF⟩ := K35.ok_the_law (P := (PySem.Challenge.rw_kinlines_k35_whole_words_tell_ties).prog) (w := w) Z
    exact ⟨K, KX, Z.g_the_law, fd, hb, fun base _ _ => hF base⟩
