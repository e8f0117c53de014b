import PyProof.Rows.All
import HandS.ForMost
import HandS.ForExc
import HandS.CallSlots
import HandS.TryMany
import HandS.ExcInit
import HandS.HeadHook4
import KE.KDictKeyed
import HandS.Style
import HandS.Defaults
import HandS.TupAny
import HandS.Deep
import HandS.Wide
import KE.DataCmp
import KE.SortData
import HandS.Conv
import HandS.IsInst
import HandS.More
import HandS.Text
import KE.DataMinMax
import KE.SortCalls
import HandS.Strs
import HandS.Replace
import KE.KIntText
import HandS.HeadEnd
import HandS.TupSets
import HandS.Dict
import HandS.SetFor
import KE.KSortTupAny
import KE.GoesZip
import KE.GoesMore
import KE.GoesEnum
import PySem.Challenge.RW_kinlines_k58_pairs_by_names
import Wide.All
import OpenK.AllK
import Wide.FinOn
import KE.KStateDown
import Lean
import HandS.Base
import HandS.Call
import HandS.Ends
import HandS.Words
import HandS.WordsExc
import HandS.Head0
import HandS.Head1
import HandS.Head2
import HandS.HeadHook1
import HandS.HeadHook2
import HandS.HeadHook3
set_option Elab.async false
set_option linter.all false
set_option maxRecDepth 100000
set_option maxHeartbeats 4000000
/-! TLa: values as trees over the hand layer's heap: what a tree is, how it lies in the heap, how it stays. -/
namespace TL
open PySem PySem.Spec PyProof.Rows L2

/-- a sign: texts are of these alone -/
abbrev Sg := Fin 128
def txt (x : List Sg) : Str := ⟨(x.map (·.val)).toArray⟩
theorem txt_list (x : List Sg) : (txt x).cps.toList = x.map (·.val) := rfl
theorem map_val_inj : ∀ {x y : List Sg}, x.map (·.val) = y.map (·.val) → x = y
  | [], [], _ => rfl
  | [], _ :: _, h => by cases h
  | _ :: _, [], h => by cases h
  | a :: x, b :: y, h => by
    rw [List.map_cons, List.map_cons] at h
    injection h with h1 h2
    rw [Fin.ext h1, map_val_inj h2]
theorem txt_inj {x y : List Sg} (h : txt x = txt y) : x = y := map_val_inj (by rw [← txt_list, h, txt_list])
theorem txt_len (x : List Sg) : (txt x).length = x.length := by
  show (x.map (·.val)).toArray.size = x.length
  simp
theorem txt_app (x y : List Sg) : txt (x ++ y) = txt x ++ txt y := by
  show (⟨((x ++ y).map (·.val)).toArray⟩ : Str) = ⟨(x.map (·.val)).toArray ++ (y.map (·.val)).toArray⟩
  simp
/-- a value as a tree; ref: a thing that may change, told by the store -/
inductive T where
  | non
  | bl (b : Bool)
  | int (i : Int)
  | str (x : List Sg)
  | tup (xs : List T)
  | lst (xs : List T)
  | ref (a : Addr)
  | exc (c : Str) (ns : List Str) (vs : List T)
  | dct (nst : Bool) (ks vs : List T)
  | obj (c : Str) (ns : List Str) (vs : List T)
  | fn (x : Str)
  | scr (ns : List Int)
  deriving Inhabited

/-- what may change -/
inductive Cell where
  | lst (xs : List T)
  | dct (nst : Bool) (ks vs : List T)
  | ins (c : Str) (ns : List Str) (vs : List T)

abbrev Sto := Addr → Option Cell
abbrev TEnv := List (Option T)
def ups (S : Sto) (a : Addr) (c : Cell) : Sto := fun b => if b = a then some c else S b
theorem ups_same {S : Sto} {a : Addr} {c : Cell} : ups S a c a = some c := if_pos rfl
theorem ups_ne {S : Sto} {a b : Addr} {c : Cell} (h : b ≠ a) : ups S a c b = S b := if_neg h
def offs (S : Sto) (a : Addr) : Sto := fun b => if b = a then none else S b
theorem offs_same {S : Sto} {a : Addr} : offs S a a = none := if_pos rfl
theorem offs_ne {S : Sto} {a b : Addr} (h : b ≠ a) : offs S a b = S b := if_neg h

mutual
/-- a key, up to == -/
def keyOf : T → Option NestedKey
  | .non => some .none
  | .bl b => some (.num (if b = true then 1 else 0))
  | .int i => some (.num i)
  | .str x => some (.text (txt x))
  | .tup ts => (keysOf ts).map .tup
  | _ => none
def keysOf : List T → Option (List NestedKey)
  | [] => some []
  | t :: ts => match keyOf t, keysOf ts with
    | some k, some ks => some (k :: ks)
    | _, _ => none
end

def isFrz : HO → Bool
  | .frz _ _ => true
  | _ => false
/-- the written part and the world -/
structure Gd where
  P : Program
  K : PySem.W.Frag
  w : World
  /-- what is not looked at -/
  M : Addr → Prop
/-- an object of the written part -/
def StT (K : PySem.W.Frag) (a : Addr) (xs : List V) : Prop :=
  ∃ (o : Obj) (its : Array Value) (n : Nat), K.lookup a = some o ∧ o.cls = .type "tuple" ∧ o.data = .seq its n ∧ its.size ≤ sizeLine ∧ Vals xs its.toList
def StL (K : PySem.W.Frag) (a : Addr) (xs : List V) : Prop :=
  ∃ (o : Obj) (its : Array Value) (n : Nat), K.lookup a = some o ∧ o.cls = .type "list" ∧ o.dict = none ∧ o.data = .seq its n ∧ its.size ≤ sizeLine ∧ Vals xs its.toList
/-- tracked as u, and no cell -/
def At (M : Addr → Prop) (H : Hp) (S : Sto) (a : Addr) (u : HO) : Prop := Rd H a u ∧ S a = none ∧ ¬ M a
def TupAt (G : Gd) (H : Hp) (S : Sto) (a : Addr) (xs : List V) : Prop := At G.M H S a (.tup xs) ∨ StT G.K a xs
def LstAt (G : Gd) (H : Hp) (S : Sto) (a : Addr) (xs : List V) : Prop := H a = some (.lst xs) ∧ S a = none ∧ ¬ G.M a
/-- the law's script -/
def ScrAt (G : Gd) (H : Hp) (S : Sto) (a : Addr) (xs : List V) : Prop := (∃ o, H a = some (.frz o (.lst xs)) ∧ S a = none ∧ ¬ G.M a) ∨ StL G.K a xs
theorem ScrAt.sq {G : Gd} {H : Hp} {S : Sto} {a : Addr} {xs : List V} (h : ScrAt G H S a xs) : SqL G.K H a xs := h.elim (fun ⟨o, z, _⟩ => .inl (.inr ⟨o, z⟩)) .inr
theorem TupAt.sq {G : Gd} {H : Hp} {S : Sto} {a : Addr} {xs : List V} (h : TupAt G H S a xs) : SqT G.K H a xs := h.elim (fun z => .inl z.1) .inr
theorem LstAt.sq {G : Gd} {H : Hp} {S : Sto} {a : Addr} {xs : List V} (h : LstAt G H S a xs) : SqL G.K H a xs := SqL.of h.1
/-- the entries of a dict by tuples, as its object holds them -/
def rawN (w : World) (a : Addr) (es : List (NestedKey × Addr × V)) (h : Heap) : Prop :=
  es.length ≤ sizeLine ∧ (a == sysModules) = false ∧ (∀ e ∈ es, e.1.depth ≤ 8) ∧ (es.map (·.1)).Nodup ∧
    ∃ us : List Value, Vals (es.map (·.2.2)) us ∧ ∃ o en ep, h.get? a = some o ∧ o.ExactDict ∧ o.data = .dict en ep ∧
      en.toList = (es.zip us).map fun q => (⟨q.1.1.hash w, .ref q.1.2.1, q.2⟩ : DictEntry)
def dN (w : World) (a : Addr) (es : List (NestedKey × Addr × V)) : HO := .ext (rawN w a es)

mutual
/-- the tree t lies as v -/
inductive Rep (G : Gd) (H : Hp) (S : Sto) : T → V → Prop
  | non : Rep G H S .non .non
  | bl (b : Bool) : Rep G H S (.bl b) (.bl b)
  | int (i : Int) : Rep G H S (.int i) (.int i)
  | str (x : List Sg) : Rep G H S (.str x) (.str (txt x))
  | ref (a : Addr) : Rep G H S (.ref a) (.ref a)
  | fn (x : Str) : Rep G H S (.fn x) (.ref (He.ga G.K x))
  | scr {a : Addr} {ns : List Int} : ScrAt G H S a (ns.map V.int) → Rep G H S (.scr ns) (.ref a)
  | tup {a : Addr} {xs : List V} {ts : List T} : TupAt G H S a xs → Reps G H S ts xs → Rep G H S (.tup ts) (.ref a)
  | lst {a : Addr} {xs : List V} {ts : List T} : LstAt G H S a xs → Reps G H S ts xs → Rep G H S (.lst ts) (.ref a)
  | exc0 {a : Addr} {c : Str} : At G.M H S a (exo a (He.ga G.K c) none) → Rep G H S (.exc c [] []) (.ref a)
  | exc1 {a d : Addr} {c : Str} {ns : List Str} {ts : List T} {xs : List V} : At G.M H S a (exo a (He.ga G.K c) (some d)) → At G.M H S d (exd d (ns.zip xs)) → ns.length = xs.length → Reps G H S ts xs → Rep G H S (.exc c ns ts) (.ref a)
  | dK {a : Addr} {kvs : List (Key × V)} {ks vs : List T} : At G.M H S a (.dK kvs) → Reps G H S ks (kvs.map fun p => kV p.1) → Reps G H S vs (kvs.map (·.2)) → Rep G H S (.dct false ks vs) (.ref a)
  | dN {a : Addr} {es : List (NestedKey × Addr × V)} {ks vs : List T} : At G.M H S a (dN G.w a es) → keysOf ks = some (es.map (·.1)) → Reps G H S ks (es.map fun e => V.ref e.2.1) → Reps G H S vs (es.map (·.2.2)) → Rep G H S (.dct true ks vs) (.ref a)
  | obj {a d : Addr} {c : Str} {ns : List Str} {ts : List T} {xs : List V} : At G.M H S a (.ins (He.ga G.K c) d (ns.zip xs)) → ns.length = xs.length → Reps G H S ts xs → Rep G H S (.obj c ns ts) (.ref a)
inductive Reps (G : Gd) (H : Hp) (S : Sto) : List T → List V → Prop
  | nil : Reps G H S [] []
  | cons {t : T} {ts : List T} {v : V} {vs : List V} : Rep G H S t v → Reps G H S ts vs → Reps G H S (t :: ts) (v :: vs)
end

/-- a thing that may change, as it lies -/
def CellOk (G : Gd) (H : Hp) (S : Sto) (a : Addr) : Cell → Prop
  | .lst ts => ∃ xs, H a = some (.lst xs) ∧ Reps G H S ts xs
  | .dct false ks vs => ∃ kvs : List (Key × V), H a = some (.dK kvs) ∧ Reps G H S ks (kvs.map fun p => kV p.1) ∧ Reps G H S vs (kvs.map (·.2))
  | .dct true ks vs => ∃ es : List (NestedKey × Addr × V), H a = some (dN G.w a es) ∧ keysOf ks = some (es.map (·.1)) ∧ Reps G H S ks (es.map fun e => V.ref e.2.1) ∧ Reps G H S vs (es.map (·.2.2))
  | .ins c ns ts => ∃ d xs, H a = some (.ins (He.ga G.K c) d (ns.zip xs)) ∧ ns.length = xs.length ∧ Reps G H S ts xs
structure StoOk (G : Gd) (H : Hp) (S : Sto) : Prop where
  at_ : ∀ a c, S a = some c → CellOk G H S a c
  msk : ∀ a, G.M a → H a ≠ none
  sep : ∀ a, G.M a → S a = none

/-- what a loop may lock -/
def isD : HO → Bool
  | .dK _ => true
  | .dT _ => true
  | .ext _ => true
  | _ => false
def lkd : HO → Bool
  | .frz _ u => isD u
  | u => isD u
/-- what lay still lies still, but for what is not looked at -/
def ExtM (M : Addr → Prop) (S : Sto) (H : Hp) (S' : Sto) (H' : Hp) : Prop := ∀ b u, ¬ M b → S b = none → (H b = some u → lkd u = false → H' b = some u ∧ S' b = none) ∧ (Rd H b u → isD u = true → Rd H' b u ∧ S' b = none)
/-- what lay still lies still -/
def Ext (S : Sto) (H : Hp) (S' : Sto) (H' : Hp) : Prop := ∀ b u, S b = none → (H b = some u → lkd u = false → H' b = some u ∧ S' b = none) ∧ (Rd H b u → isD u = true → Rd H' b u ∧ S' b = none)
section
variable {G : Gd} {H H' H2 : Hp} {S S' S2 : Sto} {M : Addr → Prop}
theorem Ext.m (x : Ext S H S' H') : ExtM M S H S' H' := fun b u _ => x b u
theorem Ext.refl : Ext S H S H := fun _ _ n => ⟨fun h _ => ⟨h, n⟩, fun h _ => ⟨h, n⟩⟩
theorem Ext.trans (x : Ext S H S' H') (y : Ext S' H' S2 H2) : Ext S H S2 H2 := fun b u n =>
  ⟨fun h f => let z := (x b u n).1 h f; (y b u z.2).1 z.1 f, fun h f => let z := (x b u n).2 h f; (y b u z.2).2 z.1 f⟩
theorem At.extM {a : Addr} {u : HO} (h : At M H S a u) (x : ExtM M S H S' H') (f : isFrz u = false := by rfl) : At M H' S' a u := by
  obtain ⟨h1, h2, h3⟩ := h
  cases hd : isD u with
  | true =>
    have w := (x a u h3 h2).2 h1 hd
    exact ⟨w.1, w.2, h3⟩
  | false =>
    rcases h1 with z | ⟨o, z⟩
    · have k : lkd u = false := by
        cases u <;> first | exact hd | cases f
      have w := (x a u h3 h2).1 z k
      exact ⟨.inl w.1, w.2, h3⟩
    · have w := (x a (.frz o u) h3 h2).1 z hd
      exact ⟨.inr ⟨o, w.1⟩, w.2, h3⟩
theorem TupAt.extM {a : Addr} {xs : List V} (h : TupAt G H S a xs) (x : ExtM G.M S H S' H') : TupAt G H' S' a xs := h.elim (fun z => .inl (z.extM x)) .inr
theorem LstAt.extM {a : Addr} {xs : List V} (h : LstAt G H S a xs) (x : ExtM G.M S H S' H') : LstAt G H' S' a xs := let w := (x a _ h.2.2 h.2.1).1 h.1 rfl; ⟨w.1, w.2, h.2.2⟩
theorem At.ext {a : Addr} {u : HO} (h : At M H S a u) (x : Ext S H S' H') (f : isFrz u = false := by rfl) : At M H' S' a u := h.extM x.m f
theorem TupAt.ext {a : Addr} {xs : List V} (h : TupAt G H S a xs) (x : Ext S H S' H') : TupAt G H' S' a xs := h.extM x.m
theorem LstAt.ext {a : Addr} {xs : List V} (h : LstAt G H S a xs) (x : Ext S H S' H') : LstAt G H' S' a xs := h.extM x.m
theorem Ext.exact {a : Addr} {u : HO} (x : Ext S H S' H') (h : H a = some u) (n : S a = none) (k : lkd u = false := by rfl) : H' a = some u ∧ S' a = none := (x a u n).1 h k
mutual
theorem Rep.extM (x : ExtM G.M S H S' H') : ∀ (t : T) (v : V), Rep G H S t v → Rep G H' S' t v
  | .non, _, h => by cases h; exact .non
  | .bl _, _, h => by cases h; exact .bl _
  | .int _, _, h => by cases h; exact .int _
  | .str _, _, h => by cases h; exact .str _
  | .ref _, _, h => by cases h; exact .ref _
  | .fn _, _, h => by cases h; exact .fn _
  | .scr _, _, h => by
    cases h with
    | scr h1 => exact .scr (h1.imp (fun ⟨o, z1, z2, z3⟩ => ⟨o, ((x _ _ z3 z2).1 z1 rfl).1, ((x _ _ z3 z2).1 z1 rfl).2, z3⟩) id)
  | .tup ts, _, h => by
    cases h with
    | tup h1 h2 => exact .tup (h1.extM x) (Reps.extM x ts _ h2)
  | .lst ts, _, h => by
    cases h with
    | lst h1 h2 => exact .lst (h1.extM x) (Reps.extM x ts _ h2)
  | .exc c ns ts, _, h => by
    cases h with
    | exc0 h1 => exact .exc0 (h1.extM x)
    | exc1 h1 h2 h3 h4 => exact .exc1 (h1.extM x) (h2.extM x) h3 (Reps.extM x ts _ h4)
  | .dct b ks vs, _, h => by
    cases h with
    | dK h1 h2 h3 => exact .dK (h1.extM x) (Reps.extM x ks _ h2) (Reps.extM x vs _ h3)
    | dN h1 h2 h3 h4 => exact .dN (h1.extM x) h2 (Reps.extM x ks _ h3) (Reps.extM x vs _ h4)
  | .obj c ns ts, _, h => by
    cases h with
    | obj h1 h2 h3 => exact .obj (h1.extM x) h2 (Reps.extM x ts _ h3)
theorem Reps.extM (x : ExtM G.M S H S' H') : ∀ (ts : List T) (vs : List V), Reps G H S ts vs → Reps G H' S' ts vs
  | [], _, h => by cases h; exact .nil
  | t :: ts, _, h => by
    cases h with
    | cons h1 h2 => exact .cons (Rep.extM x t _ h1) (Reps.extM x ts _ h2)
end
theorem Rep.ext (x : Ext S H S' H') (t : T) (v : V) (h : Rep G H S t v) : Rep G H' S' t v := Rep.extM x.m t v h
theorem Reps.ext (x : Ext S H S' H') (t : List T) (v : List V) (h : Reps G H S t v) : Reps G H' S' t v := Reps.extM x.m t v h
theorem CellOk.extM {a : Addr} {c : Cell} (h : CellOk G H S a c) (x : ExtM G.M S H S' H') (e : H' a = H a) : CellOk G H' S' a c := by
  cases c with
  | lst ts =>
    obtain ⟨xs, h1, h2⟩ := h
    exact ⟨xs, e.trans h1, Reps.extM x _ _ h2⟩
  | dct b ks vs =>
    cases b with
    | false =>
      obtain ⟨kvs, h1, h2, h3⟩ := h
      exact ⟨kvs, e.trans h1, Reps.extM x _ _ h2, Reps.extM x _ _ h3⟩
    | true =>
      obtain ⟨es, h1, h2, h3, h4⟩ := h
      exact ⟨es, e.trans h1, h2, Reps.extM x _ _ h3, Reps.extM x _ _ h4⟩
  | ins c ns ts =>
    obtain ⟨d, xs, h1, h2, h3⟩ := h
    exact ⟨d, xs, e.trans h1, h2, Reps.extM x _ _ h3⟩
theorem CellOk.ext {a : Addr} {c : Cell} (h : CellOk G H S a c) (x : Ext S H S' H') (e : H' a = H a) : CellOk G H' S' a c := h.extM x.m e
theorem CellOk.there {a : Addr} {c : Cell} (h : CellOk G H S a c) : ∃ o, H a = some o := by
  cases c with
  | lst ts => obtain ⟨xs, h1, _⟩ := h; exact ⟨_, h1⟩
  | dct b ks vs =>
    cases b with
    | false => obtain ⟨kvs, h1, _⟩ := h; exact ⟨_, h1⟩
    | true => obtain ⟨es, h1, _⟩ := h; exact ⟨_, h1⟩
  | ins c ns ts => obtain ⟨d, xs, h1, _⟩ := h; exact ⟨_, h1⟩
theorem StoOk.free (h : StoOk G H S) {a : Addr} (n : H a = none) : S a = none := by
  cases e : S a with
  | none => rfl
  | some c =>
    obtain ⟨o, q⟩ := (h.at_ a c e).there
    rw [n] at q
    cases q
theorem StoOk.nom (h : StoOk G H S) {a : Addr} (n : H a = none) : ¬ G.M a := fun m => h.msk a m n
theorem upd_some {p a : Addr} {o : HO} (h : H a ≠ none) : upd H p o a ≠ none := fun z => by
  by_cases e : a = p
  · subst e
    rw [upd_same] at z
    cases z
  · rw [upd_ne e] at z
    exact h z
theorem Rd.ne {p b : Addr} {u : HO} (n : H p = none) (h : Rd H b u) : b ≠ p := fun e => by
  subst e
  rcases h with h | ⟨_, h⟩ <;> rw [n] at h <;> cases h
theorem Rd.upd {p b : Addr} {u o : HO} (ne : b ≠ p) (h : Rd H b u) : Rd (upd H p o) b u := by
  rcases h with h | ⟨q, h⟩
  · exact .inl ((upd_ne ne).trans h)
  · exact .inr ⟨q, (upd_ne ne).trans h⟩
/-- a new object that no cell is -/
theorem Ext.new {p : Addr} {o : HO} (n : H p = none) : Ext S H S (upd H p o) := fun b u k =>
  ⟨fun h _ => ⟨(upd_ne (ne_of_none h n)).trans h, k⟩, fun h _ => ⟨Rd.upd (Rd.ne n h) h, k⟩⟩
theorem StoOk.new {p : Addr} {o : HO} (h : StoOk G H S) (n : H p = none) : StoOk G (upd H p o) S := ⟨fun a c e =>
  (h.at_ a c e).ext (Ext.new n) (upd_ne fun z => by
    subst z
    obtain ⟨o, q⟩ := (h.at_ _ c e).there
    rw [n] at q
    cases q), fun a m => upd_some (h.msk a m), h.sep⟩
/-- a cell written, or a new one -/
theorem Ext.cell {p : Addr} {o : HO} {c : Cell} (n : H p = none ∨ ∃ c, S p = some c) : Ext S H (ups S p c) (upd H p o) := fun b u k => by
  have ne : ∀ {u}, Rd H b u → b ≠ p := fun h e => by
    subst e
    rcases n with n | ⟨c, n⟩
    · exact Rd.ne n h rfl
    · rw [n] at k; cases k
  exact ⟨fun h _ => ⟨(upd_ne (ne (.inl h))).trans h, (ups_ne (ne (.inl h))).trans k⟩, fun h _ => ⟨Rd.upd (ne h) h, (ups_ne (ne h)).trans k⟩⟩
theorem StoOk.cell {p : Addr} {o : HO} {c : Cell} (h : StoOk G H S) (n : H p = none ∨ ∃ c, S p = some c) (k : CellOk G (upd H p o) (ups S p c) p c) : StoOk G (upd H p o) (ups S p c) := ⟨fun a d e => by
  by_cases q : a = p
  · subst q
    rw [ups_same] at e
    cases e
    exact k
  · rw [ups_ne q] at e
    exact (h.at_ a d e).ext (Ext.cell n) (upd_ne q), fun a m => upd_some (h.msk a m), fun a m => by
  have q : a ≠ p := fun e => by
    subst e
    rcases n with n | ⟨c, n⟩
    · exact h.nom n m
    · rw [h.sep _ m] at n
      cases n
  rw [ups_ne q]
  exact h.sep a m⟩
/-- a cell given up: it stands from now on -/
theorem Ext.drop (h : ∀ a, S a = none → S' a = none) : Ext S H S' H := fun b _ n => ⟨fun r _ => ⟨r, h b n⟩, fun r _ => ⟨r, h b n⟩⟩
theorem StoOk.drop (h : StoOk G H S) (k : ∀ a c, S' a = some c → S a = some c) : StoOk G H S' := ⟨fun a c e =>
  (h.at_ a c (k a c e)).ext (Ext.drop fun b n => by
    cases q : S' b with
    | none => rfl
    | some d => rw [k b d q] at n; cases n) rfl, h.msk, fun a m => by
  cases q : S' a with
  | none => rfl
  | some d =>
    have z := k a d q
    rw [h.sep a m] at z
    cases z⟩
/-- a thing that is not looked at is written -/
theorem ExtM.at {p : Addr} {o : HO} (h : M p) : ExtM M S H S (upd H p o) := fun b u nb k => by
  have ne : b ≠ p := fun e => nb (e ▸ h)
  exact ⟨fun h _ => ⟨(upd_ne ne).trans h, k⟩, fun h _ => ⟨Rd.upd ne h, k⟩⟩
theorem Reps.length : ∀ {ts : List T} {vs : List V}, Reps G H S ts vs → ts.length = vs.length
  | [], _, h => by cases h; rfl
  | _ :: _, _, h => by
    cases h with
    | cons _ h2 => rw [List.length_cons, List.length_cons, Reps.length h2]
theorem Reps.append : ∀ {ts us : List T} {vs ws : List V}, Reps G H S ts vs → Reps G H S us ws → Reps G H S (ts ++ us) (vs ++ ws)
  | [], _, _, _, h, h2 => by cases h; exact h2
  | _ :: _, _, _, _, h, h2 => by
    cases h with
    | cons q1 q2 => exact .cons q1 (Reps.append q2 h2)
theorem Reps.get : ∀ {ts : List T} {vs : List V} {i : Nat} {t : T}, Reps G H S ts vs → ts[i]? = some t → ∃ v, vs[i]? = some v ∧ Rep G H S t v
  | [], _, _, _, _, e => by simp at e
  | _ :: _, _, 0, _, h, e => by
    cases h with
    | cons q1 _ =>
      simp at e
      subst e
      exact ⟨_, rfl, q1⟩
  | _ :: _, _, i + 1, _, h, e => by
    cases h with
    | cons _ q2 =>
      obtain ⟨v, h1, h2⟩ := Reps.get (i := i) q2 (by simpa using e)
      exact ⟨v, by simpa using h1, h2⟩
theorem Reps.set {t : T} {v : V} (r : Rep G H S t v) : ∀ {ts : List T} {vs : List V} (i : Nat), Reps G H S ts vs → Reps G H S (ts.set i t) (vs.set i v)
  | [], _, _, h => by cases h; exact .nil
  | _ :: _, _, 0, h => by
    cases h with
    | cons _ q2 => exact .cons r q2
  | _ :: _, _, i + 1, h => by
    cases h with
    | cons q1 q2 => exact .cons q1 (Reps.set r i q2)
theorem Reps.take : ∀ {ts : List T} {vs : List V} (n : Nat), Reps G H S ts vs → Reps G H S (ts.take n) (vs.take n)
  | _, _, 0, _ => .nil
  | [], _, _ + 1, h => by cases h; exact .nil
  | _ :: _, _, n + 1, h => by
    cases h with
    | cons q1 q2 => exact .cons q1 (Reps.take n q2)
theorem Reps.drop : ∀ {ts : List T} {vs : List V} (n : Nat), Reps G H S ts vs → Reps G H S (ts.drop n) (vs.drop n)
  | _, _, 0, h => h
  | [], _, _ + 1, h => by cases h; exact .nil
  | _ :: _, _, n + 1, h => by
    cases h with
    | cons _ q2 => exact Reps.drop n q2
end
abbrev Gd.mask (G : Gd) (M : Addr → Prop) : Gd := { G with M := M }
section
variable {G : Gd} {H : Hp} {S : Sto} {M : Addr → Prop}
theorem At.mask {a : Addr} {u : HO} (k : ∀ a u, Rd H a u → ¬ G.M a → ¬ M a) (h : At G.M H S a u) : At (G.mask M).M H S a u := ⟨h.1, h.2.1, k a u h.1 h.2.2⟩
mutual
theorem Rep.mask (k : ∀ a u, Rd H a u → ¬ G.M a → ¬ M a) : ∀ (t : T) (v : V), Rep G H S t v → Rep (G.mask M) H S t v
  | .non, _, h => by cases h; exact .non
  | .bl _, _, h => by cases h; exact .bl _
  | .int _, _, h => by cases h; exact .int _
  | .str _, _, h => by cases h; exact .str _
  | .ref _, _, h => by cases h; exact .ref _
  | .fn _, _, h => by cases h; exact .fn _
  | .scr _, _, h => by
    cases h with
    | scr h1 => exact .scr (h1.imp (fun ⟨o, z1, z2, z3⟩ => ⟨o, z1, z2, k _ _ (.inl z1) z3⟩) id)
  | .tup ts, _, h => by
    cases h with
    | tup h1 h2 => exact .tup (h1.elim (fun z => .inl (z.mask k)) .inr) (Reps.mask k ts _ h2)
  | .lst ts, _, h => by
    cases h with
    | lst h1 h2 => exact .lst ⟨h1.1, h1.2.1, k _ _ (.inl h1.1) h1.2.2⟩ (Reps.mask k ts _ h2)
  | .exc c ns ts, _, h => by
    cases h with
    | exc0 h1 => exact .exc0 (h1.mask k)
    | exc1 h1 h2 h3 h4 => exact .exc1 (h1.mask k) (h2.mask k) h3 (Reps.mask k ts _ h4)
  | .dct b ks vs, _, h => by
    cases h with
    | dK h1 h2 h3 => exact .dK (h1.mask k) (Reps.mask k ks _ h2) (Reps.mask k vs _ h3)
    | dN h1 h2 h3 h4 => exact .dN (h1.mask k) h2 (Reps.mask k ks _ h3) (Reps.mask k vs _ h4)
  | .obj c ns ts, _, h => by
    cases h with
    | obj h1 h2 h3 => exact .obj (h1.mask k) h2 (Reps.mask k ts _ h3)
theorem Reps.mask (k : ∀ a u, Rd H a u → ¬ G.M a → ¬ M a) : ∀ (ts : List T) (vs : List V), Reps G H S ts vs → Reps (G.mask M) H S ts vs
  | [], _, h => by cases h; exact .nil
  | t :: ts, _, h => by
    cases h with
    | cons h1 h2 => exact .cons (Rep.mask k t _ h1) (Reps.mask k ts _ h2)
end
theorem CellOk.mask (k : ∀ a u, Rd H a u → ¬ G.M a → ¬ M a) {a : Addr} {c : Cell} (q : CellOk G H S a c) : CellOk (G.mask M) H S a c := by
  cases c with
  | lst ts =>
    obtain ⟨xs, h1, h2⟩ := q
    exact ⟨xs, h1, Reps.mask k _ _ h2⟩
  | dct b ks vs =>
    cases b with
    | false =>
      obtain ⟨kvs, h1, h2, h3⟩ := q
      exact ⟨kvs, h1, Reps.mask k _ _ h2, Reps.mask k _ _ h3⟩
    | true =>
      obtain ⟨es, h1, h2, h3, h4⟩ := q
      exact ⟨es, h1, h2, Reps.mask k _ _ h3, Reps.mask k _ _ h4⟩
  | ins c ns ts =>
    obtain ⟨d, xs, h1, h2, h3⟩ := q
    exact ⟨d, xs, h1, h2, Reps.mask k _ _ h3⟩
/-- the mask put on a new object, and taken off -/
theorem StoOk.putOn {D : Addr} {o : HO} (h : StoOk G H S) (n : H D = none) : StoOk (G.mask fun a => G.M a ∨ a = D) (upd H D o) S := by
  have k : ∀ a u, Rd H a u → ¬ G.M a → ¬ (G.M a ∨ a = D) := fun a u r m z => z.elim m fun e => Rd.ne n r e
  refine ⟨fun a c e => ((h.at_ a c e).mask k).ext (Ext.new n) (upd_ne fun z => ?_), fun a m => ?_, fun a m => ?_⟩
  · subst z
    rw [h.free n] at e
    cases e
  · rcases m with m | m
    · exact upd_some (h.msk a m)
    · rw [m, upd_same]
      exact fun z => nomatch z
  · rcases m with m | m
    · exact h.sep a m
    · rw [m]
      exact h.free n
theorem StoOk.takeOff {M' : Addr → Prop} (h : StoOk (G.mask M') H S) (k : ∀ a, G.M a → M' a) : StoOk G H S :=
  ⟨fun a c e => (h.at_ a c e).mask (M := G.M) fun a _ _ n m => n (k a m), fun a m => h.msk a (k a m), fun a m => h.sep a (k a m)⟩
theorem Reps.takeOff {M' : Addr → Prop} {ts : List T} {vs : List V} (h : Reps (G.mask M') H S ts vs) (k : ∀ a, G.M a → M' a) : Reps G H S ts vs := Reps.mask (G := G.mask M') (M := G.M) (fun a _ _ n m => n (k a m)) _ _ h
theorem Rep.takeOff {M' : Addr → Prop} {t : T} {v : V} (h : Rep (G.mask M') H S t v) (k : ∀ a, G.M a → M' a) : Rep G H S t v := Rep.mask (G := G.mask M') (M := G.M) (fun a _ _ n m => n (k a m)) _ _ h
/-- a masked object is written -/
theorem StoOk.at {p : Addr} {o : HO} (h : StoOk G H S) (m : G.M p) (n : S p = none) : StoOk G (upd H p o) S := ⟨fun a c e =>
  (h.at_ a c e).extM (ExtM.at m) (upd_ne fun z => by subst z; rw [n] at e; cases e), fun a m => upd_some (h.msk a m), h.sep⟩
end
end TL

/-! TLb: readings over trees; expressions, tests, arguments, small statements. -/
namespace TL
open PySem PySem.Spec PyProof.Rows L2

abbrev TTE := TEnv → Sto → (T → Sto → Prop) → (T → Sto → Prop) → Prop
abbrev TTA := TEnv → Sto → (List T → Sto → Prop) → (T → Sto → Prop) → Prop
abbrev TTB := TEnv → Sto → (Bool → Sto → Prop) → (T → Sto → Prop) → Prop
structure TD where
  nx : TEnv → Sto → Prop
  rt : T → Sto → Prop
  bk : TEnv → Sto → Prop := fun _ _ => False
  ct : TEnv → Sto → Prop := fun _ _ => False
abbrev TTS := TD → TEnv → Sto → (T → TEnv → Sto → Prop) → Prop

abbrev gdOf (X : Cx) (M : Addr → Prop) : Gd := ⟨X.prog, X.K, X.w, M⟩
def EnvR (G : Gd) (H : Hp) (S : Sto) (σ : L2.St) (τ : TEnv) : Prop := σ.length = τ.length ∧ ∀ (i : Nat) (t : T), τ[i]? = some (some t) → ∃ v, σ[i]? = some (some v) ∧ Rep G H S t v
/-- a state and its trees; S0, H0: at the def's entry -/
structure Rel (G : Gd) (S0 : Sto) (H0 : Hp) (σ : L2.St) (H : Hp) (τ : TEnv) (S : Sto) : Prop where
  env : EnvR G H S σ τ
  sto : StoOk G H S
  ext : Ext S0 H0 S H
/-- an exception that flies -/
def ExcIs (G : Gd) (H : Hp) (S : Sto) (x : T) (cls : Value) (d : Option Addr) : Prop :=
  ∃ c ns ts, x = .exc c ns ts ∧ cls = .ref (He.ga G.K c) ∧ ((ns = [] ∧ ts = [] ∧ d = none) ∨ ∃ da xs, d = some da ∧ At G.M H S da (exd da (ns.zip xs)) ∧ ns.length = xs.length ∧ Reps G H S ts xs)
def wOf (X : Cx) (M : Addr → Prop) (S0 : Sto) (H0 : Hp) (E : T → TEnv → Sto → Prop) : WX := fun cls d σ H => ∃ τ S x, Rel (gdOf X M) S0 H0 σ H τ S ∧ ExcIs (gdOf X M) H S x cls d ∧ E x τ S

section
variable {G : Gd} {S0 S S' : Sto} {H0 H H' : Hp} {σ : L2.St} {τ : TEnv}
theorem EnvR.ext (h : EnvR G H S σ τ) (x : Ext S H S' H') : EnvR G H' S' σ τ := ⟨h.1, fun i t e => let ⟨v, h1, h2⟩ := h.2 i t e; ⟨v, h1, Rep.ext x t v h2⟩⟩
theorem Rel.step (r : Rel G S0 H0 σ H τ S) (h : StoOk G H' S') (x : Ext S H S' H') : Rel G S0 H0 σ H' τ S' := ⟨r.env.ext x, h, r.ext.trans x⟩
theorem Rel.set {i : Nat} {t : T} {v : V} (r : Rel G S0 H0 σ H τ S) (h : Rep G H S t v) : Rel G S0 H0 (σ.set i (some v)) H (τ.set i (some t)) S := by
  refine ⟨⟨by rw [List.length_set, List.length_set]; exact r.env.1, fun j u e => ?_⟩, r.sto, r.ext⟩
  have l := r.env.1
  by_cases hj : i = j
  · subst hj
    have hi : i < τ.length := by
      have z := (List.getElem?_eq_some_iff.mp e).1
      rwa [List.length_set] at z
    rw [List.getElem?_set_self hi] at e
    cases e
    exact ⟨v, List.getElem?_set_self (by omega), h⟩
  · rw [List.getElem?_set_ne hj] at e
    obtain ⟨w, h1, h2⟩ := r.env.2 j u e
    exact ⟨w, by rw [List.getElem?_set_ne hj]; exact h1, h2⟩
end

/-! ### lifted readings -/
def LE (X : Cx) (M : Addr → Prop) (S0 : Sto) (H0 : Hp) (t : TTE) (E : T → TEnv → Sto → Prop) : L2.TE := fun σ H Q => ∃ τ S Qt, Rel (gdOf X M) S0 H0 σ H τ S ∧ t τ S Qt (fun x S' => E x τ S') ∧
  ∀ z S' v H', Qt z S' → StoOk (gdOf X M) H' S' → Ext S H S' H' → Rep (gdOf X M) H' S' z v → Q v H'
def LB (X : Cx) (M : Addr → Prop) (S0 : Sto) (H0 : Hp) (t : TTB) (E : T → TEnv → Sto → Prop) : L2.TT := fun σ H Q => ∃ τ S Qt, Rel (gdOf X M) S0 H0 σ H τ S ∧ t τ S Qt (fun x S' => E x τ S') ∧
  ∀ b S' H', Qt b S' → StoOk (gdOf X M) H' S' → Ext S H S' H' → Q b H'
def LA (X : Cx) (M : Addr → Prop) (S0 : Sto) (H0 : Hp) (t : TTA) (E : T → TEnv → Sto → Prop) : L2.TA := fun σ H Q => ∃ τ S Qt, Rel (gdOf X M) S0 H0 σ H τ S ∧ t τ S Qt (fun x S' => E x τ S') ∧
  ∀ zs S' vs H', Qt zs S' → StoOk (gdOf X M) H' S' → Ext S H S' H' → Reps (gdOf X M) H' S' zs vs → Q vs H'
def LS (X : Cx) (M : Addr → Prop) (S0 : Sto) (H0 : Hp) (t : TTS) (E : T → TEnv → Sto → Prop) : L2.TS := fun D σ H => ∃ τ S B, Rel (gdOf X M) S0 H0 σ H τ S ∧ t B τ S E ∧
  (∀ σ' H' τ' S', Rel (gdOf X M) S0 H0 σ' H' τ' S' → Ext S H S' H' → B.nx τ' S' → D.nx σ' H') ∧ (∀ z S' v H', StoOk (gdOf X M) H' S' → Ext S H S' H' → Rep (gdOf X M) H' S' z v → B.rt z S' → D.rt v H') ∧
  (∀ σ' H' τ' S', Rel (gdOf X M) S0 H0 σ' H' τ' S' → Ext S H S' H' → B.bk τ' S' → D.bk σ' H') ∧ (∀ σ' H' τ' S', Rel (gdOf X M) S0 H0 σ' H' τ' S' → Ext S H S' H' → B.ct τ' S' → D.ct σ' H')

/-- e reads as t -/
def TE (X : Cx) (e : Expr) (t : TTE) : Prop := ∀ M S0 H0 E, Takes X (wOf X M S0 H0 E) → PE X e (LE X M S0 H0 t E)
def TB (X : Cx) (e : Expr) (t : TTB) : Prop := ∀ M S0 H0 E, Takes X (wOf X M S0 H0 E) → PT X e (LB X M S0 H0 t E)
def TW (X : Cx) (e : Expr) (t : TTB) : Prop := ∀ M S0 H0 E, Takes X (wOf X M S0 H0 E) → PW X e (LB X M S0 H0 t E)
def TA (X : Cx) (es : List Expr) (t : TTA) : Prop := ∀ M S0 H0 E, Takes X (wOf X M S0 H0 E) → PA X es (LA X M S0 H0 t E)
def TS (X : Cx) (s : Stmt) (t : TTS) : Prop := ∀ M S0 H0 E, Takes X (wOf X M S0 H0 E) → PS X s (LS X M S0 H0 t E)
def TSs (X : Cx) (s : List Stmt) (t : TTS) : Prop := ∀ M S0 H0 E, Takes X (wOf X M S0 H0 E) → PSs X s (LS X M S0 H0 t E)

theorem _root_.L2.PE.weak {X : Cx} {e : Expr} {t u : L2.TE} (h : PE X e t) (k : ∀ σ H Q, u σ H Q → t σ H Q) : PE X e u := ⟨fun pins s σ H Q I q => h.run pins s σ H Q I (k _ _ _ q)⟩
theorem _root_.L2.PT.weak {X : Cx} {e : Expr} {t u : L2.TT} (h : PT X e t) (k : ∀ σ H Q, u σ H Q → t σ H Q) : PT X e u := ⟨fun pins s σ H Q I q => h.run pins s σ H Q I (k _ _ _ q)⟩
theorem _root_.L2.PW.weak {X : Cx} {e : Expr} {t u : L2.TT} (h : PW X e t) (k : ∀ σ H Q, u σ H Q → t σ H Q) : PW X e u := ⟨fun wh pins s σ H Q I q => h.run wh pins s σ H Q I (k _ _ _ q)⟩
theorem _root_.L2.PA.weak {X : Cx} {es : List Expr} {t u : L2.TA} (h : PA X es t) (k : ∀ σ H Q, u σ H Q → t σ H Q) : PA X es u := ⟨fun pos pins s σ H Q I q => h.run pos pins s σ H Q I (k _ _ _ q)⟩
theorem _root_.L2.PS.weak {X : Cx} {s : Stmt} {t u : L2.TS} (h : PS X s t) (k : ∀ D σ H, u D σ H → t D σ H) : PS X s u := ⟨fun pins s σ H D I q => h.run pins s σ H D I (k _ _ _ q)⟩
theorem _root_.L2.PSs.weak {X : Cx} {s : List Stmt} {t u : L2.TS} (h : PSs X s t) (k : ∀ D σ H, u D σ H → t D σ H) : PSs X s u := ⟨fun pins s σ H D I q => h.run pins s σ H D I (k _ _ _ q)⟩

/-! ### combinators -/
def cVar (i : Nat) : TTE := fun τ S Q _ => ∃ t, τ[i]? = some (some t) ∧ Q t S
def cC (t : T) : TTE := fun _ S Q _ => Q t S
def cOp (op : Sto → T → T → Option T) (a b : TTE) : TTE := fun τ S Q E => a τ S (fun x S1 => b τ S1 (fun y S2 => ∃ z, op S2 x y = some z ∧ Q z S2) E) E
def cUn (op : Sto → T → Option T) (a : TTE) : TTE := fun τ S Q E => a τ S (fun x S1 => ∃ z, op S1 x = some z ∧ Q z S1) E
def cIf (c : TTB) (a b : TTE) : TTE := fun τ S Q E => c τ S (fun k S1 => if k = true then a τ S1 Q E else b τ S1 Q E) E
def cNil : TTA := fun _ S Q _ => Q [] S
def cCons (a : TTE) (r : TTA) : TTA := fun τ S Q E => a τ S (fun x S1 => r τ S1 (fun xs S2 => Q (x :: xs) S2) E) E
def cTup (a : TTA) : TTE := fun τ S Q E => a τ S (fun xs S1 => xs.length ≤ sizeLine ∧ Q (.tup xs) S1) E
def cLst (a : TTA) : TTE := fun τ S Q E => a τ S (fun xs S1 => xs.length ≤ sizeLine ∧ Q (.lst xs) S1) E
def cLstM (a : TTA) : TTE := fun τ S Q E => a τ S (fun xs S1 => xs.length ≤ sizeLine ∧ ∀ p, S1 p = none → Q (.ref p) (ups S1 p (.lst xs))) E
def bVal (a : TTE) : TTB := fun τ S Q E => a τ S (fun x S1 => ∃ b, x = .bl b ∧ Q b S1) E
def bAnd (a b : TTB) : TTB := fun τ S Q E => a τ S (fun k S1 => if k = true then b τ S1 Q E else Q false S1) E
def bOr (a b : TTB) : TTB := fun τ S Q E => a τ S (fun k S1 => if k = true then Q true S1 else b τ S1 Q E) E
def bNot (a : TTB) : TTB := fun τ S Q E => a τ S (fun k S1 => Q (!k) S1) E
/-- and, or, not of truths as values -/
def cAnd (a b : TTE) : TTE := fun τ S Q E => a τ S (fun x S1 => ∃ k, x = .bl k ∧ if k = true then b τ S1 Q E else Q (.bl false) S1) E
def cOr (a b : TTE) : TTE := fun τ S Q E => a τ S (fun x S1 => ∃ k, x = .bl k ∧ if k = true then Q (.bl true) S1 else b τ S1 Q E) E
def cNot (a : TTE) : TTE := fun τ S Q E => a τ S (fun x S1 => ∃ k, x = .bl k ∧ Q (.bl (!k)) S1) E

section
variable {X : Cx} {S0 : Sto} {H0 : Hp} {e a b : Expr} {es : List Expr} {ta tb : TTE} {tA tB : TTB} {tr : TTA} {pos : Pos}

theorem te_var {i : Nat} {x : Str} (hN : X.N[i]? = some x) (hv : Vis X.env.scope x) (hd : (x == ("__debug__" : Str)) = false := by decide) (hcd : (x == ("__classdict__" : Str)) = false := by decide) : TE X (.Name x pos) (cVar i) := fun M S0 H0 E tk =>
  (pe_var hN hv hd hcd).weak fun σ H Q ⟨τ, S, Qt, r, ⟨t, e, h⟩, k⟩ => let ⟨v, h1, h2⟩ := r.env.2 i t e; ⟨v, h1, k t S v H h r.sto Ext.refl h2⟩
theorem te_const {t : T} {v : V} (h : PE X e (tC v)) (hr : ∀ M H S, Rep (gdOf X M) H S t v) : TE X e (cC t) := fun M S0 H0 E tk =>
  h.weak fun σ H Q ⟨τ, S, Qt, r, h, k⟩ => k t S v H h r.sto Ext.refl (hr M H S)
theorem te_int {i j} : TE X (.Constant (.int i) j pos) (cC (.int i)) := te_const pe_int fun _ _ _ => .int i
theorem te_bl {i j} : TE X (.Constant (.bool i) j pos) (cC (.bl i)) := te_const pe_bl fun _ _ _ => .bl i
theorem te_non {j} : TE X (.Constant .none j pos) (cC .non) := te_const pe_non fun _ _ _ => .non
/-- a written text's signs -/
def q (s : Str) : List Sg := s.cps.toList.map fun c => ⟨c % 128, Nat.mod_lt _ (by decide)⟩
theorem te_str {x : Str} {j} (h : txt (q x) = x := by decide +kernel) : TE X (.Constant (.str x) j pos) (cC (.str (q x))) := te_const pe_str fun M H S => by
  have r := Rep.str (G := gdOf X M) (H := H) (S := S) (q x)
  rw [h] at r
  exact r

/-- an operation on trees -/
def OpT (X : Cx) (f : Value → Value → Sem Value) (op : Sto → T → T → Option T) : Prop :=
  OpR X f fun x y H Q => ∃ M S tx ty t, StoOk (gdOf X M) H S ∧ Rep (gdOf X M) H S tx x ∧ Rep (gdOf X M) H S ty y ∧ op S tx ty = some t ∧ ∀ v H', StoOk (gdOf X M) H' S → Ext S H S H' → Rep (gdOf X M) H' S t v → Q v H'
def UnT (X : Cx) (f : Value → Sem Value) (op : Sto → T → Option T) : Prop :=
  UnR X f fun x H Q => ∃ M S tx t, StoOk (gdOf X M) H S ∧ Rep (gdOf X M) H S tx x ∧ op S tx = some t ∧ ∀ v H', StoOk (gdOf X M) H' S → Ext S H S H' → Rep (gdOf X M) H' S t v → Q v H'
/-- two expressions in a row -/
theorem two {r : R2} {M : Addr → Prop} {op : Sto → T → T → Option T} {E : T → TEnv → Sto → Prop} {σ : L2.St} {H : Hp} {Q : VK}
    (hr : ∀ x y H Q, (∃ M S tx ty t, StoOk (gdOf X M) H S ∧ Rep (gdOf X M) H S tx x ∧ Rep (gdOf X M) H S ty y ∧ op S tx ty = some t ∧ ∀ v H', StoOk (gdOf X M) H' S → Ext S H S H' → Rep (gdOf X M) H' S t v → Q v H') → r x y H Q)
    (h : LE X M S0 H0 (cOp op ta tb) E σ H Q) : tOp r (LE X M S0 H0 ta E) (LE X M S0 H0 tb E) σ H Q := by
  obtain ⟨τ, S, Qt, rel, h, k⟩ := h
  refine ⟨τ, S, _, rel, h, fun zx S1 x H1 hb o1 x1 r1 => ⟨τ, S1, _, rel.step o1 x1, hb, fun zy S2 y H2 hz o2 x2 r2 => hr _ _ _ _ ?_⟩⟩
  obtain ⟨z, e, hq⟩ := hz
  exact ⟨M, S2, zx, zy, z, o2, Rep.ext x2 _ _ r1, r2, e, fun v H' o3 x3 r3 => k z S2 v H' hq o3 ((x1.trans x2).trans x3) r3⟩
theorem te_bin {op : Operator} {f : Sto → T → T → Option T} (ho : OpT X (binaryOp op) f) (ha : TE X a ta) (hb : TE X b tb) : TE X (.BinOp a op b pos) (cOp f ta tb) := fun M S0 H0 E tk =>
  (pe_op ho (ha M S0 H0 E tk) (hb M S0 H0 E tk)).weak fun _ _ _ h => two (fun _ _ _ _ z => z) h
theorem te_cmp {op : CmpOp} {f : Sto → T → T → Option T} (ho : OpT X (compareOp op) f) (ha : TE X a ta) (hb : TE X b tb) (hm : behindInMarks op b = false) : TE X (.Compare a [op] [b] pos) (cOp f ta tb) := fun M S0 H0 E tk =>
  (pe_cmpR ho (ha M S0 H0 E tk) (hb M S0 H0 E tk) hm).weak fun _ _ _ h => two (fun _ _ _ _ z => z) h
theorem te_un {op : UnaryOp} {f : Sto → T → Option T} (ho : UnT X (unaryOp op) f) (ha : TE X a ta) : TE X (.UnaryOp op a pos) (cUn f ta) := fun M S0 H0 E tk =>
  (pe_un ho (ha M S0 H0 E tk)).weak fun σ H Q ⟨τ, S, Qt, rel, h, k⟩ => ⟨τ, S, _, rel, h, fun zx S1 x H1 ⟨z, e, hq⟩ o1 x1 r1 => ⟨M, S1, zx, z, o1, r1, e, fun v H' o3 x3 r3 => k z S1 v H' hq o3 (x1.trans x3) r3⟩⟩
/-- a truth as a test -/
theorem tb_val (ha : TE X a ta) (he : ∀ whole, isTrue a X.env whole = (do let v ← whole; standAt a.pos; holding [v] (truthy v)) := by intro _; rfl) : TB X a (bVal ta) := fun M S0 H0 E tk =>
  (pt_val (ha M S0 H0 E tk) he).weak fun σ H Q ⟨τ, S, Qt, rel, h, k⟩ => ⟨τ, S, _, rel, h, fun zx S1 x H1 ⟨b, e, hq⟩ o1 x1 r1 => by
    subst e
    cases r1
    exact ⟨b, rfl, k b S1 H1 hq o1 x1⟩⟩
theorem tb_cmp {op : CmpOp} {f : Sto → T → T → Option T} (ho : OpT X (compareOp op) f) (ha : TE X a ta) (hb : TE X b tb) (hm : behindInMarks op b = false) : TB X (.Compare a [op] [b] pos) (bVal (cOp f ta tb)) := fun M S0 H0 E tk =>
  (pt_cmpR ho (ha M S0 H0 E tk) (hb M S0 H0 E tk) hm).weak fun σ H Q ⟨τ, S, Qt, rel, h, k⟩ => two (S0 := S0) (H0 := H0) (fun _ _ _ _ z => z) ⟨τ, S, _, rel, h, fun zx S1 x H1 ⟨b, e, hq⟩ o1 x1 r1 => by
    subst e
    cases r1
    exact ⟨b, rfl, k b S1 H1 hq o1 x1⟩⟩
theorem TW.toB (h : TW X a tA) : TB X a tA := fun M S0 H0 E tk => (h M S0 H0 E tk).pt
theorem tw_and1 (ha : TB X a tA) : TW X (.BoolOp .And [a] pos) tA := fun M S0 H0 E tk => pw_and1 (ha M S0 H0 E tk)
theorem tw_or1 (ha : TB X a tA) : TW X (.BoolOp .Or [a] pos) tA := fun M S0 H0 E tk => pw_or1 (ha M S0 H0 E tk)
theorem tw_and {rest : List Expr} (ha : TB X a tA) (hb : TW X (.BoolOp .And (b :: rest) pos) tB) : TW X (.BoolOp .And (a :: b :: rest) pos) (bAnd tA tB) := fun M S0 H0 E tk =>
  (pw_and (ha M S0 H0 E tk) (hb M S0 H0 E tk)).weak fun σ H Q ⟨τ, S, Qt, rel, h, k⟩ => ⟨τ, S, _, rel, h, fun c S1 H1 hq o1 x1 => by
    cases c with
    | true => exact ⟨τ, S1, _, rel.step o1 x1, hq, fun d S2 H2 hq2 o2 x2 => k d S2 H2 hq2 o2 (x1.trans x2)⟩
    | false => exact k false S1 H1 hq o1 x1⟩
theorem tw_or {rest : List Expr} (ha : TB X a tA) (hb : TW X (.BoolOp .Or (b :: rest) pos) tB) : TW X (.BoolOp .Or (a :: b :: rest) pos) (bOr tA tB) := fun M S0 H0 E tk =>
  (pw_or (ha M S0 H0 E tk) (hb M S0 H0 E tk)).weak fun σ H Q ⟨τ, S, Qt, rel, h, k⟩ => ⟨τ, S, _, rel, h, fun c S1 H1 hq o1 x1 => by
    cases c with
    | false => exact ⟨τ, S1, _, rel.step o1 x1, hq, fun d S2 H2 hq2 o2 x2 => k d S2 H2 hq2 o2 (x1.trans x2)⟩
    | true => exact k true S1 H1 hq o1 x1⟩
theorem tb_not (ha : TB X a tA) : TB X (.UnaryOp .Not a pos) (bNot tA) := fun M S0 H0 E tk =>
  (pt_not (ha M S0 H0 E tk)).weak fun σ H Q ⟨τ, S, Qt, rel, h, k⟩ => ⟨τ, S, _, rel, h, fun c S1 H1 hq o1 x1 => k (!c) S1 H1 hq o1 x1⟩
theorem te_one {op} (ha : TE X a ta) : TE X (.BoolOp op [a] pos) ta := fun M S0 H0 E tk => pe_one (ha M S0 H0 E tk)
theorem te_and {rest : List Expr} (ha : TE X a ta) (hb : TE X (.BoolOp .And (b :: rest) pos) tb) : TE X (.BoolOp .And (a :: b :: rest) pos) (cAnd ta tb) := fun M S0 H0 E tk =>
  (pe_and (ha M S0 H0 E tk) (hb M S0 H0 E tk)).weak fun σ H Q ⟨τ, S, Qt, rel, h, k⟩ => ⟨τ, S, _, rel, h, fun z S1 v H1 ⟨c, e, hq⟩ o1 x1 r1 => by
    subst e
    cases r1
    cases c with
    | true => exact ⟨true, rfl, τ, S1, _, rel.step o1 x1, hq, fun d S2 v H2 hq2 o2 x2 r2 => k d S2 v H2 hq2 o2 (x1.trans x2) r2⟩
    | false => exact ⟨false, rfl, k (.bl false) S1 _ H1 hq o1 x1 (.bl _)⟩⟩
theorem te_or {rest : List Expr} (ha : TE X a ta) (hb : TE X (.BoolOp .Or (b :: rest) pos) tb) : TE X (.BoolOp .Or (a :: b :: rest) pos) (cOr ta tb) := fun M S0 H0 E tk =>
  (pe_or (ha M S0 H0 E tk) (hb M S0 H0 E tk)).weak fun σ H Q ⟨τ, S, Qt, rel, h, k⟩ => ⟨τ, S, _, rel, h, fun z S1 v H1 ⟨c, e, hq⟩ o1 x1 r1 => by
    subst e
    cases r1
    cases c with
    | false => exact ⟨false, rfl, τ, S1, _, rel.step o1 x1, hq, fun d S2 v H2 hq2 o2 x2 r2 => k d S2 v H2 hq2 o2 (x1.trans x2) r2⟩
    | true => exact ⟨true, rfl, k (.bl true) S1 _ H1 hq o1 x1 (.bl _)⟩⟩
theorem te_not (ha : TE X a ta) : TE X (.UnaryOp .Not a pos) (cNot ta) := fun M S0 H0 E tk =>
  (pe_not (ha M S0 H0 E tk)).weak fun σ H Q ⟨τ, S, Qt, rel, h, k⟩ => ⟨τ, S, _, rel, h, fun z S1 v H1 ⟨c, e, hq⟩ o1 x1 r1 => by
    subst e
    cases r1
    exact ⟨c, rfl, k _ S1 _ H1 hq o1 x1 (.bl _)⟩⟩
theorem te_if {c : Expr} (hc : TB X c tA) (ha : TE X a ta) (hb : TE X b tb) : TE X (.IfExp c a b pos) (cIf tA ta tb) := fun M S0 H0 E tk =>
  (pe_ifExp (hc M S0 H0 E tk) (ha M S0 H0 E tk) (hb M S0 H0 E tk)).weak fun σ H Q ⟨τ, S, Qt, rel, h, k⟩ => ⟨τ, S, _, rel, h, fun c S1 H1 hq o1 x1 => by
    cases c with
    | true => exact ⟨τ, S1, _, rel.step o1 x1, hq, fun d S2 v H2 hq2 o2 x2 r2 => k d S2 v H2 hq2 o2 (x1.trans x2) r2⟩
    | false => exact ⟨τ, S1, _, rel.step o1 x1, hq, fun d S2 v H2 hq2 o2 x2 r2 => k d S2 v H2 hq2 o2 (x1.trans x2) r2⟩⟩
/-! arguments, displays -/
theorem ta_nil : TA X [] cNil := fun M S0 H0 E tk => pa_nil.weak fun σ H Q ⟨τ, S, Qt, rel, h, k⟩ => k [] S [] H h rel.sto Ext.refl .nil
theorem ta_cons (ha : TE X e ta) (hr : TA X es tr) (hs : starEach (e :: es) X.env = (false, eval e X.env) :: starEach es X.env := by rfl) : TA X (e :: es) (cCons ta tr) := fun M S0 H0 E tk =>
  (pa_cons (ha M S0 H0 E tk) (hr M S0 H0 E tk) hs).weak fun σ H Q ⟨τ, S, Qt, rel, h, k⟩ => ⟨τ, S, _, rel, h, fun z S1 v H1 hq o1 x1 r1 =>
    ⟨τ, S1, _, rel.step o1 x1, hq, fun zs S2 vs H2 hq2 o2 x2 r2 => k (z :: zs) S2 (v :: vs) H2 hq2 o2 (x1.trans x2) (.cons (Rep.ext x2 _ _ r1) r2)⟩⟩
theorem te_tup {k} (h : TA X es tr) : TE X (.Tuple es k pos) (cTup tr) := fun M S0 H0 E tk =>
  (pe_tup (h M S0 H0 E tk)).weak fun σ H Q ⟨τ, S, Qt, rel, h, k⟩ => ⟨τ, S, _, rel, h, fun zs S1 vs H1 ⟨hl, hq⟩ o1 x1 r1 =>
    ⟨by rw [← r1.length]; exact hl, fun p n => k (.tup zs) S1 (.ref p) _ hq (o1.new n) (x1.trans (Ext.new n)) (.tup (.inl ⟨.inl upd_same, o1.free n, o1.nom n⟩) (Reps.ext (Ext.new n) _ _ r1))⟩⟩
theorem te_lst (h : TA X es tr) : TE X (.List es pos) (cLst tr) := fun M S0 H0 E tk =>
  (pe_lst (h M S0 H0 E tk)).weak fun σ H Q ⟨τ, S, Qt, rel, h, k⟩ => ⟨τ, S, _, rel, h, fun zs S1 vs H1 ⟨hl, hq⟩ o1 x1 r1 =>
    ⟨by rw [← r1.length]; exact hl, fun p n => k (.lst zs) S1 (.ref p) _ hq (o1.new n) (x1.trans (Ext.new n)) (.lst ⟨upd_same, o1.free n, o1.nom n⟩ (Reps.ext (Ext.new n) _ _ r1))⟩⟩
theorem te_lstM (h : TA X es tr) : TE X (.List es pos) (cLstM tr) := fun M S0 H0 E tk =>
  (pe_lst (h M S0 H0 E tk)).weak fun σ H Q ⟨τ, S, Qt, rel, h, k⟩ => ⟨τ, S, _, rel, h, fun zs S1 vs H1 ⟨hl, hq⟩ o1 x1 r1 =>
    ⟨by rw [← r1.length]; exact hl, fun p n => k (.ref p) (ups S1 p (.lst zs)) (.ref p) _ (hq p (o1.free n)) (o1.cell (.inl n) ⟨vs, upd_same, Reps.ext (Ext.cell (.inl n)) _ _ r1⟩) (x1.trans (Ext.cell (.inl n))) (.ref p)⟩⟩
end
end TL

/-! TLc: statements, targets, loops, comprehensions over trees. -/
namespace TL
open PySem PySem.Spec PyProof.Rows L2

abbrev TTG := T → TEnv → Sto → (TEnv → Sto → Prop) → Prop
abbrev TTGs := List T → TEnv → Sto → (TEnv → Sto → Prop) → Prop
def LG (X : Cx) (M : Addr → Prop) (vs : List Nat) (S0 : Sto) (H0 : Hp) (g : TTG) : L2.TG := fun v σ H Q => ∃ τ S z Qt, Rel (gdOf X M) S0 H0 σ H τ S ∧ Rep (gdOf X M) H S z v ∧ g z τ S Qt ∧
  ∀ σ' H' τ' S', Rel (gdOf X M) S0 H0 σ' H' τ' S' → Ext S H S' H' → wipe σ' vs = wipe σ vs → Qt τ' S' → Q σ' H'
def LGs (X : Cx) (M : Addr → Prop) (vs : List Nat) (S0 : Sto) (H0 : Hp) (g : TTGs) : L2.TGs := fun xs σ H Q => ∃ τ S zs Qt, Rel (gdOf X M) S0 H0 σ H τ S ∧ Reps (gdOf X M) H S zs xs ∧ g zs τ S Qt ∧
  ∀ σ' H' τ' S', Rel (gdOf X M) S0 H0 σ' H' τ' S' → Ext S H S' H' → wipe σ' vs = wipe σ vs → Qt τ' S' → Q σ' H'
/-- a target; vs: the names that it may store -/
def TGt (X : Cx) (vs : List Nat) (e : Expr) (g : TTG) : Prop := ∀ M S0 H0 E, Takes X (wOf X M S0 H0 E) → PG X e (LG X M vs S0 H0 g)
def TGts (X : Cx) (vs : List Nat) (es : List Expr) (g : TTGs) : Prop := ∀ M S0 H0 E, Takes X (wOf X M S0 H0 E) → PGs X es (LGs X M vs S0 H0 g)
theorem _root_.L2.PG.weak {X : Cx} {e : Expr} {t u : L2.TG} (h : PG X e t) (k : ∀ v σ H Q, u v σ H Q → t v σ H Q) : PG X e u := ⟨fun pins s σ H v w Q I r q => h.run pins s σ H v w Q I r (k _ _ _ _ q)⟩
theorem _root_.L2.PGs.weak {X : Cx} {es : List Expr} {t u : L2.TGs} (h : PGs X es t) (k : ∀ v σ H Q, u v σ H Q → t v σ H Q) : PGs X es u := ⟨fun pins s σ H v w Q I r q => h.run pins s σ H v w Q I r (k _ _ _ _ q)⟩
theorem wipe_at {σ : L2.St} {i : Nat} : ∀ (vs : List Nat), (wipe σ vs)[i]? = if i ∈ vs then (σ[i]?).map (fun _ => none) else σ[i]?
  | [] => by simp [wipe]
  | v :: vs => by
    unfold wipe
    by_cases h : v = i
    · subst h
      rw [List.getElem?_set_self', wipe_at vs]
      by_cases hm : v ∈ vs
      · simp [hm]
        cases σ[v]? <;> rfl
      · simp [hm]
        rfl
    · rw [List.getElem?_set_ne h, wipe_at vs]
      have h' : ¬ i = v := fun e => h e.symm
      simp [h']
theorem wipe_set {σ : L2.St} {i : Nat} {x : Option V} (vs : List Nat) (h : i ∈ vs) : wipe (σ.set i x) vs = wipe σ vs := by
  apply List.ext_getElem?
  intro j
  rw [wipe_at, wipe_at]
  by_cases e : i = j
  · subst e
    rw [if_pos h, if_pos h, List.getElem?_set_self']
    cases σ[i]? <;> rfl
  · rw [List.getElem?_set_ne e]
/-! ### targets -/
def gN (i : Nat) : TTG := fun z τ S Q => Q (τ.set i (some z)) S
def gT (g : TTGs) : TTG := fun z τ S Q => ∃ zs, z = .tup zs ∧ g zs τ S Q
def gL (g : TTGs) : TTG := fun z τ S Q => ∃ zs, z = .lst zs ∧ g zs τ S Q
def gZ : TTGs := fun zs τ S Q => zs = [] ∧ Q τ S
def gC (g : TTG) (r : TTGs) : TTGs := fun zs τ S Q => ∃ z ys, zs = z :: ys ∧ g z τ S fun τ' S' => r ys τ' S' Q
section
variable {X : Cx} {vs : List Nat} {e : Expr} {es : List Expr} {g : TTG} {r : TTGs} {pos : Pos}
theorem tg_name {i : Nat} {x : Str} (hi : i ∈ vs) (hN : X.N.Nodup) (hx : X.N[i]? = some x) (hl : Loc X.env.scope x) (hf : X.fn x = true ∨ X.env.scope.names.lookup x = some .local := by first | exact .inl rfl | exact .inr rfl | assumption) : TGt X vs (.Name x pos) (gN i) := fun M S0 H0 E tk =>
  (pg_name hN hx hl hf).weak fun v σ H Q ⟨τ, S, z, Qt, rel, hz, h, k⟩ => k _ _ _ _ (rel.set hz) Ext.refl (wipe_set vs hi) h
theorem tgs_nil : TGts X vs [] gZ := fun M S0 H0 E tk => pgs_nil.weak fun v σ H Q ⟨τ, S, z, Qt, rel, hz, ⟨h0, h⟩, k⟩ => by
  subst h0
  cases hz
  exact ⟨rfl, k _ _ _ _ rel Ext.refl rfl h⟩
theorem tgs_cons (h1 : TGt X vs e g) (h2 : TGts X vs es r) (hs : (assignEach (e :: es) X.env).map (·.2) = assign e X.env :: (assignEach es X.env).map (·.2) := by rfl) : TGts X vs (e :: es) (gC g r) := fun M S0 H0 E tk =>
  (pgs_cons (h1 M S0 H0 E tk) (h2 M S0 H0 E tk) hs).weak fun v σ H Q ⟨τ, S, z, Qt, rel, hz, ⟨y, ys, h0, h⟩, k⟩ => by
    subst h0
    cases hz with
    | cons a b =>
      exact ⟨_, _, rfl, τ, S, y, _, rel, a, h, fun σ1 H1 τ1 S1 rel1 x1 w1 q1 => ⟨τ1, S1, ys, _, rel1, Reps.ext x1 _ _ b, q1, fun σ2 H2 τ2 S2 rel2 x2 w2 q2 => k _ _ _ _ rel2 (x1.trans x2) (w2.trans w1) q2⟩⟩
theorem tg_tup {k : Nat} {n : Nat} (hc : X.calm = true) (h : TGts X vs es r) (hn : (assignEach es X.env).length = n := by rfl) (hst : (assignEach es X.env).findIdx? (·.1) = none := by rfl)
    (hr : ∀ zs τ S Q, r zs τ S Q → zs.length = n := by intro zs τ S Q z; obtain ⟨_, _, rfl, z⟩ := z; first | (obtain ⟨rfl, _⟩ := z; rfl) | skip) : TGt X vs (.Tuple es k pos) (gT r) := fun M S0 H0 E tk =>
  (pg_tup hc (h M S0 H0 E tk) hn hst).weak fun v σ H Q ⟨τ, S, z, Qt, rel, hz, ⟨zs, h0, h⟩, k⟩ => by
    subst h0
    cases hz with
    | tup a b => exact ⟨_, _, rfl, a.sq, by rw [← b.length]; exact hr _ _ _ _ h, τ, S, zs, _, rel, b, h, k⟩
theorem tg_lst {k : Nat} {n : Nat} (hc : X.calm = true) (h : TGts X vs es r) (hn : (assignEach es X.env).length = n := by rfl) (hst : (assignEach es X.env).findIdx? (·.1) = none := by rfl)
    (hr : ∀ zs τ S Q, r zs τ S Q → zs.length = n) : TGt X vs (.Tuple es k pos) (gL r) := fun M S0 H0 E tk =>
  (pg_lst hc (h M S0 H0 E tk) hn hst).weak fun v σ H Q ⟨τ, S, z, Qt, rel, hz, ⟨zs, h0, h⟩, k⟩ => by
    subst h0
    cases hz with
    | lst a b => exact ⟨_, _, rfl, a.sq, by rw [← b.length]; exact hr _ _ _ _ h, τ, S, zs, _, rel, b, h, k⟩
/-- how many things a row of targets takes -/
def takes (r : TTGs) (n : Nat) : Prop := ∀ zs τ S Q, r zs τ S Q → zs.length = n
theorem takes_z : takes gZ 0 := fun zs τ S Q h => by rw [h.1]; rfl
theorem takes_c {n : Nat} (h : ∀ zs τ S Q, r zs τ S Q → zs.length = n) : takes (gC (gN i) r) (n + 1) := fun zs τ S Q ⟨z, ys, e, q⟩ => by rw [e, List.length_cons, h _ _ _ _ q]
end

/-! ### statements -/
def cSkip : TTS := fun D τ S _ => D.nx τ S
def cSeq (t u : TTS) : TTS := fun D τ S E => t { D with nx := fun τ' S' => u D τ' S' E } τ S E
def cAsg (e : TTE) (g : TTG) : TTS := fun D τ S E => e τ S (fun z S' => g z τ S' D.nx) (fun x S' => E x τ S')
def cSet (i : Nat) (e : TTE) : TTS := fun D τ S E => e τ S (fun z S' => D.nx (τ.set i (some z)) S') (fun x S' => E x τ S')
def cRet (e : TTE) : TTS := fun D τ S E => e τ S D.rt (fun x S' => E x τ S')
def cRetN : TTS := fun D _ S _ => D.rt .non S
def cDo (e : TTE) : TTS := fun D τ S E => e τ S (fun _ S' => D.nx τ S') (fun x S' => E x τ S')
def cIfS (c : TTB) (a b : TTS) : TTS := fun D τ S E => c τ S (fun k S' => if k = true then a D τ S' E else b D τ S' E) (fun x S' => E x τ S')
def cPar2 (i j : Nat) (a b : TTE) : TTS := fun D τ S E => a τ S (fun x S1 => b τ S1 (fun y S2 => D.nx ((τ.set i (some x)).set j (some y)) S2) (fun x S' => E x τ S')) (fun x S' => E x τ S')
def cPar3 (i j l : Nat) (a b c : TTE) : TTS := fun D τ S E => a τ S (fun x S1 => b τ S1 (fun y S2 => c τ S2 (fun z S3 => D.nx (((τ.set i (some x)).set j (some y)).set l (some z)) S3) (fun x S' => E x τ S')) (fun x S' => E x τ S')) (fun x S' => E x τ S')
def cBrk : TTS := fun D τ S _ => D.bk τ S
def cCont : TTS := fun D τ S _ => D.ct τ S
/-- code that is not come to -/
def cNever : TTS := fun _ _ _ _ => False
def cWhile (c : TTB) (b : TTS) : TTS := fun D τ S E => ∃ W : Nat → TEnv → Sto → Prop, (∃ m, W m τ S) ∧ ∀ m τ S, W m τ S →
  c τ S (fun k S' => if k = true then b { D with nx := fun τ' S' => ∃ m', m' < m ∧ W m' τ' S', ct := fun τ' S' => ∃ m', m' < m ∧ W m' τ' S', bk := D.nx } τ S' E else D.nx τ S') (fun x S' => E x τ S')
section
variable {X : Cx} {st : Stmt} {rest body orelse : List Stmt} {t u : TTS} {e tg : Expr} {te ta tb tc : TTE} {tB : TTB} {g : TTG} {vs : List Nat} {pos : Pos}
theorem tss_nil : TSs X [] cSkip := fun M S0 H0 E tk => pss_nil.weak fun D σ H ⟨τ, S, B, rel, h, k, _⟩ => k _ _ _ _ rel Ext.refl h
theorem tss_one (h : TS X st t) : TSs X [st] t := fun M S0 H0 E tk => pss_one (h M S0 H0 E tk)
theorem tss_cons (h : TS X st t) (hr : TSs X rest u) : TSs X (st :: rest) (cSeq t u) := fun M S0 H0 E tk =>
  (pss_cons (h M S0 H0 E tk) (hr M S0 H0 E tk)).weak fun D σ H ⟨τ, S, B, rel, h, k1, k2, k3, k4⟩ => ⟨τ, S, _, rel, h,
    fun σ1 H1 τ1 S1 rel1 x1 q => ⟨τ1, S1, B, rel1, q, fun σ2 H2 τ2 S2 rel2 x2 q2 => k1 _ _ _ _ rel2 (x1.trans x2) q2, fun z S2 v H2 o2 x2 r2 q2 => k2 z S2 v H2 o2 (x1.trans x2) r2 q2,
      fun σ2 H2 τ2 S2 rel2 x2 q2 => k3 _ _ _ _ rel2 (x1.trans x2) q2, fun σ2 H2 τ2 S2 rel2 x2 q2 => k4 _ _ _ _ rel2 (x1.trans x2) q2⟩, k2, k3, k4⟩
theorem tss_weak {t' : TTS} (h : TSs X rest t) (k : ∀ D τ S E, t' D τ S E → t D τ S E) : TSs X rest t' := fun M S0 H0 E tk =>
  (h M S0 H0 E tk).weak fun D σ H ⟨τ, S, B, rel, q, k1⟩ => ⟨τ, S, B, rel, k _ _ _ _ q, k1⟩
theorem ts_pass : TS X (.Pass pos) cSkip := fun M S0 H0 E tk => ps_pass.weak fun D σ H ⟨τ, S, B, rel, h, k, _⟩ => k _ _ _ _ rel Ext.refl h
theorem ts_break : TS X (.Break pos) cBrk := fun M S0 H0 E tk => ps_break.weak fun D σ H ⟨τ, S, B, rel, h, _, _, k, _⟩ => k _ _ _ _ rel Ext.refl h
theorem ts_continue : TS X (.Continue pos) cCont := fun M S0 H0 E tk => ps_continue.weak fun D σ H ⟨τ, S, B, rel, h, _, _, _, k⟩ => k _ _ _ _ rel Ext.refl h
theorem ts_ret (h : TE X e te) : TS X (.Return (some e) pos) (cRet te) := fun M S0 H0 E tk => (ps_ret (h M S0 H0 E tk)).weak fun D σ H ⟨τ, S, B, rel, q, _, k, _⟩ =>
  ⟨τ, S, _, rel, q, fun z S1 v H1 hq o1 x1 r1 => k z S1 v H1 o1 x1 r1 hq⟩
theorem ts_retN : TS X (.Return none pos) cRetN := fun M S0 H0 E tk => ps_retN.weak fun D σ H ⟨τ, S, B, rel, q, _, k, _⟩ => k .non S .non H rel.sto Ext.refl .non q
theorem ts_do (h : TE X e te) (hs : swapsWith e none pos.line X.env = pure false := by rfl) : TS X (.Expr e pos) (cDo te) := fun M S0 H0 E tk => (ps_expr (h M S0 H0 E tk) hs).weak fun D σ H ⟨τ, S, B, rel, q, k, _⟩ =>
  ⟨τ, S, _, rel, q, fun z S1 v H1 hq o1 x1 r1 => k _ _ _ _ (rel.step o1 x1) x1 hq⟩
theorem ts_if {c : Expr} {a b : List Stmt} (hc : TB X c tB) (ha : TSs X a t) (hb : TSs X b u) : TS X (.If c a b pos) (cIfS tB t u) := fun M S0 H0 E tk => (ps_if (hc M S0 H0 E tk) (ha M S0 H0 E tk) (hb M S0 H0 E tk)).weak fun D σ H ⟨τ, S, B, rel, q, k1, k2, k3, k4⟩ =>
  ⟨τ, S, _, rel, q, fun c S1 H1 hq o1 x1 => by
    have fin : ∀ t : TTS, t B τ S1 E → LS X M S0 H0 t E D σ H1 := fun t h => ⟨τ, S1, B, rel.step o1 x1, h, fun σ2 H2 τ2 S2 rel2 x2 q2 => k1 _ _ _ _ rel2 (x1.trans x2) q2, fun z S2 v H2 o2 x2 r2 q2 => k2 z S2 v H2 o2 (x1.trans x2) r2 q2,
      fun σ2 H2 τ2 S2 rel2 x2 q2 => k3 _ _ _ _ rel2 (x1.trans x2) q2, fun σ2 H2 τ2 S2 rel2 x2 q2 => k4 _ _ _ _ rel2 (x1.trans x2) q2⟩
    cases c with
    | true => exact fin t hq
    | false => exact fin u hq⟩
theorem ts_set {i : Nat} {x : Str} {pos' : Pos} (hN : X.N.Nodup) (hi : X.N[i]? = some x) (hx : Loc X.env.scope x) (he : TE X e te) (hs : swapsWith e (some (.Name x pos')) pos.line X.env = pure false := by rfl) (hf : X.fn x = true ∨ X.env.scope.names.lookup x = some .local := by first | exact .inl rfl | exact .inr rfl | assumption) :
    TS X (.Assign [.Name x pos'] e pos) (cSet i te) := fun M S0 H0 E tk => (ps_set hN hi hx (he M S0 H0 E tk) hs hf).weak fun D σ H ⟨τ, S, B, rel, q, k, _⟩ =>
  ⟨τ, S, _, rel, q, fun z S1 v H1 hq o1 x1 r1 => k _ _ _ _ ((rel.step o1 x1).set r1) x1 hq⟩
theorem ts_asg (he : TE X e te) (hg : TGt X vs tg g) (hs : swapsWithSole [tg] e pos.line X.env = pure false := by rfl) (hw : swappedStores [tg] e X.env = pure none := by rfl)
    (h1 : (assignEach [tg] X.env).map (·.2) = [assign tg X.env] := by rfl) : TS X (.Assign [tg] e pos) (cAsg te g) := fun M S0 H0 E tk => (ps_asg (he M S0 H0 E tk) (hg M S0 H0 E tk) hs hw h1).weak fun D σ H ⟨τ, S, B, rel, q, k, _⟩ =>
  ⟨τ, S, _, rel, q, fun z S1 v H1 hq o1 x1 r1 => ⟨τ, S1, z, _, rel.step o1 x1, r1, hq, fun σ2 H2 τ2 S2 rel2 x2 _ q2 => k _ _ _ _ rel2 (x1.trans x2) q2⟩⟩
theorem ts_par2 {i j : Nat} {x y : Str} {a b : Expr} {px py pt : Pos} {kt k2 pt2} (hc : X.calm = true) (hN : X.N.Nodup) (hi : X.N[i]? = some x) (hj : X.N[j]? = some y) (hij : i ≠ j)
    (hx : X.env.scope.names.lookup x = some .local) (hy : X.env.scope.names.lookup y = some .local) (ha : TA X [a, b] (cCons ta (cCons tb cNil)))
    (hw : swappedStores [.Tuple [.Name x px, .Name y py] kt pt] (.Tuple [a, b] k2 pt2) X.env = pure (some [x, y]))
    (hs : swapsWithSole [.Tuple [.Name x px, .Name y py] kt pt] (.Tuple [a, b] k2 pt2) pos.line X.env = pure false := by rfl) :
    TS X (.Assign [.Tuple [.Name x px, .Name y py] kt pt] (.Tuple [a, b] k2 pt2) pos) (cPar2 i j ta tb) := fun M S0 H0 E tk => (ps_par hc hN hi hj hij hx hy (ha M S0 H0 E tk) hw hs).weak fun D σ H ⟨τ, S, B, rel, q, k, _⟩ =>
  ⟨τ, S, fun zs S2 => ∃ z1 z2, zs = [z1, z2] ∧ B.nx ((τ.set i (some z1)).set j (some z2)) S2, rel, by
      refine (show ta τ S (fun x S1 => tb τ S1 (fun y S2 => ∃ z1 z2, [x, y] = [z1, z2] ∧ B.nx ((τ.set i (some z1)).set j (some z2)) S2) fun x S' => E x τ S') fun x S' => E x τ S' from ?_)
      have e : (fun (x : T) (S1 : Sto) => tb τ S1 (fun y S2 => ∃ z1 z2, [x, y] = [z1, z2] ∧ B.nx ((τ.set i (some z1)).set j (some z2)) S2) fun x S' => E x τ S') = fun (x : T) (S1 : Sto) => tb τ S1 (fun y S2 => B.nx ((τ.set i (some x)).set j (some y)) S2) fun x S' => E x τ S' := by
        funext x S1
        congr 1
        funext y S2
        apply propext
        constructor
        · rintro ⟨z1, z2, e, h⟩
          injection e with e1 e2
          injection e2 with e2 _
          subst e1 e2
          exact h
        · exact fun h => ⟨x, y, rfl, h⟩
      rw [e]
      exact q, fun zs S1 ws H1 hq o1 x1 r1 => by
    obtain ⟨z1, z2, e, h⟩ := hq
    subst e
    cases r1 with
    | cons r1 r2 =>
      cases r2 with
      | cons r2 r3 =>
        cases r3
        exact ⟨_, _, rfl, k _ _ _ _ (((rel.step o1 x1).set r1).set r2) x1 h⟩⟩
theorem ts_par3 {i j l : Nat} {x y z : Str} {a b c : Expr} {px py pz pt : Pos} {kt k2 pt2} (hc : X.calm = true) (hN : X.N.Nodup) (hi : X.N[i]? = some x) (hj : X.N[j]? = some y) (hl : X.N[l]? = some z) (hij : i ≠ j) (hil : i ≠ l) (hjl : j ≠ l)
    (hx : X.env.scope.names.lookup x = some .local) (hy : X.env.scope.names.lookup y = some .local) (hz : X.env.scope.names.lookup z = some .local) (ha : TA X [a, b, c] (cCons ta (cCons tb (cCons tc cNil))))
    (hw : swappedStores [.Tuple [.Name x px, .Name y py, .Name z pz] kt pt] (.Tuple [a, b, c] k2 pt2) X.env = pure (some [x, y, z]))
    (hs : swapsWithSole [.Tuple [.Name x px, .Name y py, .Name z pz] kt pt] (.Tuple [a, b, c] k2 pt2) pos.line X.env = pure false := by rfl) :
    TS X (.Assign [.Tuple [.Name x px, .Name y py, .Name z pz] kt pt] (.Tuple [a, b, c] k2 pt2) pos) (cPar3 i j l ta tb tc) := fun M S0 H0 E tk => (ps_par3 hc hN hi hj hl hij hil hjl hx hy hz (ha M S0 H0 E tk) hw hs).weak fun D σ H ⟨τ, S, B, rel, q, k, _⟩ =>
  ⟨τ, S, fun zs S2 => ∃ z1 z2 z3, zs = [z1, z2, z3] ∧ B.nx (((τ.set i (some z1)).set j (some z2)).set l (some z3)) S2, rel, by
      have e : ∀ (x y z : T) (S3 : Sto), (∃ z1 z2 z3, [x, y, z] = [z1, z2, z3] ∧ B.nx (((τ.set i (some z1)).set j (some z2)).set l (some z3)) S3) = B.nx (((τ.set i (some x)).set j (some y)).set l (some z)) S3 := fun x y z S3 => propext ⟨by
          rintro ⟨z1, z2, z3, e, h⟩
          injection e with e1 e2
          injection e2 with e2 e3
          injection e3 with e3 _
          subst e1 e2 e3
          exact h, fun h => ⟨x, y, z, rfl, h⟩⟩
      show ta τ S (fun x S1 => tb τ S1 (fun y S2 => tc τ S2 (fun z S3 => ∃ z1 z2 z3, [x, y, z] = [z1, z2, z3] ∧ B.nx (((τ.set i (some z1)).set j (some z2)).set l (some z3)) S3) fun x S' => E x τ S') fun x S' => E x τ S') fun x S' => E x τ S'
      simp only [e]
      exact q, fun zs S1 ws H1 hq o1 x1 r1 => by
    obtain ⟨z1, z2, z3, e, h⟩ := hq
    subst e
    cases r1 with
    | cons r1 r2 =>
      cases r2 with
      | cons r2 r3 =>
        cases r3 with
        | cons r3 r4 =>
          cases r4
          exact ⟨_, _, _, rfl, k _ _ _ _ ((((rel.step o1 x1).set r1).set r2).set r3) x1 h⟩⟩
theorem ts_while {c : Expr} (hp : PassesOwn (model X.prog X.w) X.A X.env X.xe) (hc : TB X c tB) (hb : TSs X body t) : TS X (.While c body [] pos) (cWhile tB t) := fun M S0 H0 E tk => (ps_while hp (hc M S0 H0 E tk) (hb M S0 H0 E tk)).weak fun D σ H ⟨τ, S, B, rel, ⟨W, ⟨m0, w0⟩, turn⟩, k1, k2, k3, k4⟩ => by
  let W' : Nat → L2.St → Hp → Prop := fun m σ' H' => ∃ τ' S', Rel (gdOf X M) S0 H0 σ' H' τ' S' ∧ Ext S H S' H' ∧ W m τ' S'
  refine ⟨W', ⟨m0, τ, S, rel, Ext.refl, w0⟩, ?_⟩
  rintro m σ1 H1 ⟨τ1, S1, rel1, x1, w1⟩
  refine ⟨τ1, S1, _, rel1, turn m τ1 S1 w1, fun k S2 H2 hq o2 x2 => ?_⟩
  cases k with
  | true =>
    refine ⟨fun σ' H' => ∃ m', m' < m ∧ W' m' σ' H', fun _ _ z => z, τ1, S2, _, rel1.step o2 x2, hq, ?_, fun z S3 v H3 o3 x3 r3 q3 => k2 z S3 v H3 o3 ((x1.trans x2).trans x3) r3 q3, fun σ3 H3 τ3 S3 rel3 x3 q3 => k1 _ _ _ _ rel3 ((x1.trans x2).trans x3) q3, ?_⟩
    · rintro σ3 H3 τ3 S3 rel3 x3 ⟨m', hm, q3⟩
      exact ⟨m', hm, τ3, S3, rel3, (x1.trans x2).trans x3, q3⟩
    · rintro σ3 H3 τ3 S3 rel3 x3 ⟨m', hm, q3⟩
      exact ⟨m', hm, τ3, S3, rel3, (x1.trans x2).trans x3, q3⟩
  | false => exact k1 _ _ _ _ (rel1.step o2 x2) (x1.trans x2) hq
end
end TL

/-! TLd: what is walked, for, list comprehensions, over trees. -/
namespace TL
open PySem PySem.Spec PyProof.Rows L2

/-- the iterator J hands out the trees xs while gd holds of the store -/
structure Wks (G : Gd) (J : It) (xs : List T) (gd : Sto → Prop) (S1 : Sto) (H1 : Hp) : Prop where
  go : ∀ (M' : Addr → Prop) S H i z, (∀ a, M' a → ¬ G.M a → H1 a = none) → StoOk (G.mask M') H S → Ext S1 H1 S H → gd S → xs[i]? = some z → J.go i H ∧ ∀ x H', J.yld i H x H' → StoOk (G.mask M') H' S ∧ Ext S H S H' ∧ Rep (G.mask M') H' S z x
  stop : ∀ (M' : Addr → Prop) S H, StoOk (G.mask M') H S → Ext S1 H1 S H → gd S → J.stop xs.length H
abbrev TTI := TEnv → Sto → (List T → (Sto → Prop) → Sto → Prop) → (T → Sto → Prop) → Prop
def LI (X : Cx) (M : Addr → Prop) (S0 : Sto) (H0 : Hp) (t : TTI) (E : T → TEnv → Sto → Prop) : L2.TI := fun σ H R => ∃ τ S Qt, Rel (gdOf X M) S0 H0 σ H τ S ∧ t τ S Qt (fun x S' => E x τ S') ∧
  ∀ xs gd S' J H', Qt xs gd S' → StoOk (gdOf X M) H' S' → Ext S H S' H' → Wks (gdOf X M) J xs gd S' H' → R J H'
def TI (X : Cx) (tg e : Expr) (t : TTI) : Prop := ∀ M S0 H0 E, Takes X (wOf X M S0 H0 E) → PI X tg e (LI X M S0 H0 t E)

/-! ### a list, a tuple, a text -/
def yes : Sto → Prop := fun _ => True
def items (S : Sto) : T → Option (List T × (Sto → Prop))
  | .tup xs => some (xs, yes)
  | .lst xs => some (xs, yes)
  | .str x => some (x.map (fun c => .str [c]), yes)
  | .ref a => match S a with
    | some (.lst xs) => some (xs, fun S' => S' a = some (.lst xs))
    | _ => none
  | _ => none
section
variable {X : Cx} {tg e : Expr}
def iAny (K : PySem.W.Frag) (tl : L2.TE) : L2.TI := fun σ H R => tl σ H fun x H1 => (∃ a xs, x = .ref a ∧ SqL K H1 a xs ∧ R (Itl K a) H1) ∨ (∃ a xs, x = .ref a ∧ SqT K H1 a xs ∧ R (Itt K a) H1) ∨ ∃ y, x = .str y ∧ R (Its y) H1
theorem pi_any {tl : L2.TE} (hl : PE X e tl) : PI X tg e (iAny X.K tl) := by
  constructor
  intro pins s σ H R I h
  refine thn (hl.run pins s σ H _ I h) fun v s1 q1 => ?_
  obtain ⟨x, H1, I1, r1, q1⟩ := q1
  rcases q1 with ⟨a, xs, rfl, hq, q⟩ | ⟨a, xs, rfl, hq, q⟩ | ⟨y, rfl, q⟩
  · obtain rfl : v = .ref a := r1
    obtain ⟨its, _, p, _⟩ := I1.list hq
    exact wpAny_pyIter_list p.isList (pi_one (tk := s1.toks) I1 _ (turn_list a _) ⟨_, Heap.get?_push_size _ rfl, rfl, rfl⟩ q)
  · obtain rfl : v = .ref a := r1
    obtain ⟨its, _, p, _⟩ := I1.tuple hq
    exact wpAny_pyIter_tuple p (pi_one (tk := s1.toks) I1 _ (turn_tuple a _) ⟨_, Heap.get?_push_size _ rfl, rfl, rfl⟩ q)
  · obtain ⟨t, rfl⟩ := r1
    cases ha : y.cps.all (· < 128) with
    | false => exact wpAny_pyIter_wide ha (pi_one (tk := s1.toks) I1 _ (turn_str _ y t "str_iterator" (Or.inr rfl)) ⟨_, Heap.get?_push_size _ rfl, rfl, rfl⟩ q)
    | true => exact wpAny_pyIter_ascii ha (pi_one (tk := s1.toks) I1 _ (turn_str _ y t "str_ascii_iterator" (Or.inl rfl)) ⟨_, Heap.get?_push_size _ rfl, rfl, rfl⟩ q)
end
section
variable {G : Gd} {S1 : Sto} {H1 : Hp}
theorem newK {M' : Addr → Prop} (k : ∀ a, M' a → ¬ G.M a → H1 a = none) : ∀ a u, Rd H1 a u → ¬ G.M a → ¬ M' a := fun a u r m z => by
  have n := k a z m
  rcases r with r | ⟨_, r⟩ <;> rw [n] at r <;> cases r
theorem wks_list {a : Addr} {ws : List V} {ts : List T} (h : LstAt G H1 S1 a ws) (r : Reps G H1 S1 ts ws) : Wks G (Itl G.K a) ts yes S1 H1 where
  go := fun M' S H i z nk o x _ hz => by
    have q := (h.ext x).sq
    obtain ⟨v, h1, h2⟩ := (Reps.ext x _ _ (Reps.mask (newK nk) _ _ r)).get hz
    refine ⟨⟨ws, v, q, h1⟩, ?_⟩
    rintro y H' ⟨rfl, hy⟩
    obtain rfl : v = y := Option.some.inj (h1.symm.trans (hy ws q))
    exact ⟨o, Ext.refl, h2⟩
  stop := fun M' S H o x _ => ⟨ws, (h.ext x).sq, by rw [r.length]; exact Nat.le_refl _⟩
theorem wks_tup {a : Addr} {ws : List V} {ts : List T} (h : TupAt G H1 S1 a ws) (r : Reps G H1 S1 ts ws) : Wks G (Itt G.K a) ts yes S1 H1 where
  go := fun M' S H i z nk o x _ hz => by
    have q := (h.ext x).sq
    obtain ⟨v, h1, h2⟩ := (Reps.ext x _ _ (Reps.mask (newK nk) _ _ r)).get hz
    refine ⟨⟨ws, v, q, h1⟩, ?_⟩
    rintro y H' ⟨rfl, hy⟩
    obtain rfl : v = y := Option.some.inj (h1.symm.trans (hy ws q))
    exact ⟨o, Ext.refl, h2⟩
  stop := fun M' S H o x _ => ⟨ws, (h.ext x).sq, by rw [r.length]; exact Nat.le_refl _⟩
theorem wks_cell {a : Addr} {ts : List T} : Wks G (Itl G.K a) ts (fun S' => S' a = some (.lst ts)) S1 H1 where
  go := fun M' S H i z nk o x hg hz => by
    obtain ⟨ws, hw, r⟩ := o.at_ a _ hg
    obtain ⟨v, h1, h2⟩ := r.get hz
    have q : SqL G.K H a ws := SqL.of hw
    refine ⟨⟨ws, v, q, h1⟩, ?_⟩
    rintro y H' ⟨rfl, hy⟩
    obtain rfl : v = y := Option.some.inj (h1.symm.trans (hy ws q))
    exact ⟨o, Ext.refl, h2⟩
  stop := fun M' S H o x hg => by
    obtain ⟨ws, hw, r⟩ := o.at_ a _ hg
    exact ⟨ws, SqL.of hw, by rw [r.length]; exact Nat.le_refl _⟩
theorem wks_str {x : List Sg} : Wks G (Its (txt x)) (x.map fun c => T.str [c]) yes S1 H1 where
  go := fun M' S H i z nk o _ _ hz => by
    rw [List.getElem?_map] at hz
    cases hc : x[i]? with
    | none => rw [hc] at hz; cases hz
    | some c =>
      rw [hc] at hz
      obtain rfl : T.str [c] = z := Option.some.inj hz
      refine ⟨?_, ?_⟩
      · show i < (x.map (·.val)).toArray.size
        have := (List.getElem?_eq_some_iff.mp hc).1
        simpa using this
      rintro y H' ⟨rfl, d, hd, rfl⟩
      obtain rfl : c.val = d := by
        have hd' : ((x.map (·.val)).toArray)[i]? = some d := hd
        rw [List.getElem?_toArray, List.getElem?_map, hc] at hd'
        exact Option.some.inj hd'
      exact ⟨o, Ext.refl, .str [c]⟩
  stop := fun M' S H o _ _ => by
    show ((x.map (·.val)).toArray).size ≤ (x.map fun c => T.str [c]).length
    simp
theorem wks_range {lo : Int} {n : Nat} : Wks G (Itr lo n) ((List.range n).map fun i => T.int (lo + (i : Nat))) yes S1 H1 where
  go := fun M' S H i z nk o _ _ hz => by
    rw [List.getElem?_map] at hz
    cases hc : (List.range n)[i]? with
    | none => rw [hc] at hz; cases hz
    | some c =>
      rw [hc] at hz
      have hi : i < n := by
        have := (List.getElem?_eq_some_iff.mp hc).1
        simpa using this
      have hci : i = c := by
        rw [List.getElem?_range hi] at hc
        exact Option.some.inj hc
      subst hci
      obtain rfl : T.int (lo + (i : Nat)) = z := Option.some.inj hz
      refine ⟨hi, ?_⟩
      rintro y H' ⟨rfl, rfl⟩
      exact ⟨o, Ext.refl, .int _⟩
  stop := fun M' S H o _ _ => by
    show n ≤ ((List.range n).map fun i => T.int (lo + (i : Nat))).length
    simp
end
/-- what is walked of a value -/
def iSeq (e : TTE) : TTI := fun τ S Q E => e τ S (fun x S1 => ∃ p, items S1 x = some p ∧ Q p.1 p.2 S1) E
def iRange1 (a : TTE) : TTI := fun τ S Q E => a τ S (fun x S1 => ∃ j : Int, x = .int j ∧ -(2 ^ 62) ≤ j ∧ j < 2 ^ 62 ∧ Q ((List.range j.toNat).map fun i => T.int (0 + (i : Nat))) yes S1) E
def iRange2 (a b : TTE) : TTI := fun τ S Q E => a τ S (fun x S1 => b τ S1 (fun y S2 => ∃ i j : Int, x = .int i ∧ y = .int j ∧ (-(2 ^ 62) ≤ i ∧ i < 2 ^ 62 ∧ -(2 ^ 62) ≤ j ∧ j < 2 ^ 62) ∧ Q ((List.range (j - i).toNat).map fun k => T.int (i + (k : Nat))) yes S2) E) E
theorem _root_.L2.PI.weak {X : Cx} {tg e : Expr} {t u : L2.TI} (h : PI X tg e t) (k : ∀ σ H R, u σ H R → t σ H R) : PI X tg e u := ⟨fun pins s σ H R I q => h.run pins s σ H R I (k _ _ _ q)⟩
section
variable {X : Cx} {tg e a b : Expr} {te ta tb : TTE} {p pos : Pos}
theorem ti_seq (h : TE X e te) : TI X tg e (iSeq te) := fun M S0 H0 E tk => (pi_any (h M S0 H0 E tk)).weak fun σ H R ⟨τ, S, Qt, rel, q, k⟩ => ⟨τ, S, _, rel, q, fun z S1 v H1 ⟨pr, hp, hq⟩ o1 x1 r1 => by
  cases r1 with
  | tup h1 h2 =>
    obtain rfl := Option.some.inj hp
    exact .inr (.inl ⟨_, _, rfl, h1.sq, k _ _ S1 _ H1 hq o1 x1 (wks_tup h1 h2)⟩)
  | lst h1 h2 =>
    obtain rfl := Option.some.inj hp
    exact .inl ⟨_, _, rfl, h1.sq, k _ _ S1 _ H1 hq o1 x1 (wks_list h1 h2)⟩
  | str y =>
    obtain rfl := Option.some.inj hp
    exact .inr (.inr ⟨_, rfl, k _ _ S1 _ H1 hq o1 x1 wks_str⟩)
  | ref a =>
    cases hs : S1 a with
    | none => simp [items, hs] at hp
    | some c =>
      cases c with
      | lst ts =>
        simp only [items, hs] at hp
        obtain rfl := Option.some.inj hp
        obtain ⟨ws, hw, r⟩ := o1.at_ a _ hs
        exact .inl ⟨a, ws, rfl, SqL.of hw, k _ _ S1 _ H1 hq o1 x1 wks_cell⟩
      | dct _ _ _ => simp [items, hs] at hp
      | ins _ _ _ => simp [items, hs] at hp
  | _ => cases hp⟩
theorem ti_range1 (hg : Gl X "range") (hm : X.mg "range" = none) (ha : TE X a ta) (hs : starEach [a] X.env = [(false, eval a X.env)] := by rfl) : TI X tg (.Call (.Name "range" p) [a] [] pos) (iRange1 ta) := fun M S0 H0 E tk =>
  (pi_range1 hg hm (ta_cons ha ta_nil hs M S0 H0 E tk) hs).weak fun σ H R ⟨τ, S, Qt, rel, q, k⟩ => ⟨τ, S, fun zs S1 => ∃ j : Int, zs = [.int j] ∧ -(2 ^ 62) ≤ j ∧ j < 2 ^ 62 ∧ Qt ((List.range j.toNat).map fun i => T.int (0 + (i : Nat))) yes S1, rel, by
    have e : (fun (x : T) (S1 : Sto) => ∃ j : Int, [x] = [T.int j] ∧ -(2 ^ 62) ≤ j ∧ j < 2 ^ 62 ∧ Qt ((List.range j.toNat).map fun i => T.int (0 + (i : Nat))) yes S1) = fun (x : T) (S1 : Sto) => ∃ j : Int, x = .int j ∧ -(2 ^ 62) ≤ j ∧ j < 2 ^ 62 ∧ Qt ((List.range j.toNat).map fun i => T.int (0 + (i : Nat))) yes S1 := by
      funext x S1
      simp only [List.cons.injEq, and_true]
    show ta τ S (fun (x : T) (S1 : Sto) => ∃ j : Int, [x] = [T.int j] ∧ -(2 ^ 62) ≤ j ∧ j < 2 ^ 62 ∧ Qt ((List.range j.toNat).map fun i => T.int (0 + (i : Nat))) yes S1) fun x S' => E x τ S'
    rw [e]
    exact q, fun zs S1 vs H1 hq o1 x1 r1 => by
    obtain ⟨j, rfl, h1, h2, hq⟩ := hq
    cases r1 with
    | cons r1 r2 =>
      cases r2
      cases r1
      exact ⟨j, rfl, h1, h2, k _ _ S1 _ H1 hq o1 x1 wks_range⟩⟩
theorem ti_range2 (hg : Gl X "range") (hm : X.mg "range" = none) (ha : TE X a ta) (hb : TE X b tb) (hs : starEach [a, b] X.env = [(false, eval a X.env), (false, eval b X.env)] := by rfl) (hs2 : starEach [b] X.env = [(false, eval b X.env)] := by rfl) : TI X tg (.Call (.Name "range" p) [a, b] [] pos) (iRange2 ta tb) := fun M S0 H0 E tk =>
  (pi_range2 hg hm (ta_cons ha (ta_cons hb ta_nil hs2) (by rw [hs, hs2]) M S0 H0 E tk) hs hs2).weak fun σ H R ⟨τ, S, Qt, rel, q, k⟩ => ⟨τ, S, fun zs S1 => ∃ i j : Int, zs = [.int i, .int j] ∧ (-(2 ^ 62) ≤ i ∧ i < 2 ^ 62 ∧ -(2 ^ 62) ≤ j ∧ j < 2 ^ 62) ∧ Qt ((List.range (j - i).toNat).map fun k => T.int (i + (k : Nat))) yes S1, rel, by
    have e : ∀ (x y : T) (S2 : Sto), (∃ i j : Int, [x, y] = [T.int i, T.int j] ∧ (-(2 ^ 62) ≤ i ∧ i < 2 ^ 62 ∧ -(2 ^ 62) ≤ j ∧ j < 2 ^ 62) ∧ Qt ((List.range (j - i).toNat).map fun k => T.int (i + (k : Nat))) yes S2) = ∃ i j : Int, x = .int i ∧ y = .int j ∧ (-(2 ^ 62) ≤ i ∧ i < 2 ^ 62 ∧ -(2 ^ 62) ≤ j ∧ j < 2 ^ 62) ∧ Qt ((List.range (j - i).toNat).map fun k => T.int (i + (k : Nat))) yes S2 := fun x y S2 => by
      simp only [List.cons.injEq, and_true, and_assoc]
    show ta τ S (fun x S1 => tb τ S1 (fun y S2 => ∃ i j : Int, [x, y] = [T.int i, T.int j] ∧ (-(2 ^ 62) ≤ i ∧ i < 2 ^ 62 ∧ -(2 ^ 62) ≤ j ∧ j < 2 ^ 62) ∧ Qt ((List.range (j - i).toNat).map fun k => T.int (i + (k : Nat))) yes S2) fun x S' => E x τ S') fun x S' => E x τ S'
    simp only [e]
    exact q, fun zs S1 vs H1 hq o1 x1 r1 => by
    obtain ⟨i, j, rfl, h1, hq⟩ := hq
    cases r1 with
    | cons r1 r2 =>
      cases r2 with
      | cons r2 r3 =>
        cases r3
        cases r1
        cases r2
        exact ⟨i, j, rfl, h1, k _ _ S1 _ H1 hq o1 x1 wks_range⟩⟩
end

/-! ### for -/
def forT (g : TTG) (b : TTS) (gd : Sto → Prop) (D : TD) (E : T → TEnv → Sto → Prop) : List T → TEnv → Sto → Prop
  | [], τ, S => gd S ∧ D.nx τ S
  | x :: xs, τ, S => gd S ∧ g x τ S fun τ1 S1 => b { D with nx := forT g b gd D E xs, ct := forT g b gd D E xs, bk := D.nx } τ1 S1 E
def cFor (it : TTI) (g : TTG) (b : TTS) : TTS := fun D τ S E => it τ S (fun xs gd S1 => forT g b gd D E xs τ S1) (fun x S' => E x τ S')
section
variable {X : Cx} {tg iter : Expr} {body : List Stmt} {ti : TTI} {g : TTG} {t : TTS} {vs : List Nat} {pos : Pos}
theorem ts_for (hp : PassesOwn (model X.prog X.w) X.A X.env X.xe) (hc : X.calm = true) (hi : TI X tg iter ti) (hg : TGt X vs tg g) (hb : TSs X body t) (hs : ∀ x, foldedSetIterable iter X.env x = pure x := by intro _; rfl) :
    TS X (.For tg iter body [] pos) (cFor ti g t) := fun M S0 H0 E tk => (ps_for hp hc (hi M S0 H0 E tk) (hg M S0 H0 E tk) (hb M S0 H0 E tk) hs).weak fun D σ H ⟨τ, S, B, rel, q, k1, k2, k3, k4⟩ => by
  refine ⟨τ, S, _, rel, q, fun xs gd S1 J H1 hq o1 x1 wk => ?_⟩
  let W : Nat → Nat → L2.St → Hp → Prop := fun i m σ' H' => m = xs.length - i ∧ i ≤ xs.length ∧ ∃ τ' S', Rel (gdOf X M) S0 H0 σ' H' τ' S' ∧ Ext S1 H1 S' H' ∧ forT g t gd B E (xs.drop i) τ' S'
  refine ⟨W, ⟨xs.length, by simp, Nat.zero_le _, τ, S1, rel.step o1 x1, Ext.refl, hq⟩, ?_⟩
  rintro i m σ2 H2 ⟨rfl, hi, τ2, S2, rel2, x2, q2⟩
  by_cases hlt : i < xs.length
  · rw [List.drop_eq_getElem_cons hlt] at q2
    obtain ⟨hgd, q2⟩ := q2
    obtain ⟨hgo, hy⟩ := wk.go M S2 H2 i xs[i] (fun a h n => absurd h n) rel2.sto x2 hgd (List.getElem?_eq_getElem hlt)
    refine .inr ⟨hgo, W (i + 1) (xs.length - (i + 1)), fun σ' H' w => ⟨_, by omega, w⟩, fun x H' y => ?_⟩
    obtain ⟨o3, x3, r3⟩ := hy x H' y
    refine ⟨τ2, S2, xs[i], _, rel2.step o3 x3, r3, q2, fun σ4 H4 τ4 S4 rel4 x4 _ q4 => ?_⟩
    have xx : Ext S1 H1 S4 H4 := (x2.trans x3).trans x4
    refine ⟨τ4, S4, _, rel4, q4, fun σ5 H5 τ5 S5 rel5 x5 q5 => ⟨rfl, hlt, τ5, S5, rel5, xx.trans x5, q5⟩, fun z S5 v H5 o5 x5 r5 q5 => k2 z S5 v H5 o5 (x1.trans (xx.trans x5)) r5 q5,
      fun σ5 H5 τ5 S5 rel5 x5 q5 => k1 _ _ _ _ rel5 (x1.trans (xx.trans x5)) q5, fun σ5 H5 τ5 S5 rel5 x5 q5 => ⟨rfl, hlt, τ5, S5, rel5, xx.trans x5, q5⟩⟩
  · have e : i = xs.length := by omega
    subst e
    rw [List.drop_length] at q2
    exact .inl ⟨wk.stop M S2 H2 rel2.sto x2 q2.1, k1 _ _ _ _ rel2 (x1.trans x2) q2.2⟩
end

/-! ### list comprehensions -/
def wipeT (τ : TEnv) : List Nat → TEnv
  | [] => τ
  | v :: vs => (wipeT τ vs).set v none
def compT (g : TTG) (c : TTB) (e : TTE) (own : List Nat) (gd : Sto → Prop) (τ : TEnv) (K : List T → Sto → Prop) : List T → List T → Sto → Prop
  | [], acc, S => gd S ∧ K acc S
  | x :: xs, acc, S => gd S ∧ g x (wipeT τ own) S fun τ1 S1 => c τ1 S1 (fun k S2 => if k = true then e τ1 S2 (fun y S3 => acc.length < sizeLine ∧ compT g c e own gd τ K xs (acc ++ [y]) S3) (fun _ _ => False)
    else compT g c e own gd τ K xs acc S2) (fun _ _ => False)
def cComp (it : TTI) (g : TTG) (c : TTB) (e : TTE) (own : List Nat) : TTE := fun τ S Q E => it τ S (fun xs gd S1 => compT g c e own gd τ (fun zs S2 => Q (.lst zs) S2) xs [] S1) E
def cCompM (it : TTI) (g : TTG) (c : TTB) (e : TTE) (own : List Nat) : TTE := fun τ S Q E => it τ S (fun xs gd S1 => compT g c e own gd τ (fun zs S2 => ∀ p, S2 p = none → Q (.ref p) (ups S2 p (.lst zs))) xs [] S1) E
def bYes : TTB := fun _ S Q _ => Q true S
section
variable {G : Gd} {H : Hp} {S : Sto}
theorem EnvR.wipe {σ : L2.St} {τ : TEnv} (h : EnvR G H S σ τ) (vs : List Nat) : EnvR G H S (wipe σ vs) (wipeT τ vs) := by
  induction vs with
  | nil => exact h
  | cons v vs ih =>
    refine ⟨?_, fun i t e => ?_⟩
    · show ((L2.wipe σ vs).set v none).length = ((wipeT τ vs).set v none).length
      rw [List.length_set, List.length_set]
      exact ih.1
    · have e' : ((wipeT τ vs).set v none)[i]? = some (some t) := e
      by_cases hv : v = i
      · subst hv
        rw [List.getElem?_set_self'] at e'
        cases q : (wipeT τ vs)[v]? with
        | none => rw [q] at e'; cases e'
        | some z => rw [q] at e'; cases e'
      · rw [List.getElem?_set_ne hv] at e'
        obtain ⟨w, h1, h2⟩ := ih.2 i t e'
        refine ⟨w, ?_, h2⟩
        show ((L2.wipe σ vs).set v none)[i]? = some (some w)
        rw [List.getElem?_set_ne hv]
        exact h1
end
def TBs (X : Cx) (ifs : List Expr) (t : TTB) : Prop := ∀ M S0 H0 E, Takes X (wOf X M S0 H0 E) → PTs X ifs (LB X M S0 H0 t E)
theorem tbs_nil {X : Cx} : TBs X [] bYes := fun M S0 H0 E tk => ⟨fun pins s σ H Q I ⟨τ, S, Qt, rel, h, k⟩ => pts_nil.run pins s σ H Q I (k true S H h rel.sto Ext.refl)⟩
theorem tbs_one {X : Cx} {c : Expr} {t : TTB} (h : TB X c t) : TBs X [c] t := fun M S0 H0 E tk => pts_one (h M S0 H0 E tk)
theorem takes_blk {X : Cx} {s : Shared} {H : Hp} {scope : Scope} {env : Env} {fp : List Addr} {M : Addr → Prop} {S0 : Sto} {H0 : Hp} : Takes (X.blk s H scope env fp) (wOf (X.blk s H scope env fp) M S0 H0 fun _ _ _ => False) := takes0.imp fun c d σ H ⟨_, _, _, _, _, z⟩ => z.elim
/-- E is never: within a block nothing is let out -/
abbrev EN : T → TEnv → Sto → Prop := fun _ _ _ => False
/-- the mask with one more -/
def also (M : Addr → Prop) (D : Addr) : Addr → Prop := fun a => M a ∨ a = D
/-- readings whose mask is chosen where they begin -/
def XG (X : Cx) (vs : List Nat) (S0 : Sto) (H0 : Hp) (g : TTG) : L2.TG := fun v σ H Q => ∃ M, LG X M vs S0 H0 g v σ H Q
def XB (X : Cx) (S0 : Sto) (H0 : Hp) (t : TTB) : L2.TT := fun σ H Q => ∃ M, LB X M S0 H0 t EN σ H Q
def XE' (X : Cx) (S0 : Sto) (H0 : Hp) (t : TTE) : L2.TE := fun σ H Q => ∃ M, LE X M S0 H0 t EN σ H Q
section
variable {X : Cx} {elt tg iter : Expr} {ifs : List Expr} {scope : Scope} {own : List Nat} {ti : TTI} {g : TTG} {tc : TTB} {te : TTE} {pos spos py : Pos}
/-- the comprehension's reading from its tree -/
theorem comp_read {M : Addr → Prop} {S0 : Sto} {H0 : Hp} {E : T → TEnv → Sto → Prop} {σ : L2.St} {H : Hp} {Q : VK} {τ : TEnv} {S : Sto} (Kt : List T → Sto → Prop) (rel : Rel (gdOf X M) S0 H0 σ H τ S)
    (h : ti τ S (fun xs gd S1 => compT g tc te own gd τ Kt xs [] S1) (fun x S' => E x τ S'))
    (fin : ∀ zs S2 D H2 vs, Kt zs S2 → StoOk (gdOf X (also M D)) H2 S2 → Ext S H S2 H2 → H2 D = some (.lst vs) → S2 D = none → ¬ M D → (∀ c, Ext S H (ups S2 D c) H2) → Reps (gdOf X (also M D)) H2 S2 zs vs → Q (.ref D) H2) :
    tLc (LI X M S0 H0 ti E) (XG X own S0 H0 g) (XB X S0 H0 tc) (XE' X S0 H0 te) own σ H Q := by
  refine ⟨τ, S, _, rel, h, fun xs gd S1 J H1 hq o1 x1 wk D hD => ?_⟩
  have xD : Ext S1 H1 S1 (upd H1 D (.lst [])) := Ext.new hD
  let W : Nat → Nat → Hp → Prop := fun i m H' => m = xs.length - i ∧ i ≤ xs.length ∧ ∃ S' acc vs, StoOk (gdOf X (also M D)) H' S' ∧ Ext S1 H1 S' H' ∧ H' D = some (.lst vs) ∧ S' D = none ∧ Reps (gdOf X (also M D)) H' S' acc vs ∧ compT g tc te own gd τ Kt (xs.drop i) acc S'
  have oD : StoOk (gdOf X (also M D)) (upd H1 D (.lst [])) S1 := o1.putOn hD
  refine ⟨W, ⟨xs.length, by simp, Nat.zero_le _, S1, [], [], oD, xD, upd_same, o1.free hD, .nil, hq⟩, ?_⟩
  rintro i m H2 ⟨rfl, hi, S2, acc, vs, o2, x2, hD2, nD2, ra, q2⟩
  by_cases hlt : i < xs.length
  · rw [List.drop_eq_getElem_cons hlt] at q2
    obtain ⟨hgd, q2⟩ := q2
    obtain ⟨hgo, hy⟩ := wk.go (also M D) S2 H2 i xs[i] (fun a h n => h.elim (fun h => absurd h n) fun e => e ▸ hD) o2 x2 hgd (List.getElem?_eq_getElem hlt)
    refine .inr ⟨hgo, W (i + 1) (xs.length - (i + 1)), fun H' w => ⟨_, by omega, w⟩, fun x H' y => ?_⟩
    obtain ⟨o3, x3, r3⟩ := hy x H' y
    have d3 := x3.exact hD2 nD2
    have a3 := Reps.ext x3 _ _ ra
    have x13 := x2.trans x3
    have envD : EnvR (gdOf X (also M D)) H1 S1 σ τ := ⟨rel.env.1, fun j t e => by
      obtain ⟨v, h1, h2⟩ := (rel.env.ext x1).2 j t e
      exact ⟨v, h1, Rep.mask (M := also M D) (fun a u r m z => z.elim m fun e => Rd.ne hD r e) _ _ h2⟩⟩
    have relW : Rel (gdOf X (also M D)) S0 H0 (wipe σ own) H' (wipeT τ own) S2 := ⟨(envD.ext x13).wipe _, o3, rel.ext.trans (x1.trans x13)⟩
    refine ⟨also M D, _, S2, xs[i], _, relW, r3, q2, fun σ4 H4 τ4 S4 rel4 x4 w4 q4 => ⟨?_, ?_⟩⟩
    · rw [w4]
      apply List.ext_getElem?
      intro j
      rw [wipe_at, wipe_at]
      by_cases hj : j ∈ own
      · rw [if_pos hj, if_pos hj]
        cases σ[j]? <;> rfl
      · rw [if_neg hj, if_neg hj]
    · refine ⟨also M D, τ4, S4, _, rel4, q4, fun b S5 H5 q5 o5 x5 => ?_⟩
      have x35 := x4.trans x5
      have d5 := x35.exact d3.1 d3.2
      have a5 := Reps.ext x35 _ _ a3
      cases b with
      | false => exact ⟨rfl, hlt, S5, acc, vs, o5, x13.trans x35, d5.1, d5.2, a5, q5⟩
      | true =>
        refine ⟨also M D, τ4, S5, _, rel4.step o5 x5, q5, fun z S6 v H6 q6 o6 x6 r6 => ?_⟩
        obtain ⟨hz, q6⟩ := q6
        have d6 := x6.exact d5.1 d5.2
        have a6 := Reps.ext x6 _ _ a5
        have mD : (gdOf X (also M D)).M D := .inr rfl
        refine ⟨vs, d6.1, by rw [← a6.length]; exact hz, rfl, hlt, S6, acc ++ [z], vs ++ [v], o6.at mD d6.2, ?_, upd_same, d6.2, (Reps.extM (ExtM.at mD) _ _ a6).append (.cons (Rep.extM (ExtM.at mD) _ _ r6) .nil), q6⟩
        have x16 := (x13.trans x35).trans x6
        exact fun b u n => ⟨fun h f => let w := (x16 b u n).1 h f; ⟨(upd_ne fun e => ne_of_none h hD e).trans w.1, w.2⟩, fun h f => let w := (x16 b u n).2 h f; ⟨Rd.upd (Rd.ne hD h) w.1, w.2⟩⟩
  · have e : i = xs.length := by omega
    subst e
    rw [List.drop_length] at q2
    exact .inl ⟨wk.stop (also M D) S2 H2 o2 x2 q2.1, fin _ _ _ _ _ q2.2 o2 (x1.trans x2) hD2 nD2 (o1.nom hD) (fun c b u n => ⟨fun h f => let w := (x1 b u n).1 h f; let z := (x2 b u w.2).1 w.1 f; ⟨z.1, (ups_ne (ne_of_none w.1 hD)).trans z.2⟩, fun h f => let w := (x1 b u n).2 h f; let z := (x2 b u w.2).2 w.1 f; ⟨z.1, (ups_ne (Rd.ne hD w.1)).trans z.2⟩⟩) ra⟩
/-- the block's parts, as judged within -/
theorem blk_g {vs : List Nat} {S0 : Sto} {H0 : Hp} {Y : Cx} (h : TGt Y vs tg g) (tk : ∀ M, Takes Y (wOf Y M S0 H0 EN)) : PG Y tg (XG Y vs S0 H0 g) :=
  ⟨fun pins s σ H v u Q I r ⟨M, q⟩ => (h M S0 H0 EN (tk M)).run pins s σ H v u Q I r q⟩
theorem blk_t {S0 : Sto} {H0 : Hp} {Y : Cx} (h : TBs Y ifs tc) (tk : ∀ M, Takes Y (wOf Y M S0 H0 EN)) : PTs Y ifs (XB Y S0 H0 tc) :=
  ⟨fun pins s σ H Q I ⟨M, q⟩ => (h M S0 H0 EN (tk M)).run pins s σ H Q I q⟩
theorem blk_e {S0 : Sto} {H0 : Hp} {Y : Cx} (h : TE Y elt te) (tk : ∀ M, Takes Y (wOf Y M S0 H0 EN)) : PE Y elt (XE' Y S0 H0 te) :=
  ⟨fun pins s σ H Q I ⟨M, q⟩ => (h M S0 H0 EN (tk M)).run pins s σ H Q I q⟩
abbrev Blk (X : Cx) (scope : Scope) (F : Cx → Prop) : Prop := ∀ (s : Shared) (H : Hp) (C : Addr) (cl : List (Str × Addr)) (fp : List Addr), F (X.blk s H scope (compEnvC scope cl C X.env) fp)
variable {ow : List (Str × Nat)}
theorem te_comp (hc : X.calm = true) (hN : X.N.Nodup) (hi : TI X tg iter ti) (ok : BlkOk X.N X.env.scope scope ow) (hg : Blk X scope fun Y => TGt Y (ow.map (·.2)) tg g) (ht : Blk X scope fun Y => TBs Y ifs tc) (he : Blk X scope fun Y => TE Y elt te)
    (hs : ∀ x, foldedSetIterable iter X.env x = pure x := by intro _; rfl) : TE X (.ListComp elt [⟨tg, iter, ifs, 0⟩] scope pos) (cComp ti g tc te (ow.map (·.2))) := fun M S0 H0 E tk =>
  (pe_lc hc hN (hi M S0 H0 E tk) ok (fun s H C cl fp => blk_g (hg s H C cl fp) fun _ => takes_blk) (fun s H C cl fp => blk_t (ht s H C cl fp) fun _ => takes_blk) (fun s H C cl fp => blk_e (he s H C cl fp) fun _ => takes_blk) hs).weak
    fun σ H Q ⟨τ, S, Qt, rel, h, k⟩ => comp_read _ rel h fun zs S2 D H2 vs q o2 x2 hD nD nM xD r => k (.lst zs) S2 (.ref D) H2 q (o2.takeOff fun _ m => .inl m) x2 (.lst ⟨hD, nD, nM⟩ (r.takeOff fun _ m => .inl m))
theorem te_compM (hc : X.calm = true) (hN : X.N.Nodup) (hi : TI X tg iter ti) (ok : BlkOk X.N X.env.scope scope ow) (hg : Blk X scope fun Y => TGt Y (ow.map (·.2)) tg g) (ht : Blk X scope fun Y => TBs Y ifs tc) (he : Blk X scope fun Y => TE Y elt te)
    (hs : ∀ x, foldedSetIterable iter X.env x = pure x := by intro _; rfl) : TE X (.ListComp elt [⟨tg, iter, ifs, 0⟩] scope pos) (cCompM ti g tc te (ow.map (·.2))) := fun M S0 H0 E tk =>
  (pe_lc hc hN (hi M S0 H0 E tk) ok (fun s H C cl fp => blk_g (hg s H C cl fp) fun _ => takes_blk) (fun s H C cl fp => blk_t (ht s H C cl fp) fun _ => takes_blk) (fun s H C cl fp => blk_e (he s H C cl fp) fun _ => takes_blk) hs).weak
    fun σ H Q ⟨τ, S, Qt, rel, h, k⟩ => by
      refine comp_read (fun zs S2 => ∀ p, S2 p = none → Qt (.ref p) (ups S2 p (.lst zs))) rel h fun zs S2 D H2 vs q o2 x2 hD nD nM xD r => ?_
      have um : ∀ {c : Cell}, ExtM (also M D) S2 H2 (ups S2 D c) H2 := fun {c} b u nb n => by
        have ne : b ≠ D := fun e => nb (.inr e)
        exact ⟨fun h _ => ⟨h, (ups_ne ne).trans n⟩, fun h _ => ⟨h, (ups_ne ne).trans n⟩⟩
      have r' : Reps (gdOf X (also M D)) H2 (ups S2 D (.lst zs)) zs vs := Reps.extM um _ _ r
      have o3 : StoOk (gdOf X M) H2 (ups S2 D (.lst zs)) := ⟨fun a c e => by
        by_cases z : a = D
        · subst z
          rw [ups_same] at e
          cases e
          exact ⟨vs, hD, r'.takeOff fun _ m => .inl m⟩
        · rw [ups_ne z] at e
          exact CellOk.mask (G := gdOf X (also M D)) (M := M) (fun _ _ _ n m => n (Or.inl m)) ((o2.at_ a c e).extM um rfl), fun a m => o2.msk a (.inl m), fun a m => by
        have ne : a ≠ D := fun e => nM (e ▸ m)
        rw [ups_ne ne]
        exact o2.sep a (.inl m)⟩
      exact k (.ref D) _ (.ref D) H2 (q D nD) o3 (xD _) (.ref D)
/-- name = [..], the name a local -/
theorem ts_setComp {i : Nat} {y : Str} (hc : X.calm = true) (hN : X.N.Nodup) (hy : X.N[i]? = some y) (hyl : X.env.scope.names.lookup y = some .local) (hsw : swapsWith (.ListComp elt [⟨tg, iter, ifs, 0⟩] scope pos) (some (.Name y py)) spos.line X.env = pure true)
    (hi : TI X tg iter ti) (ok : BlkOk X.N X.env.scope scope ow) (hg : Blk X scope fun Y => TGt Y (ow.map (·.2)) tg g) (ht : Blk X scope fun Y => TBs Y ifs tc) (he : Blk X scope fun Y => TE Y elt te) (hs : ∀ x, foldedSetIterable iter X.env x = pure x := by intro _; rfl) :
    TS X (.Assign [.Name y py] (.ListComp elt [⟨tg, iter, ifs, 0⟩] scope pos) spos) (cSet i (cComp ti g tc te (ow.map (·.2)))) := fun M S0 H0 E tk =>
  (ps_setLc hc hN hy hyl hsw (hi M S0 H0 E tk) ok (fun s H C cl fp => blk_g (hg s H C cl fp) fun _ => takes_blk) (fun s H C cl fp => blk_t (ht s H C cl fp) fun _ => takes_blk) (fun s H C cl fp => blk_e (he s H C cl fp) fun _ => takes_blk) hs).weak
    fun D σ H ⟨τ, S, B, rel, h, k, _⟩ => comp_read (fun zs S2 => B.nx (τ.set i (some (.lst zs))) S2) rel h fun zs S2 L H2 vs q o2 x2 hD nD nM xD r =>
      k _ _ _ _ ((rel.step (o2.takeOff fun _ m => .inl m) x2).set (.lst ⟨hD, nD, nM⟩ (r.takeOff fun _ m => .inl m))) x2 q
theorem ts_setCompM {i : Nat} {y : Str} (hc : X.calm = true) (hN : X.N.Nodup) (hy : X.N[i]? = some y) (hyl : X.env.scope.names.lookup y = some .local) (hsw : swapsWith (.ListComp elt [⟨tg, iter, ifs, 0⟩] scope pos) (some (.Name y py)) spos.line X.env = pure true)
    (hi : TI X tg iter ti) (ok : BlkOk X.N X.env.scope scope ow) (hg : Blk X scope fun Y => TGt Y (ow.map (·.2)) tg g) (ht : Blk X scope fun Y => TBs Y ifs tc) (he : Blk X scope fun Y => TE Y elt te) (hs : ∀ x, foldedSetIterable iter X.env x = pure x := by intro _; rfl) :
    TS X (.Assign [.Name y py] (.ListComp elt [⟨tg, iter, ifs, 0⟩] scope pos) spos) (cSet i (cCompM ti g tc te (ow.map (·.2)))) := fun M S0 H0 E tk =>
  (ps_setLc hc hN hy hyl hsw (hi M S0 H0 E tk) ok (fun s H C cl fp => blk_g (hg s H C cl fp) fun _ => takes_blk) (fun s H C cl fp => blk_t (ht s H C cl fp) fun _ => takes_blk) (fun s H C cl fp => blk_e (he s H C cl fp) fun _ => takes_blk) hs).weak
    fun D σ H ⟨τ, S, B, rel, h, k, _⟩ => by
      refine comp_read (fun zs S2 => ∀ p, S2 p = none → B.nx (τ.set i (some (.ref p))) (ups S2 p (.lst zs))) rel h fun zs S2 L H2 vs q o2 x2 hD nD nM xD r => ?_
      have um : ∀ {c : Cell}, ExtM (also M L) S2 H2 (ups S2 L c) H2 := fun {c} b u nb n => by
        have ne : b ≠ L := fun e => nb (.inr e)
        exact ⟨fun h _ => ⟨h, (ups_ne ne).trans n⟩, fun h _ => ⟨h, (ups_ne ne).trans n⟩⟩
      have r' : Reps (gdOf X (also M L)) H2 (ups S2 L (.lst zs)) zs vs := Reps.extM um _ _ r
      have o3 : StoOk (gdOf X M) H2 (ups S2 L (.lst zs)) := ⟨fun a c e => by
        by_cases z : a = L
        · subst z
          rw [ups_same] at e
          cases e
          exact ⟨vs, hD, r'.takeOff fun _ m => .inl m⟩
        · rw [ups_ne z] at e
          exact CellOk.mask (G := gdOf X (also M L)) (M := M) (fun _ _ _ n m => n (Or.inl m)) ((o2.at_ a c e).extM um rfl), fun a m => o2.msk a (.inl m), fun a m => by
        have ne : a ≠ L := fun e => nM (e ▸ m)
        rw [ups_ne ne]
        exact o2.sep a (.inl m)⟩
      exact k _ _ _ _ ((rel.step o3 (xD _)).set (.ref L)) (xD _) (q L nD)
end
end TL

/-! TLe: defs and their calls over trees. -/
namespace TL
open PySem PySem.Spec PyProof.Rows L2

/-- what a def promises: the arguments' trees, the store, what follows, what is raised -/
abbrev SpT := List T → Sto → (T → Sto → Prop) → (T → Sto → Prop) → Prop
def liftSp (P : Program) (K : PySem.W.Frag) (w : World) (sp : SpT) : Sp := fun vs H Q E => ∃ M ts S Qt Et, Reps ⟨P, K, w, M⟩ H S ts vs ∧ StoOk ⟨P, K, w, M⟩ H S ∧ sp ts S Qt Et ∧
  (∀ z S' v H', Qt z S' → StoOk ⟨P, K, w, M⟩ H' S' → Ext S H S' H' → Rep ⟨P, K, w, M⟩ H' S' z v → Q v H') ∧
  (∀ x S' cls d H', Et x S' → StoOk ⟨P, K, w, M⟩ H' S' → Ext S H S' H' → ExcIs ⟨P, K, w, M⟩ H' S' x cls d → E cls d H')
def cCall (sp : SpT) (a : TTA) : TTE := fun τ S Q E => a τ S (fun ts S1 => sp ts S1 Q E) E

/-! ### giving up cells -/
mutual
/-- u is t with some cells of S, none of S2, taken for what they hold -/
inductive Fz (S S2 : Sto) : T → T → Prop
  | same (t : T) : Fz S S2 t t
  | lstc {a : Addr} {ts us : List T} : S a = some (.lst ts) → S2 a = none → Fzs S S2 ts us → Fz S S2 (.ref a) (.lst us)
  | dctc {a : Addr} {b : Bool} {ks vs us : List T} : S a = some (.dct b ks vs) → S2 a = none → Fzs S S2 vs us → Fz S S2 (.ref a) (.dct b ks us)
  | insc {a : Addr} {c : Str} {ns : List Str} {vs us : List T} : S a = some (.ins c ns vs) → S2 a = none → Fzs S S2 vs us → Fz S S2 (.ref a) (.obj c ns us)
  | tup {ts us : List T} : Fzs S S2 ts us → Fz S S2 (.tup ts) (.tup us)
  | lst {ts us : List T} : Fzs S S2 ts us → Fz S S2 (.lst ts) (.lst us)
inductive Fzs (S S2 : Sto) : List T → List T → Prop
  | nil : Fzs S S2 [] []
  | cons {t u : T} {ts us : List T} : Fz S S2 t u → Fzs S S2 ts us → Fzs S S2 (t :: ts) (u :: us)
end
/-- some cells are given up -/
def Sub (S2 S : Sto) : Prop := ∀ a c, S2 a = some c → S a = some c
section
variable {G : Gd} {H : Hp} {S S2 : Sto}
theorem Sub.ext (k : Sub S2 S) : Ext S H S2 H := Ext.drop fun b n => by
  cases q : S2 b with
  | none => rfl
  | some d => rw [k b d q] at n; cases n
mutual
theorem Fz.rep (o : StoOk G H S) (k : Sub S2 S) : ∀ {t u : T}, Fz S S2 t u → ∀ {v : V}, Rep G H S t v → Rep G H S2 u v
  | _, _, .same _, _, r => Rep.ext k.ext _ _ r
  | _, _, .lstc h1 h2 h3, _, r => by
    cases r
    obtain ⟨xs, e, q⟩ := o.at_ _ _ h1
    exact .lst ⟨e, h2, fun m => by rw [o.sep _ m] at h1; cases h1⟩ (Fzs.reps o k h3 q)
  | _, _, .dctc (b := false) h1 h2 h3, _, r => by
    cases r
    obtain ⟨kvs, e, q1, q2⟩ := o.at_ _ _ h1
    exact .dK ⟨.inl e, h2, fun m => by rw [o.sep _ m] at h1; cases h1⟩ (Reps.ext k.ext _ _ q1) (Fzs.reps o k h3 q2)
  | _, _, .dctc (b := true) h1 h2 h3, _, r => by
    cases r
    obtain ⟨es, e, q0, q1, q2⟩ := o.at_ _ _ h1
    exact .dN ⟨.inl e, h2, fun m => by rw [o.sep _ m] at h1; cases h1⟩ q0 (Reps.ext k.ext _ _ q1) (Fzs.reps o k h3 q2)
  | _, _, .insc h1 h2 h3, _, r => by
    cases r
    obtain ⟨d, xs, e, q0, q1⟩ := o.at_ _ _ h1
    exact .obj ⟨.inl e, h2, fun m => by rw [o.sep _ m] at h1; cases h1⟩ q0 (Fzs.reps o k h3 q1)
  | _, _, .tup h, _, r => by
    cases r with
    | tup h1 h2 => exact .tup (h1.ext k.ext) (Fzs.reps o k h h2)
  | _, _, .lst h, _, r => by
    cases r with
    | lst h1 h2 => exact .lst (h1.ext k.ext) (Fzs.reps o k h h2)
theorem Fzs.reps (o : StoOk G H S) (k : Sub S2 S) : ∀ {ts us : List T}, Fzs S S2 ts us → ∀ {vs : List V}, Reps G H S ts vs → Reps G H S2 us vs
  | _, _, .nil, _, r => by cases r; exact .nil
  | _, _, .cons h1 h2, _, r => by
    cases r with
    | cons r1 r2 => exact .cons (Fz.rep o k h1 r1) (Fzs.reps o k h2 r2)
end
end
/-- what follows, some cells given up -/
def Fin (Q : T → Sto → Prop) (z : T) (S : Sto) : Prop := ∃ S2 u, Sub S2 S ∧ Fz S S2 z u ∧ Q u S2
theorem Fin.of {Q : T → Sto → Prop} {z : T} {S : Sto} (h : Q z S) : Fin Q z S := ⟨S, z, fun _ _ e => e, .same z, h⟩
/-- an exception's fields are not frozen; cells are given up all the same -/
def FinX (Q : T → Sto → Prop) (z : T) (S : Sto) : Prop := ∃ S2, Sub S2 S ∧ Q z S2
theorem ExcIs.ext {G : Gd} {H H' : Hp} {S S' : Sto} {x : T} {cls : Value} {d : Option Addr} (h : ExcIs G H S x cls d) (e : Ext S H S' H') : ExcIs G H' S' x cls d := by
  obtain ⟨c, ns, ts, h1, h2, h3⟩ := h
  refine ⟨c, ns, ts, h1, h2, h3.imp id ?_⟩
  rintro ⟨da, xs, q1, q2, q3, q4⟩
  exact ⟨da, xs, q1, q2.ext e, q3, Reps.ext e _ _ q4⟩

/-! ### the slots at the entry -/
def startT (N : List Str) (ts : List T) : TEnv := ts.map some ++ List.replicate (N.length - ts.length) none
theorem start_env {G : Gd} {H : Hp} {S : Sto} {N : List Str} {ts : List T} {vs : List V} (r : Reps G H S ts vs) : EnvR G H S (start N vs) (startT N ts) := by
  have l := r.length
  refine ⟨by simp [L2.start, startT, l], fun i t e => ?_⟩
  unfold startT at e
  by_cases hi : i < ts.length
  · rw [List.getElem?_append_left (by simpa using hi), List.getElem?_map] at e
    cases q : ts[i]? with
    | none => rw [q] at e; cases e
    | some z =>
      rw [q] at e
      cases e
      obtain ⟨v, h1, h2⟩ := r.get q
      refine ⟨v, ?_, h2⟩
      unfold L2.start
      rw [List.getElem?_append_left (by simp; omega), List.getElem?_map, h1]
      rfl
  · rw [List.getElem?_append_right (by simpa using hi), List.getElem?_replicate] at e
    split at e <;> cases e

section
variable {P : Program} {w : World} {K : PySem.W.Frag} {mg : Str → Option Value} {base : Heap} {x qual : Str} {params : Arguments} {body : List Stmt} {scope : Scope} {f : Addr} {fd : FuncData} {N ps : List Str} {k : Nat} {sp : SpT} {c : TTS}
/-- THE RULE for a def: its body as a tree's reading, and the reading -/
theorem fn_t (F : FunD K x qual params body scope [] [] f fd) (Sc : FnScope N ps scope) (len : ∀ ts S Q E, sp ts S Q E → ts.length = ps.length)
    (hb : ∀ (cdv : Value) (A : Around) (outer : List Env) (s : Shared) (H : Hp) (E : XK), Room k (A.deeper (envOfC qual scope s.heap.objs.size f cdv)) → TSs (cxOf (L2.CX P w) P w K mg base N qual scope f cdv A outer s H E) body c)
    (vc : ∀ ts S Q E, sp ts S Q E → c { nx := fun _ S' => Fin Q .non S', rt := Fin Q } (startT N ts) S (fun x _ S' => FinX E x S')) :
    FnOk P w K mg base (L2.CX P w) (k + 1) f fd ps (liftSp P K w sp) := by
  refine F.ok Sc (fun vs H Q E h => ?_) (fun cdv A outer s H vs Q E hr h => ?_)
  · obtain ⟨M, ts, S, Qt, Et, r, _, q, _⟩ := h
    rw [← r.length]
    exact len _ _ _ _ q
  · obtain ⟨M, ts, S, Qt, Et, r, o, q, hQ, hE⟩ := h
    have vc' := vc ts S Qt Et q
    have tk : Takes (cxOf (L2.CX P w) P w K mg base N qual scope f cdv A outer s H E) (wOf (cxOf (L2.CX P w) P w K mg base N qual scope f cdv A outer s H E) M S H fun x _ S' => FinX Et x S') := by
      refine takes_of rfl rfl rfl rfl |>.imp fun cls d σ H' z => ?_
      obtain ⟨τ, S', x, rel, hx, S2, k2, h2⟩ := z
      exact hE x S2 cls d H' h2 (rel.sto.drop k2) (rel.ext.trans k2.ext) (hx.ext k2.ext)
    refine ⟨_, hb cdv A outer s H E hr M S H _ tk, startT N ts, S, _, ⟨start_env r, o, Ext.refl⟩, vc', ?_, ?_, fun _ _ _ _ _ _ z => z.elim, fun _ _ _ _ _ _ z => z.elim⟩
    · rintro σ' H' τ' S' rel x ⟨S2, u, k2, fz, q2⟩
      exact hQ u S2 .non H' q2 (rel.sto.drop k2) (x.trans k2.ext) (Fz.rep rel.sto k2 fz .non)
    · rintro z S' v H' o2 x r2 ⟨S2, u, k2, fz, q2⟩
      exact hQ u S2 v H' q2 (o2.drop k2) (x.trans k2.ext) (Fz.rep o2 k2 fz r2)
end

section
variable {X : Cx} {k : Nat} {f : Addr} {fd : FuncData} {ps : List Str} {sp : SpT} {x : Str} {p pos : Pos} {e : Expr} {es : List Expr} {ta : TTA}
theorem te_call (F : FnOk X.prog X.w X.K X.mg X.base (L2.CX X.prog X.w) k f fd ps (liftSp X.prog X.K X.w sp)) (hr : Room k X.A) (hg : Gl X x) (hm : X.mg x = some (.ref f)) (hk : PySem.W.keepIn X.K (.ref f) = true) (hb : Binds X.K fd ps [])
    (ha : TA X (e :: es) ta) (hdb : (x == ("__debug__" : Str)) = false := by decide) (he : starEach (e :: es) X.env = (false, eval e X.env) :: starEach es X.env := by rfl) (hpl : (backTo pos (starEach es X.env)).any (·.1) = false := by rfl) :
    TE X (.Call (.Name x p) (e :: es) [] pos) (cCall sp ta) := fun M S0 H0 E tk =>
  (pe_callS (E := WE (wOf X M S0 H0 E)) F hr hg hm hk hb (fun σ => passAt tk σ) (ha M S0 H0 E tk) hdb he hpl).weak fun σ H Q ⟨τ, S, Qt, rel, h, fin⟩ => ⟨τ, S, _, rel, h, fun zs S1 vs H1 q o1 x1 r1 =>
    ⟨M, zs, S1, Qt, fun x S' => E x τ S', r1, o1, q, fun z S' v H' qz o2 x2 r2 => fin z S' v H' qz o2 (x1.trans x2) r2, fun x S' cls d H' qx o2 x2 hx => ⟨τ, S', x, rel.step o2 (x1.trans x2), hx, qx⟩⟩⟩
end
end TL

/-! TLf: trees as data; ==, <, in; numbers, texts, tuples joined. -/
namespace TL
open PySem PySem.Spec PyProof.Rows L2

/-! ### plain trees as data -/
mutual
def dat : T → PyData
  | .bl b => .bool b
  | .int i => .int i
  | .str x => .str (txt x)
  | .tup ts => .tuple (dats ts)
  | .lst ts => .list (dats ts)
  | _ => .none
def dats : List T → List PyData
  | [] => []
  | t :: ts => dat t :: dats ts
end
mutual
def plain : T → Bool
  | .non => true
  | .bl _ => true
  | .int _ => true
  | .str _ => true
  | .tup ts => plains ts
  | .lst ts => plains ts
  | _ => false
def plains : List T → Bool
  | [] => true
  | t :: ts => plain t && plains ts
end
mutual
def dep : T → Nat
  | .tup ts => deps ts + 1
  | .lst ts => deps ts + 1
  | _ => 0
def deps : List T → Nat
  | [] => 0
  | t :: ts => max (dep t) (deps ts)
end
/-! as Python's == tells -/
mutual
def eqt : T → T → Bool
  | .non, .non => true
  | .bl a, .bl b => a == b
  | .bl a, .int j => (if a then 1 else 0) == j
  | .int i, .bl b => i == (if b then 1 else 0)
  | .int i, .int j => i == j
  | .str x, .str y => decide (x = y)
  | .tup xs, .tup ys => eqts xs ys
  | .lst xs, .lst ys => eqts xs ys
  | _, _ => false
def eqts : List T → List T → Bool
  | [], [] => true
  | x :: xs, y :: ys => eqt x y && eqts xs ys
  | _, _ => false
end
def strLt (x y : List Sg) : Bool := decide (x.map (·.val) < y.map (·.val))
/-! as Python's < tells of things alike -/
mutual
def ltt : T → T → Bool
  | .bl a, .bl b => !a && b
  | .int i, .int j => decide (i < j)
  | .str x, .str y => strLt x y
  | .tup xs, .tup ys => ltts xs ys
  | .lst xs, .lst ys => ltts xs ys
  | _, _ => false
def ltts : List T → List T → Bool
  | [], [] => false
  | [], _ :: _ => true
  | _ :: _, [] => false
  | x :: xs, y :: ys => if eqt x y = true then ltts xs ys else ltt x y
end
mutual
def alk : T → T → Bool
  | .non, .non => true
  | .bl _, .bl _ => true
  | .int _, .int _ => true
  | .str _, .str _ => true
  | .lst xs, .lst ys => alks xs ys
  | .tup xs, .tup ys => alks xs ys
  | _, _ => false
def alks : List T → List T → Bool
  | x :: xs, y :: ys => alk x y && alks xs ys
  | [], _ => true
  | _ :: _, [] => true
end
theorem txt_eq (x y : List Sg) : (txt x == txt y) = decide (x = y) := by
  by_cases h : x = y
  · subst h
    simp
  · have : txt x ≠ txt y := fun e => h (txt_inj e)
    simp [h, this]
mutual
theorem eqt_dat : ∀ x y : T, plain x = true → plain y = true → PyData.eqv (dat x) (dat y) = eqt x y
  | .non, y, _, hy => by cases y <;> first | rfl | cases hy
  | .bl _, y, _, hy => by cases y <;> first | rfl | cases hy
  | .int _, y, _, hy => by cases y <;> first | rfl | cases hy
  | .str a, y, _, hy => by
    cases y with
    | str b => simp only [dat, PyData.eqv, eqt]; exact txt_eq a b
    | _ => first | rfl | cases hy
  | .tup xs, y, hx, hy => by
    cases y with
    | tup ys =>
      simp only [dat, PyData.eqv, eqt]
      exact eqts_dat xs ys hx hy
    | _ => first | rfl | cases hy
  | .lst xs, y, hx, hy => by
    cases y with
    | lst ys =>
      simp only [dat, PyData.eqv, eqt]
      exact eqts_dat xs ys hx hy
    | _ => first | rfl | cases hy
  | .ref _, _, hx, _ => by cases hx
  | .exc _ _ _, _, hx, _ => by cases hx
  | .dct _ _ _, _, hx, _ => by cases hx
  | .obj _ _ _, _, hx, _ => by cases hx
  | .fn _, _, hx, _ => by cases hx
  | .scr _, _, hx, _ => by cases hx
theorem eqts_dat : ∀ xs ys : List T, plains xs = true → plains ys = true → PyData.eqvAll (dats xs) (dats ys) = eqts xs ys
  | [], [], _, _ => rfl
  | [], _ :: _, _, _ => rfl
  | _ :: _, [], _, _ => rfl
  | x :: xs, y :: ys, hx, hy => by
    simp only [plains, Bool.and_eq_true] at hx hy
    simp only [dats, PyData.eqvAll, eqts]
    rw [eqt_dat x y hx.1 hy.1, eqts_dat xs ys hx.2 hy.2]
end
mutual
theorem alk_dat : ∀ x y : T, plain x = true → plain y = true → PySem.W.alike (dat x) (dat y) = alk x y
  | .non, y, _, hy => by cases y <;> first | (simp only [dat, PySem.W.alike, alk]; done) | cases hy
  | .bl _, y, _, hy => by cases y <;> first | (simp only [dat, PySem.W.alike, alk]; done) | cases hy
  | .int _, y, _, hy => by cases y <;> first | (simp only [dat, PySem.W.alike, alk]; done) | cases hy
  | .str a, y, _, hy => by cases y <;> first | (simp only [dat, PySem.W.alike, alk]; done) | cases hy
  | .tup xs, y, hx, hy => by
    cases y with
    | tup ys =>
      simp only [dat, PySem.W.alike, alk]
      exact alks_dat xs ys hx hy
    | _ => first | (simp only [dat, PySem.W.alike, alk]; done) | cases hy
  | .lst xs, y, hx, hy => by
    cases y with
    | lst ys =>
      simp only [dat, PySem.W.alike, alk]
      exact alks_dat xs ys hx hy
    | _ => first | (simp only [dat, PySem.W.alike, alk]; done) | cases hy
  | .ref _, _, hx, _ => by cases hx
  | .exc _ _ _, _, hx, _ => by cases hx
  | .dct _ _ _, _, hx, _ => by cases hx
  | .obj _ _ _, _, hx, _ => by cases hx
  | .fn _, _, hx, _ => by cases hx
  | .scr _, _, hx, _ => by cases hx
theorem alks_dat : ∀ xs ys : List T, plains xs = true → plains ys = true → PySem.W.alikeAll (dats xs) (dats ys) = alks xs ys
  | [], [], _, _ => by simp only [dats, PySem.W.alikeAll, alks]
  | [], _ :: _, _, _ => by simp only [dats, PySem.W.alikeAll, alks]
  | _ :: _, [], _, _ => by simp only [dats, PySem.W.alikeAll, alks]
  | x :: xs, y :: ys, hx, hy => by
    simp only [plains, Bool.and_eq_true] at hx hy
    simp only [dats, PySem.W.alikeAll, alks]
    rw [alk_dat x y hx.1 hy.1, alks_dat xs ys hx.2 hy.2]
end
theorem ltts_eq (x y : T) (xs ys : List T) : ltts (x :: xs) (y :: ys) = if eqt x y = true then ltts xs ys else ltt x y := by simp only [ltts]
mutual
theorem ltt_dat : ∀ x y : T, plain x = true → plain y = true → alk x y = true → x ≠ .non → PySem.W.dataLt (dat x) (dat y) = ltt x y
  | .non, _, _, _, _, h => absurd rfl h
  | .bl a, y, _, hy, h, _ => by
    cases y with
    | bl b =>
      simp only [dat, ltt]
      refine (PySem.W.dataLt_bool a b).trans ?_
      cases a <;> cases b <;> rfl
    | _ => simp [alk] at h
  | .int i, y, _, hy, h, _ => by
    cases y with
    | int j => exact PySem.W.dataLt_int i j
    | _ => simp [alk] at h
  | .str a, y, _, hy, h, _ => by
    cases y with
    | str b => exact PySem.W.dataLt_str (txt a) (txt b)
    | _ => simp [alk] at h
  | .tup xs, y, hx, hy, h, _ => by
    cases y with
    | tup ys =>
      simp only [dat, ltt]
      rw [PySem.W.dataLt_tuple]
      exact ltts_dat xs ys hx hy (by simpa [alk] using h)
    | _ => simp [alk] at h
  | .lst xs, y, hx, hy, h, _ => by
    cases y with
    | lst ys =>
      simp only [dat, ltt]
      rw [PySem.W.dataLt_list]
      exact ltts_dat xs ys hx hy (by simpa [alk] using h)
    | _ => simp [alk] at h
  | .ref _, _, hx, _, _, _ => by cases hx
  | .exc _ _ _, _, hx, _, _, _ => by cases hx
  | .dct _ _ _, _, hx, _, _, _ => by cases hx
  | .obj _ _ _, _, hx, _, _, _ => by cases hx
  | .fn _, _, hx, _, _, _ => by cases hx
  | .scr _, _, hx, _, _, _ => by cases hx
theorem ltts_dat : ∀ xs ys : List T, plains xs = true → plains ys = true → alks xs ys = true → PyProof.Rows.lexLt PyProof.Rows.itemOrd (PySem.W.keyToksAll (dats xs)) (PySem.W.keyToksAll (dats ys)) = ltts xs ys
  | [], [], _, _, _ => by simp only [dats, PySem.W.keyToksAll, ltts]; rfl
  | [], y :: ys, _, _, _ => by
    simp only [dats, PySem.W.keyToksAll, ltts]
    rw [PySem.W.lex_atom (by simp), PySem.W.lex_one]
    rfl
  | x :: xs, [], _, _, _ => by
    simp only [dats, PySem.W.keyToksAll, ltts]
    rw [PySem.W.lex_atom (by simp), PySem.W.lex_one]
    rfl
  | x :: xs, y :: ys, hx, hy, h => by
    simp only [plains, Bool.and_eq_true] at hx hy
    simp only [alks, Bool.and_eq_true] at h
    have ha : PySem.W.alike (dat x) (dat y) = true := by rw [alk_dat x y hx.1 hy.1]; exact h.1
    rw [ltts_eq]
    show PyProof.Rows.lexLt PyProof.Rows.itemOrd (PySem.W.keyToksAll (dat x :: dats xs)) (PySem.W.keyToksAll (dat y :: dats ys)) = _
    rw [PySem.W.dataLt_cons ha, eqt_dat x y hx.1 hy.1, ltts_dat xs ys hx.2 hy.2 h.2]
    by_cases e : eqt x y = true
    · rw [if_pos e, if_pos e]
    · rw [if_neg e, if_neg e]
      refine ltt_dat x y hx.1 hy.1 h.1 fun z => ?_
      subst z
      cases y <;> simp [alk, eqt] at h e
end
mutual
theorem dep_dat : ∀ x : T, plain x = true → (dat x).depth = dep x
  | .non, _ => rfl
  | .bl _, _ => rfl
  | .int _, _ => rfl
  | .str _, _ => rfl
  | .tup xs, h => by simp only [dat, PyData.depth, dep]; rw [deps_dat xs h]
  | .lst xs, h => by simp only [dat, PyData.depth, dep]; rw [deps_dat xs h]
  | .ref _, hx => by cases hx
  | .exc _ _ _, hx => by cases hx
  | .dct _ _ _, hx => by cases hx
  | .obj _ _ _, hx => by cases hx
  | .fn _, hx => by cases hx
  | .scr _, hx => by cases hx
theorem deps_dat : ∀ xs : List T, plains xs = true → PyData.depthAll (dats xs) = deps xs
  | [], _ => rfl
  | x :: xs, h => by
    simp only [plains, Bool.and_eq_true] at h
    simp only [dats, PyData.depthAll, deps]
    rw [dep_dat x h.1, deps_dat xs h.2]
end
mutual
theorem lay_dat : ∀ x : T, plain x = true → (dat x).canLay0 = true
  | .non, _ => rfl
  | .bl _, _ => rfl
  | .int _, _ => rfl
  | .str a, _ => by
    simp only [dat, PyData.canLay0, PyData.strOk]
    rw [Array.all_eq_true']
    intro c hc
    have hc' : c ∈ (a.map (·.val)).toArray := hc
    rw [List.mem_toArray] at hc'
    obtain ⟨s, _, rfl⟩ := List.mem_map.mp hc'
    have := s.isLt
    exact decide_eq_true (by omega)
  | .tup xs, h => by simp only [dat, PyData.canLay0]; exact lays_dat xs h
  | .lst xs, h => by simp only [dat, PyData.canLay0]; exact lays_dat xs h
  | .ref _, hx => by cases hx
  | .exc _ _ _, hx => by cases hx
  | .dct _ _ _, hx => by cases hx
  | .obj _ _ _, hx => by cases hx
  | .fn _, hx => by cases hx
  | .scr _, hx => by cases hx
theorem lays_dat : ∀ xs : List T, plains xs = true → PyData.canLayAll0 (dats xs) = true
  | [], _ => rfl
  | x :: xs, h => by
    simp only [plains, Bool.and_eq_true] at h
    simp only [dats, PyData.canLayAll0, Bool.and_eq_true]
    exact ⟨lay_dat x h.1, lays_dat xs h.2⟩
end
section
variable {G : Gd} {H : Hp} {S : Sto}
mutual
theorem Rep.dp : ∀ (t : T) (v : V), Rep G H S t v → plain t = true → Dp G.K H v (dat t)
  | .non, _, r, _ => by cases r; exact .non
  | .bl _, _, r, _ => by cases r; exact .bl _
  | .int _, _, r, _ => by cases r; exact .int _
  | .str _, _, r, _ => by cases r; exact .str _
  | .tup ts, _, r, h => by
    cases r with
    | tup h1 h2 => exact .tup h1.sq (Reps.dp ts _ h2 h)
  | .lst ts, _, r, h => by
    cases r with
    | lst h1 h2 => exact .lst h1.sq (Reps.dp ts _ h2 h)
  | .ref _, _, _, hx => by cases hx
  | .exc _ _ _, _, _, hx => by cases hx
  | .dct _ _ _, _, _, hx => by cases hx
  | .obj _ _ _, _, _, hx => by cases hx
  | .fn _, _, _, hx => by cases hx
  | .scr _, _, _, hx => by cases hx
theorem Reps.dp : ∀ (ts : List T) (vs : List V), Reps G H S ts vs → plains ts = true → DpAll G.K H vs (dats ts)
  | [], _, r, _ => by cases r; exact .nil
  | t :: ts, _, r, h => by
    simp only [plains, Bool.and_eq_true] at h
    cases r with
    | cons h1 h2 => exact .cons (Rep.dp t _ h1 h.1) (Reps.dp ts _ h2 h.2)
end
/-- a cell that holds a list, as a list -/
def res (S : Sto) : T → T
  | .ref a => match S a with
    | some (.lst ts) => .lst ts
    | _ => .ref a
  | t => t
theorem res_dp (o : StoOk G H S) {t : T} {v : V} (r : Rep G H S t v) (h : plain (res S t) = true) : Dp G.K H v (dat (res S t)) := by
  cases t with
  | ref a =>
    cases r
    cases e : S a with
    | none => simp [res, e, plain] at h
    | some c =>
      cases c with
      | lst ts =>
        simp only [res, e] at h ⊢
        obtain ⟨ws, hw, q⟩ := o.at_ a _ e
        exact .lst (SqL.of hw) (Reps.dp ts ws q h)
      | dct _ _ _ => simp [res, e, plain] at h
      | ins _ _ _ => simp [res, e, plain] at h
  | _ => exact Rep.dp _ v r h
end
/-- plain, and not too deep -/
def okd (t : T) : Bool := plain t && decide (dep t ≤ 64)
theorem okd_shaped {t : T} (h : okd t = true) : SeqAt.shaped (dat t) = true := by
  obtain ⟨h1, h2⟩ := Bool.and_eq_true_iff.mp h
  have h2' := of_decide_eq_true h2
  refine Bool.and_eq_true_iff.mpr ⟨lay_dat t h1, decide_eq_true ?_⟩
  rw [dep_dat t h1]
  exact h2'
theorem okd_plain {t : T} (h : okd t = true) : plain t = true := (Bool.and_eq_true_iff.mp h).1

/-! ### == and != -/
def eqT (S : Sto) (x y : T) : Option T := if (okd (res S x) && okd (res S y)) = true then some (.bl (eqt (res S x) (res S y))) else none
def neT (S : Sto) (x y : T) : Option T := if (okd (res S x) && okd (res S y)) = true then some (.bl (!eqt (res S x) (res S y))) else none
section
variable {X : Cx}
theorem op_eqT (hu : X.A.units + 64 < cLine) : OpT X (compareOp .Eq) eqT := by
  intro pins s σ H x y v u Q I rx ry h
  obtain ⟨M, S, tx, ty, t, o, hx, hy, e, fin⟩ := h
  unfold eqT at e
  split at e
  · rename_i c
    obtain ⟨c1, c2⟩ := Bool.and_eq_true_iff.mp c
    obtain rfl := Option.some.inj e
    refine op_eqD hu pins s σ H x y v u Q I rx ry ⟨_, _, res_dp o hx (okd_plain c1), res_dp o hy (okd_plain c2), okd_shaped c1, okd_shaped c2, ?_⟩
    rw [eqt_dat _ _ (okd_plain c1) (okd_plain c2)]
    exact fin _ H o Ext.refl (.bl _)
  · cases e
theorem op_neT (hu : X.A.units + 64 < cLine) : OpT X (compareOp .NotEq) neT := by
  intro pins s σ H x y v u Q I rx ry h
  obtain ⟨M, S, tx, ty, t, o, hx, hy, e, fin⟩ := h
  unfold neT at e
  split at e
  · rename_i c
    obtain ⟨c1, c2⟩ := Bool.and_eq_true_iff.mp c
    obtain rfl := Option.some.inj e
    refine op_neD hu pins s σ H x y v u Q I rx ry ⟨_, _, res_dp o hx (okd_plain c1), res_dp o hy (okd_plain c2), okd_shaped c1, okd_shaped c2, ?_⟩
    rw [eqt_dat _ _ (okd_plain c1) (okd_plain c2)]
    exact fin _ H o Ext.refl (.bl _)
  · cases e
/-! ### <, >, <=, >= -/
def cmpOk (x y : T) : Bool := okd x && (okd y && (alk x y && (match x with | .non => false | _ => true)))
theorem cmpOk_of {x y : T} (h : cmpOk x y = true) : okd x = true ∧ okd y = true ∧ alk x y = true ∧ x ≠ .non := by
  simp only [cmpOk, Bool.and_eq_true] at h
  obtain ⟨h1, h2, h3, h4⟩ := h
  refine ⟨h1, h2, h3, fun e => ?_⟩
  subst e
  cases h4
def ltT (_ : Sto) (x y : T) : Option T := if cmpOk x y = true then some (.bl (ltt x y)) else none
def gtT (_ : Sto) (x y : T) : Option T := if cmpOk x y = true then some (.bl (ltt y x)) else none
def leT (_ : Sto) (x y : T) : Option T := if cmpOk x y = true then some (.bl (!ltt y x)) else none
def geT (_ : Sto) (x y : T) : Option T := if cmpOk x y = true then some (.bl (!ltt x y)) else none
mutual
theorem alk_symm : ∀ x y : T, alk x y = alk y x
  | .non, y => by cases y <;> simp [alk]
  | .bl _, y => by cases y <;> simp [alk]
  | .int _, y => by cases y <;> simp [alk]
  | .str _, y => by cases y <;> simp [alk]
  | .tup xs, y => by
    cases y with
    | tup ys => simp only [alk]; exact alks_symm xs ys
    | _ => simp [alk]
  | .lst xs, y => by
    cases y with
    | lst ys => simp only [alk]; exact alks_symm xs ys
    | _ => simp [alk]
  | .ref _, y => by cases y <;> simp [alk]
  | .exc _ _ _, y => by cases y <;> simp [alk]
  | .dct _ _ _, y => by cases y <;> simp [alk]
  | .obj _ _ _, y => by cases y <;> simp [alk]
  | .fn _, y => by cases y <;> simp [alk]
  | .scr _, y => by cases y <;> simp [alk]
theorem alks_symm : ∀ xs ys : List T, alks xs ys = alks ys xs
  | [], [] => rfl
  | [], _ :: _ => by simp [alks]
  | _ :: _, [] => by simp [alks]
  | x :: xs, y :: ys => by
    simp only [alks]
    rw [alk_symm x y, alks_symm xs ys]
end
theorem cmp_facts {x y : T} (h : cmpOk x y = true) : PySem.W.alike (dat x) (dat y) = true ∧ dat x ≠ .none ∧ PySem.W.dataLt (dat x) (dat y) = ltt x y ∧ PySem.W.dataLt (dat y) (dat x) = ltt y x := by
  obtain ⟨h1, h2, h3, h4⟩ := cmpOk_of h
  have p1 := okd_plain h1
  have p2 := okd_plain h2
  refine ⟨by rw [alk_dat x y p1 p2]; exact h3, ?_, ltt_dat x y p1 p2 h3 h4, ltt_dat y x p2 p1 (by rw [alk_symm]; exact h3) fun e => ?_⟩
  · cases x <;> first | exact absurd rfl h4 | (cases p1; done) | (intro z; cases z)
  · subst e
    cases x <;> first | exact absurd rfl h4 | simp [alk] at h3
theorem room_cmp {A : Around} {x y : T} (h : cmpOk x y = true) (hu : A.units + 64 < cLine) : A.units + min (dat x).depth (dat y).depth < cLine := SeqAt.room_of_shaped (okd_shaped (cmpOk_of h).1) hu
theorem op_ltT (hu : X.A.units + 64 < cLine) : OpT X (compareOp .Lt) ltT := by
  intro pins s σ H x y v u Q I rx ry h
  obtain ⟨M, S, tx, ty, t, o, hx, hy, e, fin⟩ := h
  unfold ltT at e
  split at e
  · rename_i c
    obtain rfl := Option.some.inj e
    obtain ⟨c1, c2, c3, c4⟩ := cmp_facts c
    obtain ⟨as, r1⟩ := Dp.reads I _ _ _ (Rep.dp _ _ hx (okd_plain (cmpOk_of c).1)) rx
    obtain ⟨bs, r2⟩ := Dp.reads I _ _ _ (Rep.dp _ _ hy (okd_plain (cmpOk_of c).2.1)) ry
    exact PySem.W.lt_data r1 r2 c1 c2 (room_cmp c hu) ⟨.bl _, H, I, rfl, by rw [c3]; exact fin _ H o Ext.refl (.bl _)⟩
  · cases e
theorem op_gtT (hu : X.A.units + 64 < cLine) : OpT X (compareOp .Gt) gtT := by
  intro pins s σ H x y v u Q I rx ry h
  obtain ⟨M, S, tx, ty, t, o, hx, hy, e, fin⟩ := h
  unfold gtT at e
  split at e
  · rename_i c
    obtain rfl := Option.some.inj e
    obtain ⟨c1, c2, c3, c4⟩ := cmp_facts c
    obtain ⟨as, r1⟩ := Dp.reads I _ _ _ (Rep.dp _ _ hx (okd_plain (cmpOk_of c).1)) rx
    obtain ⟨bs, r2⟩ := Dp.reads I _ _ _ (Rep.dp _ _ hy (okd_plain (cmpOk_of c).2.1)) ry
    exact PySem.W.gt_data r1 r2 c1 c2 (room_cmp c hu) ⟨.bl _, H, I, rfl, by rw [c4]; exact fin _ H o Ext.refl (.bl _)⟩
  · cases e
theorem op_leT (hu : X.A.units + 64 < cLine) : OpT X (compareOp .LtE) leT := by
  intro pins s σ H x y v u Q I rx ry h
  obtain ⟨M, S, tx, ty, t, o, hx, hy, e, fin⟩ := h
  unfold leT at e
  split at e
  · rename_i c
    obtain rfl := Option.some.inj e
    obtain ⟨c1, c2, c3, c4⟩ := cmp_facts c
    obtain ⟨as, r1⟩ := Dp.reads I _ _ _ (Rep.dp _ _ hx (okd_plain (cmpOk_of c).1)) rx
    obtain ⟨bs, r2⟩ := Dp.reads I _ _ _ (Rep.dp _ _ hy (okd_plain (cmpOk_of c).2.1)) ry
    exact PySem.W.le_data r1 r2 c1 c2 (room_cmp c hu) ⟨.bl _, H, I, rfl, by rw [c4]; exact fin _ H o Ext.refl (.bl _)⟩
  · cases e
theorem op_geT (hu : X.A.units + 64 < cLine) : OpT X (compareOp .GtE) geT := by
  intro pins s σ H x y v u Q I rx ry h
  obtain ⟨M, S, tx, ty, t, o, hx, hy, e, fin⟩ := h
  unfold geT at e
  split at e
  · rename_i c
    obtain rfl := Option.some.inj e
    obtain ⟨c1, c2, c3, c4⟩ := cmp_facts c
    obtain ⟨as, r1⟩ := Dp.reads I _ _ _ (Rep.dp _ _ hx (okd_plain (cmpOk_of c).1)) rx
    obtain ⟨bs, r2⟩ := Dp.reads I _ _ _ (Rep.dp _ _ hy (okd_plain (cmpOk_of c).2.1)) ry
    exact PySem.W.ge_data r1 r2 c1 c2 (room_cmp c hu) ⟨.bl _, H, I, rfl, by rw [c3]; exact fin _ H o Ext.refl (.bl _)⟩
  · cases e
/-! ### in, not in -/
def inQ (S : Sto) (x y : T) : Option Bool := match res S y with
  | .lst ts => if (okd x && okd (.lst ts)) = true then some (ts.any fun z => eqt z x) else none
  | .tup ts => if (okd x && okd (.tup ts)) = true then some (ts.any fun z => eqt z x) else none
  | .str z => match x with
    | .str [c] => some (decide (c ∈ z))
    | _ => none
  | _ => none
def inT (S : Sto) (x y : T) : Option T := (inQ S x y).map .bl
def ninT (S : Sto) (x y : T) : Option T := (inQ S x y).map fun b => .bl (!b)
theorem any_dats (x : T) : ∀ ts : List T, plains ts = true → plain x = true → ((dats ts).any fun y => PyData.eqv y (dat x)) = ts.any fun z => eqt z x
  | [], _, _ => rfl
  | t :: ts, h, hx => by
    simp only [plains, Bool.and_eq_true] at h
    simp only [dats, List.any_cons]
    rw [eqt_dat t x h.1 hx, any_dats x ts h.2 hx]
theorem in_listQ (hu : X.A.units + 65 < cLine) {pins : List (Addr × Obj)} {s : Shared} {σ : L2.St} {H : Hp} {x y : V} {v u : Value} {dx : PyData} {ds : List PyData} {b : Bool} (I : Inv X pins σ H s) (rx : RelV x v) (ry : RelV y u) (hx : Dp X.K H x dx) (hy : Dp X.K H y (.list ds) ∨ Dp X.K H y (.tuple ds))
    (h1 : PyData.canLayAll0 ds = true) (h2 : SeqAt.shaped dx = true) (e : (ds.any fun y => PyData.eqv y dx) = b) {E : Value → Shared → Prop} {Q : Value → Shared → Prop} :
    (Q (.bool b) s → wpAny (model X.prog X.w) X.A (compareOp .In v u) Q E s) ∧ (Q (.bool (!b)) s → wpAny (model X.prog X.w) X.A (compareOp .NotIn v u) Q E s) := by
  obtain ⟨as, r1⟩ := Dp.reads I _ _ _ hx rx
  have rm : X.A.units + 1 + min (PyData.depthAll ds) dx.depth < cLine := PyProof.Rows.room_in_shaped h2 hu
  have l2 := SeqAt.canLay_of_shaped h2
  rcases hy with hy | hy
  · obtain ⟨bs, r2⟩ := Dp.reads I _ _ _ hy ry
    exact ⟨fun q => SeqAt.in_list_reads r2 r1 h1 l2 rm (by rw [e]; exact q), fun q => SeqAt.notIn_list_reads r2 r1 h1 l2 rm (by rw [e]; exact q)⟩
  · obtain ⟨bs, r2⟩ := Dp.reads I _ _ _ hy ry
    exact ⟨fun q => SeqAt.in_tuple_reads r2 r1 h1 l2 rm (by rw [e]; exact q), fun q => SeqAt.notIn_tuple_reads r2 r1 h1 l2 rm (by rw [e]; exact q)⟩
theorem sg_mem (c : Sg) (z : List Sg) : decide (c.val ∈ (txt z).cps.toList) = decide (c ∈ z) := by
  apply decide_eq_decide.mpr
  rw [txt_list]
  constructor
  · intro h
    obtain ⟨d, hd, e⟩ := List.mem_map.mp h
    rw [← Fin.ext e]
    exact hd
  · exact fun h => List.mem_map.mpr ⟨c, h, rfl⟩
theorem inQ_run (hu : X.A.units + 65 < cLine) {pins : List (Addr × Obj)} {s : Shared} {σ : L2.St} {H : Hp} {S : Sto} {M : Addr → Prop} {x y : V} {tx ty : T} {v u : Value} {b : Bool} (I : Inv X pins σ H s) (rx : RelV x v) (ry : RelV y u) (o : StoOk (gdOf X M) H S)
    (hx : Rep (gdOf X M) H S tx x) (hy : Rep (gdOf X M) H S ty y) (e : inQ S tx ty = some b) {Q : VK} :
    (Q (.bl b) H → wpAny (model X.prog X.w) X.A (compareOp .In v u) (EP X pins σ Q) X.xe s) ∧ (Q (.bl (!b)) H → wpAny (model X.prog X.w) X.A (compareOp .NotIn v u) (EP X pins σ Q) X.xe s) := by
  have ep : ∀ {b : Bool}, Q (.bl b) H → EP X pins σ Q (.bool b) s := fun q => ⟨.bl _, H, I, rfl, q⟩
  have hr := res_dp o hy
  unfold inQ at e
  split at e
  · rename_i ts hts
    rw [hts] at hr
    split at e
    · rename_i c
      obtain ⟨c1, c2⟩ := Bool.and_eq_true_iff.mp c
      obtain rfl := Option.some.inj e
      have k := in_listQ (Q := EP X pins σ Q) (E := X.xe) hu I rx ry (Rep.dp _ _ hx (okd_plain c1)) (.inl (hr (okd_plain c2))) (lays_dat ts (okd_plain c2)) (okd_shaped c1) (any_dats tx ts (okd_plain c2) (okd_plain c1))
      exact ⟨fun q => k.1 (ep q), fun q => k.2 (ep q)⟩
    · cases e
  · rename_i ts hts
    rw [hts] at hr
    split at e
    · rename_i c
      obtain ⟨c1, c2⟩ := Bool.and_eq_true_iff.mp c
      obtain rfl := Option.some.inj e
      have k := in_listQ (Q := EP X pins σ Q) (E := X.xe) hu I rx ry (Rep.dp _ _ hx (okd_plain c1)) (.inr (hr (okd_plain c2))) (lays_dat ts (okd_plain c2)) (okd_shaped c1) (any_dats tx ts (okd_plain c2) (okd_plain c1))
      exact ⟨fun q => k.1 (ep q), fun q => k.2 (ep q)⟩
    · cases e
  · rename_i z hz
    split at e
    · rename_i c
      obtain rfl := Option.some.inj e
      cases hx
      have hty : ty = .str z := by
        cases ty with
        | ref a =>
          cases q : S a with
          | none => simp [res, q] at hz
          | some c => cases c <;> simp [res, q] at hz
        | _ => exact hz
      subst hty
      cases hy
      rw [← sg_mem]
      exact ⟨fun q => op_in_sign pins s σ H _ _ v u Q I rx ry ⟨c.val, txt z, rfl, rfl, q⟩, fun q => op_notIn_sign pins s σ H _ _ v u Q I rx ry ⟨c.val, txt z, rfl, rfl, q⟩⟩
    · cases e
  · cases e
theorem op_inT (hu : X.A.units + 65 < cLine) : OpT X (compareOp .In) inT := by
  intro pins s σ H x y v u Q I rx ry h
  obtain ⟨M, S, tx, ty, t, o, hx, hy, e, fin⟩ := h
  obtain ⟨b, hb, rfl⟩ := Option.map_eq_some_iff.mp e
  exact (inQ_run hu I rx ry o hx hy hb).1 (fin _ H o Ext.refl (.bl _))
theorem op_ninT (hu : X.A.units + 65 < cLine) : OpT X (compareOp .NotIn) ninT := by
  intro pins s σ H x y v u Q I rx ry h
  obtain ⟨M, S, tx, ty, t, o, hx, hy, e, fin⟩ := h
  obtain ⟨b, hb, rfl⟩ := Option.map_eq_some_iff.mp e
  exact (inQ_run hu I rx ry o hx hy hb).2 (fin _ H o Ext.refl (.bl _))
end
end TL

/-! TLg: numbers, texts, sequences: joined, by places, cut; lists that change. -/
namespace TL
open PySem PySem.Spec PyProof.Rows L2

section
variable {X : Cx}
/-! ### numbers and joins -/
def addT (S : Sto) (x y : T) : Option T := match res S x, res S y with
  | .int i, .int j => some (.int (i + j))
  | .str a, .str b => if a.length + b.length ≤ sizeLine then some (.str (a ++ b)) else none
  | .tup a, .tup b => if a.length + b.length ≤ sizeLine then some (.tup (a ++ b)) else none
  | .lst a, .lst b => if a.length + b.length ≤ sizeLine then some (.lst (a ++ b)) else none
  | _, _ => none
/-- a value that is a list, frozen or a cell -/
theorem res_lst {G : Gd} {H : Hp} {S : Sto} {t : T} {v : V} {ts : List T} (o : StoOk G H S) (r : Rep G H S t v) (e : res S t = .lst ts) : ∃ a xs, v = .ref a ∧ H a = some (.lst xs) ∧ Reps G H S ts xs := by
  cases t with
  | ref a =>
    cases r
    cases q : S a with
    | none => simp [res, q] at e
    | some c =>
      cases c with
      | lst us =>
        simp only [res, q] at e
        cases e
        obtain ⟨xs, h1, h2⟩ := o.at_ a _ q
        exact ⟨a, xs, rfl, h1, h2⟩
      | dct _ _ _ => simp [res, q] at e
      | ins _ _ _ => simp [res, q] at e
  | lst us =>
    cases e
    cases r with
    | lst h1 h2 => exact ⟨_, _, rfl, h1.1, h2⟩
  | _ => cases e
theorem res_id {S : Sto} {t u : T} (e : res S t = u) (h : ∀ ts, u ≠ .lst ts) : t = u := by
  cases t with
  | ref a =>
    cases q : S a with
    | none => simpa [res, q] using e
    | some c =>
      cases c with
      | lst us => simp only [res, q] at e; exact absurd e.symm (h us)
      | dct _ _ _ => simpa [res, q] using e
      | ins _ _ _ => simpa [res, q] using e
  | _ => exact e
theorem op_addT : OpT X (binaryOp .Add) addT := by
  intro pins s σ H x y v u Q I rx ry h
  obtain ⟨M, S, tx, ty, t, o, hx, hy, e, fin⟩ := h
  unfold addT at e
  split at e
  · rename_i i j h1 h2
    obtain rfl := res_id h1 fun _ z => nomatch z
    obtain rfl := res_id h2 fun _ z => nomatch z
    obtain rfl := Option.some.inj e
    cases hx
    cases hy
    exact op_add pins s σ H _ _ v u Q I rx ry ⟨i, j, rfl, rfl, fin _ H o Ext.refl (.int _)⟩
  · rename_i a b h1 h2
    obtain rfl := res_id h1 fun _ z => nomatch z
    obtain rfl := res_id h2 fun _ z => nomatch z
    split at e
    · rename_i hz
      obtain rfl := Option.some.inj e
      cases hx
      cases hy
      refine op_add_str pins s σ H _ _ v u Q I rx ry ⟨txt a, txt b, rfl, rfl, by rw [txt_len, txt_len]; exact hz, ?_⟩
      rw [← txt_app]
      exact fin _ H o Ext.refl (.str _)
    · cases e
  · rename_i a b h1 h2
    obtain rfl := res_id h1 fun _ z => nomatch z
    obtain rfl := res_id h2 fun _ z => nomatch z
    split at e
    · rename_i hz
      obtain rfl := Option.some.inj e
      cases hx with
      | tup a1 a2 =>
        cases hy with
        | tup b1 b2 =>
          have l1 := a2.length
          have l2 := b2.length
          refine op_catA pins s σ H _ _ v u Q I rx ry ⟨_, _, _, _, rfl, rfl, a1.sq, b1.sq, by omega, fun z => ?_, fun _ z => ?_, fun _ _ p n => ?_⟩
          · subst z
            cases a2
            exact fin _ H o Ext.refl (.tup b1 b2)
          · subst z
            cases b2
            refine fin _ H o Ext.refl ?_
            rw [List.append_nil]
            exact .tup a1 a2
          · exact fin _ _ (o.new n) (Ext.new n) (.tup (.inl ⟨.inl upd_same, o.free n, o.nom n⟩) (Reps.ext (Ext.new n) _ _ (a2.append b2)))
    · cases e
  · rename_i a b h1 h2
    split at e
    · rename_i hz
      obtain rfl := Option.some.inj e
      obtain ⟨p1, xs, rfl, q1, r1⟩ := res_lst o hx h1
      obtain ⟨p2, ys, rfl, q2, r2⟩ := res_lst o hy h2
      have l1 := r1.length
      have l2 := r2.length
      refine op_cat pins s σ H _ _ v u Q I rx ry ⟨p1, p2, xs, ys, rfl, rfl, q1, q2, by omega, fun p n => ?_⟩
      exact fin _ _ (o.new n) (Ext.new n) (.lst ⟨upd_same, o.free n, o.nom n⟩ (Reps.ext (Ext.new n) _ _ (r1.append r2)))
    · cases e
  · cases e
def i2 (c : Int → Int → Bool) (f : Int → Int → T) (_ : Sto) (x y : T) : Option T := match x, y with
  | .int i, .int j => if c i j = true then some (f i j) else none
  | _, _ => none
theorem op_i2 {f : Value → Value → Sem Value} {c : Int → Int → Bool} {C : Int → Int → Prop} {g : Int → Int → V} {gt : Int → Int → T} (h : OpR X f (rI C g)) (hc : ∀ i j, c i j = true → C i j) (hg : ∀ G H S i j, Rep G H S (gt i j) (g i j)) : OpT X f (i2 c gt) := by
  intro pins s σ H x y v u Q I rx ry h'
  obtain ⟨M, S, tx, ty, t, o, hx, hy, e, fin⟩ := h'
  unfold i2 at e
  split at e
  · rename_i i j
    split at e
    · rename_i hij
      obtain rfl := Option.some.inj e
      cases hx
      cases hy
      exact h pins s σ H _ _ v u Q I rx ry ⟨i, j, rfl, rfl, hc _ _ hij, fin _ H o Ext.refl (hg _ _ _ _ _)⟩
    · cases e
  · cases e
theorem rI_of {f : Value → Value → Sem Value} {g : Int → Int → V} (h : OpR X f (rI0 g)) : OpR X f (rI (fun _ _ => True) g) := fun pins s σ H x y v u Q I rx ry ⟨i, j, e1, e2, _, q⟩ => h pins s σ H x y v u Q I rx ry ⟨i, j, e1, e2, q⟩
def tt2 (_ _ : Int) : Bool := true
def subT := i2 tt2 fun i j => .int (i - j)
def mulI (i j : Int) : Bool := decide (i.natAbs.log2 + j.natAbs.log2 < 1000000)
def mulT := i2 mulI fun i j => .int (i * j)
def divI (_ j : Int) : Bool := decide (j ≠ 0) && decide (j.natAbs < 1073741824)
def fdivT := i2 divI fun i j => .int (i.fdiv j)
def modI (_ j : Int) : Bool := decide (j ≠ 0)
def modT := i2 modI fun i j => .int (i.fmod j)
def powI (i j : Int) : Bool := decide (0 ≤ j) && (decide (j ≤ 1000000) && decide (i.natAbs < 2 ^ 64))
def powT := i2 powI fun i j => .int (i ^ j.toNat)
theorem op_subT : OpT X (binaryOp .Sub) subT := op_i2 (rI_of op_sub) (fun _ _ _ => trivial) fun _ _ _ _ _ => .int _
theorem op_mulT : OpT X (binaryOp .Mult) mulT := op_i2 op_mulW (fun _ _ h => by unfold CMulW; exact of_decide_eq_true h) fun _ _ _ _ _ => .int _
theorem op_fdivT : OpT X (binaryOp .FloorDiv) fdivT := op_i2 op_fdivN (fun _ _ h => by simp only [divI, Bool.and_eq_true, decide_eq_true_eq] at h; exact h) fun _ _ _ _ _ => .int _
theorem op_modT : OpT X (binaryOp .Mod) modT := op_i2 op_modN (fun _ _ h => of_decide_eq_true h) fun _ _ _ _ _ => .int _
theorem op_powT : OpT X (binaryOp .Pow) powT := op_i2 op_pow (fun _ _ h => by simp only [powI, Bool.and_eq_true, decide_eq_true_eq] at h; exact ⟨h.1, h.2.1, h.2.2⟩) fun _ _ _ _ _ => .int _
def negT (_ : Sto) : T → Option T
  | .int i => some (.int (-i))
  | _ => none
theorem op_negT : UnT X (unaryOp .USub) negT := by
  intro pins s σ H x v Q I rx h
  obtain ⟨M, S, tx, t, o, hx, e, fin⟩ := h
  cases tx <;> first | cases e; done | skip
  rename_i i
  obtain rfl := Option.some.inj e
  cases hx
  exact un_neg pins s σ H _ v Q I rx ⟨i, rfl, fin _ H o Ext.refl (.int _)⟩
/-! ### is None, is True -/
def isT (_ : Sto) (x y : T) : Option T := match y, x with
  | .non, .ref _ => some (.bl false)
  | .non, .non => some (.bl true)
  | .non, _ => some (.bl false)
  | _, _ => none
theorem rep_non {G : Gd} {H : Hp} {S : Sto} {t : T} {v : V} (r : Rep G H S t v) : decide (v = .non) = (match t with | .non => true | _ => false) := by
  cases r <;> first | rfl | exact decide_eq_false (fun z => nomatch z)
theorem op_isT : OpT X (compareOp .Is) isT := by
  intro pins s σ H x y v u Q I rx ry h
  obtain ⟨M, S, tx, ty, t, o, hx, hy, e, fin⟩ := h
  cases ty <;> first | (simp [isT] at e; done) | skip
  cases hy
  refine op_isN pins s σ H _ _ v u Q I rx ry ⟨rfl, ?_⟩
  rw [rep_non hx]
  cases tx <;> (obtain rfl := Option.some.inj e; exact fin _ H o Ext.refl (.bl _))
def isnT (S : Sto) (x y : T) : Option T := match isT S x y with
  | some (.bl b) => some (.bl (!b))
  | _ => none
theorem op_isnT : OpT X (compareOp .IsNot) isnT := by
  intro pins s σ H x y v u Q I rx ry h
  obtain ⟨M, S, tx, ty, t, o, hx, hy, e, fin⟩ := h
  cases ty <;> first | (simp [isnT, isT] at e; done) | skip
  cases hy
  refine op_notN pins s σ H _ _ v u Q I rx ry ⟨rfl, ?_⟩
  rw [rep_non hx]
  cases tx <;> (obtain rfl := Option.some.inj e; exact fin _ H o Ext.refl (.bl _))

/-! ### by places -/
theorem Reps.atI {G : Gd} {H : Hp} {S : Sto} {ts : List T} {vs : List V} {i : Int} {t : T} (r : Reps G H S ts vs) (e : L2.atI ts i = some t) : ∃ v, L2.atI vs i = some v ∧ Rep G H S t v := by
  unfold L2.atI at e ⊢
  rw [← r.length]
  cases q : ixN ts.length i with
  | none => rw [q] at e; cases e
  | some j =>
    rw [q] at e
    exact r.get e
def ixT (S : Sto) (x y : T) : Option T := match res S x, y with
  | .lst ts, .int i => L2.atI ts i
  | .tup ts, .int i => L2.atI ts i
  | .str z, .int i => if z.length ≤ sizeLine then (L2.atI z i).map fun c => .str [c] else none
  | _, _ => none
theorem atI_map {α β : Type} (f : α → β) (xs : List α) (i : Int) : L2.atI (xs.map f) i = (L2.atI xs i).map f := by
  unfold L2.atI
  rw [List.length_map]
  cases ixN xs.length i with
  | none => rfl
  | some j => simp
variable {a b : Expr} {ta tb : TTE} {pos : Pos}
theorem te_ix (ha : TE X a ta) (hb : TE X b tb) (hs : PlainIx b := by intro _ _; rfl) : TE X (.Subscript a b pos) (cOp ixT ta tb) := fun M S0 H0 E tk =>
  (pe_ix ix_seq (ha M S0 H0 E tk) (hb M S0 H0 E tk) hs).weak fun σ H Q h => two (fun x y H Q ⟨M, S, tx, ty, t, o, hx, hy, e, fin⟩ => by
    unfold ixT at e
    split at e
    · rename_i ts i h1
      obtain ⟨p, xs, rfl, q1, r1⟩ := res_lst o hx h1
      cases hy
      obtain ⟨w, hw, rw_⟩ := r1.atI e
      exact .inl ⟨p, xs, i, w, rfl, rfl, SqL.of q1, hw, fin _ H o Ext.refl rw_⟩
    · rename_i ts i h1
      obtain rfl := res_id h1 fun _ z => nomatch z
      cases hx with
      | tup a1 a2 =>
        cases hy
        obtain ⟨w, hw, rw_⟩ := a2.atI e
        exact .inr (.inl ⟨_, _, i, w, rfl, rfl, a1.sq, hw, fin _ H o Ext.refl rw_⟩)
    · rename_i z i h1
      obtain rfl := res_id h1 fun _ z => nomatch z
      cases hx
      cases hy
      split at e
      · rename_i hz
        obtain ⟨c, hc, rfl⟩ := Option.map_eq_some_iff.mp e
        exact .inr (.inr ⟨txt z, i, c.val, rfl, rfl, by rw [txt_len]; exact hz, by rw [txt_list, atI_map, hc]; rfl, fin (.str (txt [c])) H o Ext.refl (.str [c])⟩)
      · cases e
    · cases e) h
/-! ### cut -/
def cutT {α : Type} (xs : List α) (lo hi : Option Int) : List α := (xs.drop (HT.sIx xs.length 0 lo)).take (HT.sIx xs.length xs.length hi - HT.sIx xs.length 0 lo)
theorem Reps.cut {G : Gd} {H : Hp} {S : Sto} {ts : List T} {vs : List V} (r : Reps G H S ts vs) (lo hi : Option Int) : Reps G H S (cutT ts lo hi) (cutV vs lo hi) := by
  unfold cutT cutV
  rw [r.length]
  exact (r.drop _).take _
theorem reps_ints {G : Gd} {H : Hp} {S : Sto} : ∀ ms : List Int, Reps G H S (ms.map T.int) (ms.map V.int)
  | [] => .nil
  | m :: ms => .cons (.int m) (reps_ints ms)
def slT (S : Sto) (x : T) (lo hi : Option Int) : Option T := match res S x with
  | .lst ts => some (.lst (cutT ts lo hi))
  | .tup ts => some (.tup (cutT ts lo hi))
  | .str z => if z.length ≤ sizeLine then some (.str (cutT z lo hi)) else none
  | .scr ns => some (.lst ((cutT ns lo hi).map T.int))
  | _ => none
abbrev TTO := TEnv → Sto → (Option Int → Sto → Prop) → (T → Sto → Prop) → Prop
def oNo : TTO := fun _ S Q _ => Q none S
def oSome (e : TTE) : TTO := fun τ S Q E => e τ S (fun x S1 => ∃ i, x = .int i ∧ Q (some i) S1) E
def cSl (e : TTE) (lo hi : TTO) : TTE := fun τ S Q E => e τ S (fun x S1 => lo τ S1 (fun l S2 => hi τ S2 (fun u S3 => ∃ z, slT S3 x l u = some z ∧ Q z S3) E) E) E
def LO (X : Cx) (M : Addr → Prop) (S0 : Sto) (H0 : Hp) (t : TTO) (E : T → TEnv → Sto → Prop) : TO := fun σ H Q => ∃ τ S Qt, Rel (gdOf X M) S0 H0 σ H τ S ∧ t τ S Qt (fun x S' => E x τ S') ∧
  ∀ i S' H', Qt i S' → StoOk (gdOf X M) H' S' → Ext S H S' H' → Q i H'
def TOp (X : Cx) (e : Option Expr) (t : TTO) : Prop := ∀ M S0 H0 E, Takes X (wOf X M S0 H0 E) → PO X e (LO X M S0 H0 t E)
theorem to_no : TOp X none oNo := fun M S0 H0 E tk => ⟨fun pins s σ H Q I ⟨τ, S, Qt, rel, h, k⟩ => po_none.run pins s σ H Q I (k none S H h rel.sto Ext.refl)⟩
theorem to_some {e : Expr} {te : TTE} (h : TE X e te) : TOp X (some e) (oSome te) := fun M S0 H0 E tk => ⟨fun pins s σ H Q I ⟨τ, S, Qt, rel, q, k⟩ => (po_some (h M S0 H0 E tk)).run pins s σ H Q I
  ⟨τ, S, _, rel, q, fun z S1 v H1 ⟨i, e, hq⟩ o1 x1 r1 => by
    subst e
    cases r1
    exact ⟨i, rfl, k _ S1 H1 hq o1 x1⟩⟩⟩
theorem txt_cut (z : List Sg) (lo hi : Option Int) : cutS (txt z) lo hi = txt (cutT z lo hi) := by
  unfold cutS cutT txt
  show (⟨_⟩ : Str) = _
  congr 1
  have l : (Str.mk (z.map (·.val)).toArray).length = z.length := txt_len z
  rw [l]
  simp [List.map_drop, List.map_take]
theorem te_slice {e : Expr} {lo hi : Option Expr} {te : TTE} {tl th : TTO} {p2 : Pos} (he : TE X e te) (hl : TOp X lo tl) (hh : TOp X hi th) : TE X (.Subscript e (.Slice lo hi none p2) pos) (cSl te tl th) := fun M S0 H0 E tk =>
  (pe_slice (sl_list.or (sl_tupA.or sl_str)) (he M S0 H0 E tk) (hl M S0 H0 E tk) (hh M S0 H0 E tk)).weak fun σ H Q ⟨τ, S, Qt, rel, h, k⟩ => ⟨τ, S, _, rel, h, fun z S1 v H1 h1 o1 x1 r1 =>
    ⟨τ, S1, _, rel.step o1 x1, h1, fun l S2 H2 h2 o2 x2 => ⟨τ, S2, _, (rel.step o1 x1).step o2 x2, h2, fun u S3 H3 h3 o3 x3 => by
      obtain ⟨w, e, hq⟩ := h3
      have r3 := Rep.ext (x2.trans x3) _ _ r1
      have fin := fun v H' o4 x4 r4 => k w S3 v H' hq o4 (((x1.trans x2).trans x3).trans x4) r4
      unfold slT at e
      split at e
      · rename_i ts h1
        obtain rfl := Option.some.inj e
        obtain ⟨p, xs, rfl, q1, r1⟩ := res_lst o3 r3 h1
        exact .inl ⟨p, xs, rfl, SqL.of q1, fun p n => fin _ _ (o3.new n) (Ext.new n) (.lst ⟨upd_same, o3.free n, o3.nom n⟩ (Reps.ext (Ext.new n) _ _ (r1.cut l u)))⟩
      · rename_i ts h1
        obtain rfl := Option.some.inj e
        obtain rfl := res_id h1 fun _ z => nomatch z
        cases r3 with
        | tup a1 a2 =>
          refine .inr (.inl ⟨_, _, rfl, a1.sq, fun hw => ?_, fun _ p n => ?_⟩)
          · refine fin _ _ o3 Ext.refl ?_
            have e2 : cutT ts l u = ts := by
              unfold cutT
              rw [a2.length, hw.1, hw.2]
              simp [← a2.length]
            rw [e2]
            exact .tup a1 a2
          · exact fin _ _ (o3.new n) (Ext.new n) (.tup (.inl ⟨.inl upd_same, o3.free n, o3.nom n⟩) (Reps.ext (Ext.new n) _ _ (a2.cut l u)))
      · rename_i y h1
        obtain rfl := res_id h1 fun _ z => nomatch z
        split at e
        · rename_i hz
          obtain rfl := Option.some.inj e
          cases r3
          exact .inr (.inr ⟨txt y, rfl, by rw [txt_len]; exact hz, by rw [txt_cut]; exact fin _ _ o3 Ext.refl (.str _)⟩)
        · cases e
      · rename_i ns h1
        obtain rfl := res_id h1 fun _ z => nomatch z
        obtain rfl := Option.some.inj e
        cases r3 with
        | scr a1 =>
          refine .inl ⟨_, _, rfl, a1.sq, fun p n => fin _ _ (o3.new n) (Ext.new n) (.lst ⟨upd_same, o3.free n, o3.nom n⟩ ?_)⟩
          have : cutV (ns.map V.int) l u = (cutT ns l u).map V.int := by
            unfold cutV cutT
            rw [List.length_map]
            simp [List.map_drop, List.map_take]
          rw [this]
          exact reps_ints _
      · cases e⟩⟩⟩
end
end TL

/-! TLh: built-in functions, methods of lists and texts, over trees. -/
namespace TL
open PySem PySem.Spec PyProof.Rows L2

section
variable {X : Cx} {x : Str} {p pos : Pos} {e : Expr} {es : List Expr} {ta : TTA} {bid Ty : String}
/-! ### built-in functions -/
def CallT (X : Cx) (f : Value) (g : Sto → List T → Option T) : Prop := CallR X f fun xs H Q => ∃ M S ts t, StoOk (gdOf X M) H S ∧ Reps (gdOf X M) H S ts xs ∧ g S ts = some t ∧ ∀ v H', StoOk (gdOf X M) H' S → Ext S H S H' → Rep (gdOf X M) H' S t v → Q v H'
def cFn (g : Sto → List T → Option T) (a : TTA) : TTE := fun τ S Q E => a τ S (fun ts S1 => ∃ t, g S1 ts = some t ∧ Q t S1) E
theorem te_fnB {g : Sto → List T → Option T} (hc : CallT X (.builtin bid) g) (hg : Gl X x) (hm : X.mg x = none) (hv : bootBuiltins x = some (.builtin bid)) (ha : TA X (e :: es) ta) (hn : x ≠ "__name__" := by decide) (hdb : (x == ("__debug__" : Str)) = false := by decide)
    (he : starEach (e :: es) X.env = (false, eval e X.env) :: starEach es X.env := by rfl) (hpl : (backTo pos (starEach es X.env)).any (·.1) = false := by rfl) : TE X (.Call (.Name x p) (e :: es) [] pos) (cFn g ta) := fun M S0 H0 E tk =>
  (pe_callB hc hg hm hv (ha M S0 H0 E tk) hn hdb he hpl).weak fun σ H Q ⟨τ, S, Qt, rel, q, k⟩ => ⟨τ, S, _, rel, q, fun ts S1 vs H1 ⟨t, e, hq⟩ o1 x1 r1 => ⟨M, S1, ts, t, o1, r1, e, fun v H' o2 x2 r2 => k t S1 v H' hq o2 (x1.trans x2) r2⟩⟩
theorem te_fnT {g : Sto → List T → Option T} (hc : CallT X (.type Ty) g) (hg : Gl X x) (hm : X.mg x = none) (hv : bootBuiltins x = some (.type Ty)) (ha : TA X (e :: es) ta) (hn : x ≠ "__name__" := by decide) (hdb : (x == ("__debug__" : Str)) = false := by decide)
    (he : starEach (e :: es) X.env = (false, eval e X.env) :: starEach es X.env := by rfl) (hpl : (backTo pos (starEach es X.env)).any (·.1) = false := by rfl) : TE X (.Call (.Name x p) (e :: es) [] pos) (cFn g ta) := fun M S0 H0 E tk =>
  (pe_callTy hc hg hm hv (ha M S0 H0 E tk) hn hdb he hpl).weak fun σ H Q ⟨τ, S, Qt, rel, q, k⟩ => ⟨τ, S, _, rel, q, fun ts S1 vs H1 ⟨t, e, hq⟩ o1 x1 r1 => ⟨M, S1, ts, t, o1, r1, e, fun v H' o2 x2 r2 => k t S1 v H' hq o2 (x1.trans x2) r2⟩⟩
theorem Reps.one {G : Gd} {H : Hp} {S : Sto} {t : T} {vs : List V} (r : Reps G H S [t] vs) : ∃ v, vs = [v] ∧ Rep G H S t v := by
  cases r with
  | cons a b => cases b; exact ⟨_, rfl, a⟩
theorem Reps.twos {G : Gd} {H : Hp} {S : Sto} {t u : T} {vs : List V} (r : Reps G H S [t, u] vs) : ∃ v w, vs = [v, w] ∧ Rep G H S t v ∧ Rep G H S u w := by
  cases r with
  | cons a b => cases b with
    | cons b c => cases c; exact ⟨_, _, rfl, a, b⟩
def lenF (S : Sto) : List T → Option T
  | [t] => match res S t with
    | .lst ts => some (.int ts.length)
    | .tup ts => some (.int ts.length)
    | .str z => if z.length ≤ sizeLine then some (.int z.length) else none
    | _ => none
  | _ => none
theorem fn_len : CallT X (.builtin "len") lenF := by
  intro pins s σ H xs us Q I r h
  obtain ⟨M, S, ts, t, o, rs, e, fin⟩ := h
  unfold lenF at e
  split at e
  · rename_i y
    obtain ⟨v, rfl, ry⟩ := rs.one
    split at e
    · rename_i zs hz
      obtain rfl := Option.some.inj e
      obtain ⟨a, ws, rfl, h1, h2⟩ := res_lst o ry hz
      exact call_len pins s σ H _ us Q I r ⟨_, _, rfl, .inl ⟨ws, SqL.of h1, rfl⟩, by rw [← h2.length]; exact fin _ H o Ext.refl (.int _)⟩
    · rename_i zs hz
      obtain rfl := Option.some.inj e
      obtain rfl := res_id hz fun _ z => nomatch z
      cases ry with
      | tup h1 h2 => exact call_len pins s σ H _ us Q I r ⟨_, _, rfl, .inr ⟨_, h1.sq, rfl⟩, by rw [← h2.length]; exact fin _ H o Ext.refl (.int _)⟩
    · rename_i z hz
      obtain rfl := res_id hz fun _ z => nomatch z
      split at e
      · rename_i hl
        obtain rfl := Option.some.inj e
        cases ry
        exact call_len pins s σ H _ us Q I r ⟨_, _, rfl, ⟨by rw [txt_len]; exact hl, rfl⟩, by rw [txt_len]; exact fin _ H o Ext.refl (.int _)⟩
      · cases e
    · cases e
  · cases e
def absF (_ : Sto) : List T → Option T
  | [.int i] => some (.int (if i < 0 then -i else i))
  | _ => none
theorem fn_abs : CallT X (.builtin "abs") absF := by
  intro pins s σ H xs us Q I r h
  obtain ⟨M, S, ts, t, o, rs, e, fin⟩ := h
  unfold absF at e
  split at e
  · rename_i i
    obtain rfl := Option.some.inj e
    obtain ⟨v, rfl, ry⟩ := rs.one
    cases ry
    exact call_abs pins s σ H _ us Q I r ⟨i, rfl, fin _ H o Ext.refl (.int _)⟩
  · cases e
def intF (_ : Sto) : List T → Option T
  | [.int i] => some (.int i)
  | [.bl b] => some (.int (if b then 1 else 0))
  | _ => none
theorem fn_int : CallT X (.type "int") intF := by
  intro pins s σ H xs us Q I r h
  obtain ⟨M, S, ts, t, o, rs, e, fin⟩ := h
  unfold intF at e
  split at e
  · rename_i i
    obtain rfl := Option.some.inj e
    obtain ⟨v, rfl, ry⟩ := rs.one
    cases ry
    exact call_int1 pins s σ H _ us Q I r (.inl ⟨i, rfl, fin _ H o Ext.refl (.int _)⟩)
  · rename_i i
    obtain rfl := Option.some.inj e
    obtain ⟨v, rfl, ry⟩ := rs.one
    cases ry
    exact call_int1 pins s σ H _ us Q I r (.inr ⟨i, rfl, fin _ H o Ext.refl (.int _)⟩)
  · cases e
def tupleF (S : Sto) : List T → Option T
  | [t] => match res S t with
    | .lst ts => some (.tup ts)
    | .tup ts => some (.tup ts)
    | _ => none
  | _ => none
theorem fn_tuple : CallT X (.type "tuple") tupleF := by
  intro pins s σ H xs us Q I r h
  obtain ⟨M, S, ts, t, o, rs, e, fin⟩ := h
  unfold tupleF at e
  split at e
  · obtain ⟨v, rfl, ry⟩ := rs.one
    split at e
    · rename_i zs hz
      obtain rfl := Option.some.inj e
      obtain ⟨a, ws, rfl, h1, h2⟩ := res_lst o ry hz
      exact call_tuple_of pins s σ H _ us Q I r ⟨a, ws, rfl, .inl ⟨SqL.of h1, fun l n => fin _ _ (o.new n) (Ext.new n) (.tup (.inl ⟨.inl upd_same, o.free n, o.nom n⟩) (Reps.ext (Ext.new n) _ _ h2))⟩⟩
    · rename_i zs hz
      obtain rfl := Option.some.inj e
      obtain rfl := res_id hz fun _ z => nomatch z
      cases ry with
      | tup h1 h2 => exact call_tuple_of pins s σ H _ us Q I r ⟨_, _, rfl, .inr ⟨h1.sq, fin _ _ o Ext.refl (.tup h1 h2)⟩⟩
    · cases e
  · cases e
def listF (S : Sto) : List T → Option T
  | [t] => match res S t with
    | .lst ts => some (.lst ts)
    | .tup ts => some (.lst ts)
    | _ => none
  | _ => none
theorem fn_list : CallT X (.type "list") listF := by
  intro pins s σ H xs us Q I r h
  obtain ⟨M, S, ts, t, o, rs, e, fin⟩ := h
  unfold listF at e
  split at e
  · obtain ⟨v, rfl, ry⟩ := rs.one
    split at e
    · rename_i zs hz
      obtain rfl := Option.some.inj e
      obtain ⟨a, ws, rfl, h1, h2⟩ := res_lst o ry hz
      exact call_list_of pins s σ H _ us Q I r ⟨a, ws, rfl, .inl (SqL.of h1), fun l n => fin _ _ (o.new n) (Ext.new n) (.lst ⟨upd_same, o.free n, o.nom n⟩ (Reps.ext (Ext.new n) _ _ h2))⟩
    · rename_i zs hz
      obtain rfl := Option.some.inj e
      obtain rfl := res_id hz fun _ z => nomatch z
      cases ry with
      | tup h1 h2 => exact call_list_of pins s σ H _ us Q I r ⟨_, _, rfl, .inr h1.sq, fun l n => fin _ _ (o.new n) (Ext.new n) (.lst ⟨upd_same, o.free n, o.nom n⟩ (Reps.ext (Ext.new n) _ _ h2))⟩
    · cases e
  · cases e
/-- a row of truths -/
def blsOf : List T → Option (List Bool)
  | [] => some []
  | .bl b :: ts => (blsOf ts).map (b :: ·)
  | _ :: _ => none
theorem blsOf_reps {G : Gd} {H : Hp} {S : Sto} : ∀ {ts : List T} {bs : List Bool} {vs : List V}, blsOf ts = some bs → Reps G H S ts vs → vs = bs.map V.bl
  | [], bs, vs, e, r => by
    cases r
    obtain rfl := Option.some.inj e
    rfl
  | t :: ts, bs, vs, e, r => by
    cases r with
    | cons a b =>
      cases t with
      | bl c =>
        obtain ⟨cs, h1, rfl⟩ := Option.map_eq_some_iff.mp (show (blsOf ts).map (c :: ·) = some bs from e)
        cases a
        rw [blsOf_reps h1 b]
        rfl
      | _ => cases e
def allF (S : Sto) : List T → Option T
  | [t] => match res S t with
    | .lst ts => (blsOf ts).map fun bs => .bl (bs.all id)
    | _ => none
  | _ => none
theorem fn_all (hc : X.calm = true) : CallT X (.builtin "all") allF := by
  intro pins s σ H xs us Q I r h
  obtain ⟨M, S, ts, t, o, rs, e, fin⟩ := h
  unfold allF at e
  split at e
  · obtain ⟨v, rfl, ry⟩ := rs.one
    split at e
    · rename_i zs hz
      obtain ⟨bs, hb, rfl⟩ := Option.map_eq_some_iff.mp e
      obtain ⟨a, ws, rfl, h1, h2⟩ := res_lst o ry hz
      have hw := blsOf_reps hb h2
      subst hw
      exact cr_all hc pins s σ H _ us Q I r ⟨a, bs, rfl, SqL.of h1, fin _ _ o Ext.refl (.bl _)⟩
    · cases e
  · cases e
def max2F (_ : Sto) : List T → Option T
  | [.int i, .int j] => some (.int (if j > i then j else i))
  | _ => none
def min2F (_ : Sto) : List T → Option T
  | [.int i, .int j] => some (.int (if j < i then j else i))
  | _ => none
theorem fn_max2 (hc : X.calm = true) : CallT X (.builtin "max") max2F := by
  intro pins s σ H xs us Q I r h
  obtain ⟨M, S, ts, t, o, rs, e, fin⟩ := h
  unfold max2F at e
  split at e
  · rename_i i j
    obtain rfl := Option.some.inj e
    obtain ⟨v, w, rfl, r1, r2⟩ := rs.twos
    cases r1
    cases r2
    exact call_max2 hc pins s σ H _ us Q I r ⟨i, j, rfl, fin _ _ o Ext.refl (.int _)⟩
  · cases e
theorem fn_min2 (hc : X.calm = true) : CallT X (.builtin "min") min2F := by
  intro pins s σ H xs us Q I r h
  obtain ⟨M, S, ts, t, o, rs, e, fin⟩ := h
  unfold min2F at e
  split at e
  · rename_i i j
    obtain rfl := Option.some.inj e
    obtain ⟨v, w, rfl, r1, r2⟩ := rs.twos
    cases r1
    cases r2
    exact call_min2 hc pins s σ H _ us Q I r ⟨i, j, rfl, fin _ _ o Ext.refl (.int _)⟩
  · cases e

/-! ### sorted -/
def leT' (x y : T) : Bool := !ltt y x
/-- all alike, and of tuples with something in them, or of none -/
def sortOk (ts : List T) : Bool := ts.all (fun x => okd x && ts.all fun y => alk x y) && (ts.all (fun x => match x with | .tup (_ :: _) => true | _ => false) || ts.all fun x => match x with | .tup _ => false | .non => false | _ => true)
theorem dats_map : ∀ ts : List T, dats ts = ts.map dat
  | [] => rfl
  | t :: ts => by rw [dats, dats_map ts]; rfl
theorem sortOk_of {ts : List T} (h : sortOk ts = true) : (∀ x ∈ ts, okd x = true) ∧ PySem.W.AllAlike (ts.map dat) ∧ PySem.W.Sortable (ts.map dat) ∧ ∀ x ∈ ts, ∀ y ∈ ts, PySem.W.dataLt (dat x) (dat y) = ltt x y := by
  simp only [sortOk, Bool.and_eq_true, Bool.or_eq_true, List.all_eq_true] at h
  obtain ⟨h1, h2⟩ := h
  have ok : ∀ x ∈ ts, okd x = true := fun x hx => (h1 x hx).1
  have al : ∀ x ∈ ts, ∀ y ∈ ts, alk x y = true := fun x hx y hy => (h1 x hx).2 y hy
  refine ⟨ok, fun d hd d' hd' => ?_, ?_, fun x hx y hy => ?_⟩
  · obtain ⟨x, hx, rfl⟩ := List.mem_map.mp hd
    obtain ⟨y, hy, rfl⟩ := List.mem_map.mp hd'
    rw [alk_dat x y (okd_plain (ok x hx)) (okd_plain (ok y hy))]
    exact al x hx y hy
  · rcases h2 with h2 | h2
    · refine .inl fun d hd => ?_
      obtain ⟨x, hx, rfl⟩ := List.mem_map.mp hd
      have := h2 x hx
      cases x with
      | tup l =>
        cases l with
        | nil => cases this
        | cons a b => exact ⟨_, _, rfl⟩
      | _ => cases this
    · refine .inr fun d hd => ?_
      obtain ⟨x, hx, rfl⟩ := List.mem_map.mp hd
      have := h2 x hx
      have pl := okd_plain (ok x hx)
      cases x <;> first | (cases this; done) | (cases pl; done) | exact ⟨(fun z => nomatch z), fun _ z => nomatch z⟩
  · by_cases hn : x = .non
    · subst hn
      have hyn := al _ hx y hy
      have hxx := h2
      cases y <;> first | (simp [alk] at hyn; done) | skip
      rcases h2 with h2 | h2
      · exact absurd (h2 _ hx) (by simp)
      · exact absurd (h2 _ hx) (by simp)
    · exact ltt_dat x y (okd_plain (ok x hx)) (okd_plain (ok y hy)) (al x hx y hy) hn
def sortedF (S : Sto) : List T → Option T
  | [t] => match res S t with
    | .lst ts => if (sortOk ts && decide (ts.length ≤ sizeLine)) = true then some (.lst (ts.mergeSort leT')) else none
    | .tup ts => if (sortOk ts && decide (ts.length ≤ sizeLine)) = true then some (.lst (ts.mergeSort leT')) else none
    | _ => none
  | _ => none
end
end TL

/-! TLi: sorted over trees, of whatever is collected; lists and tuples. -/
namespace TL
open PySem PySem.Spec PyProof.Rows L2

/-- values that lie as trees -/
abbrev VT (G : Gd) (H : Hp) (S : Sto) (u : Value) (t : T) : Prop := ∃ v, RelV v u ∧ Rep G H S t v
theorem eachVT {G : Gd} {H : Hp} {S : Sto} : ∀ {ts : List T} {vs : List V} {us : List Value}, Reps G H S ts vs → Vals vs us → PySem.W.EachIs (VT G H S) us ts
  | [], _, _, r, q => by cases r; cases q; exact .nil
  | _ :: _, _, _, r, q => by
    cases r with
    | cons a b => cases q with
      | cons c d => exact .cons ⟨_, c, a⟩ (eachVT b d)
theorem ofVT {G : Gd} {H : Hp} {S : Sto} : ∀ {ts : List T} {us : List Value}, PySem.W.EachIs (VT G H S) us ts → ∃ vs, Reps G H S ts vs ∧ Vals vs us
  | [], _, r => by cases r; exact ⟨[], .nil, .nil⟩
  | _ :: _, _, r => by
    cases r with
    | cons a b =>
      obtain ⟨v, h1, h2⟩ := a
      obtain ⟨vs, h3, h4⟩ := ofVT b
      exact ⟨v :: vs, .cons h2 h3, .cons h1 h4⟩
theorem mergeSort_leT (ts : List T) (h : ∀ x ∈ ts, ∀ y ∈ ts, PySem.W.dataLt (dat x) (dat y) = ltt x y) : ts.mergeSort (PySem.W.dataLe false dat) = ts.mergeSort leT' :=
  PySem.W.sort_congr fun a ha b hb => by
    rw [PySem.W.dataLe_eq]
    show (!PySem.W.dataLt (dat b) (dat a)) = !ltt b a
    rw [h b hb a ha]
section
variable {X : Cx} {pins : List (Addr × Obj)} {s : Shared} {σ : L2.St} {H : Hp} {S : Sto} {M : Addr → Prop} {Q : VK}
/-- sorted(src), src anything that is collected into trees -/
theorem sorted_via (hu : X.A.units + 70 < cLine) {src : Value} {Pt : List T → Prop} (o : StoOk (gdOf X M) H S)
    (hcol : ∀ (A : Around) (E : Value → Shared → Prop) (R : List Value → Shared → Prop), A.handled = X.A.handled → (∀ out s1 ts, Inv X pins σ H s1 → PySem.W.EachIs (VT (gdOf X M) H S) out ts → Pt ts → R out s1) → wpAny (model X.prog X.w) A (collect src) R E s)
    (ok : ∀ ts, Pt ts → sortOk ts = true ∧ ts.length ≤ sizeLine)
    (fin : ∀ ts v H', Pt ts → StoOk (gdOf X M) H' S → Ext S H S H' → Rep (gdOf X M) H' S (.lst (ts.mergeSort leT')) v → (∀ p, v = .ref p → H p = none ∧ ∃ xs, H' = upd H p (.lst xs)) → Q v H') :
    wpAny (model X.prog X.w) X.A (call (.builtin "sorted") [src]) (EP X pins σ Q) X.xe s := by
  refine call_function_entry_kw kind_sorted plain_sorted entry_sorted (args_sorted1 _) ?_
  unfold Builtin.«sorted»
  refine wpAny_bind (m := checkCount "sorted" 1 1 _) (wpAny_pure ?_)
  refine wpAny_bind (hcol _ _ _ rfl fun out s1 ts I1 each pt => ?_)
  obtain ⟨so, hl⟩ := ok ts pt
  obtain ⟨k1, k2, k3, k4⟩ := sortOk_of so
  have lo := each.length
  refine wpAny_bind (wpAny_newList ?_ (by rw [lo]; exact hl))
  have hat : (s1.heap.push (seqObj "list" out.toArray 0)).get? s1.heap.objs.size = some (seqObj "list" out.toArray 0) := Heap.get?_push_size _ rfl
  have rd : PySem.W.EachIs (fun v b => ∃ as, Reads (PySem.W.sortingHeap (s1.heap.push (seqObj "list" out.toArray 0)) s1.heap.objs.size out) v (dat b) as) out ts := by
    refine PySem.W.EachIs.mono (fun u t z => ?_) (PySem.W.each_mem each)
    obtain ⟨⟨v, r1, r2⟩, hm⟩ := z
    obtain ⟨as, q⟩ := Dp.reads I1 _ _ _ (Rep.dp _ _ r2 (okd_plain (k1 t hm))) r1
    exact ⟨as, Reads.keeps (fun b ob e => PySem.W.sortingHeap_old (Nat.ne_of_lt (Heap.lt_size e)) (Heap.get?_push_of_some _ e)) q⟩
  have dp : ∀ d, d ∈ ts.map dat → X.A.in1.in1.units + d.depth < cLine := fun d hd => by
    obtain ⟨t, ht, rfl⟩ := List.mem_map.mp hd
    have z := SeqAt.depth_of_shaped (okd_shaped (k1 t ht))
    show X.A.units + 1 + 1 + _ < _
    omega
  have srt := PySem.W.SortsAt.data (prog := X.prog) (w := X.w) (A := X.A.in1.in1) (s := { s1 with heap := PySem.W.sortingHeap (s1.heap.push (seqObj "list" out.toArray 0)) s1.heap.objs.size out }) (PySem.W.each_map dat (R := fun v d => ∃ as, Reads (PySem.W.sortingHeap (s1.heap.push (seqObj "list" out.toArray 0)) s1.heap.objs.size out) v d as) rd) k2 k3 dp
  have val := PySem.W.sortVals_data false each rd k2
  rw [mergeSort_leT ts k4] at val
  refine wpAny_bind (wpAny_holding (wpAny_call_entry_kw slot_list_sort ⟨_, hat, rfl⟩ entry_list_sort (PySem.W.list_sort_vals (s := { s1 with heap := s1.heap.push (seqObj "list" out.toArray 0) }) hat srt (by rw [lo]; exact hl) ⟨.none, rfl, ?_⟩) (args_list_sort _)))
  obtain ⟨ep, hnew⟩ := sortedHeap_at (vs := out) (out := (PySem.W.sortVals (PySem.W.dataKind (PySem.W.sortingHeap (s1.heap.push (seqObj "list" out.toArray 0)) s1.heap.objs.size out) (ts.map dat)) false out out).toArray) hat
  obtain ⟨ws, rw1, rw2⟩ := ofVT val
  have nH : H s1.heap.objs.size = none := I1.hok.fresh (Nat.le_refl _)
  have lw : ws.length ≤ sizeLine := by rw [← rw1.length, List.length_mergeSort]; exact hl
  have I2 : Inv X pins σ (upd H s1.heap.objs.size (.lst ws)) { s1 with heap := sortedHeap (s1.heap.push (seqObj "list" out.toArray 0)) s1.heap.objs.size out (PySem.W.sortVals (PySem.W.dataKind (PySem.W.sortingHeap (s1.heap.push (seqObj "list" out.toArray 0)) s1.heap.objs.size out) (ts.map dat)) false out out).toArray } :=
    I1.laid (t' := s1.toks) (fun b ob e => by
      rw [sortedHeap_old (Nat.ne_of_lt (Heap.lt_size e)) (by rw [size_push']; exact Nat.lt_succ_of_lt (Heap.lt_size e))]
      exact Heap.get?_push_of_some _ e) (Nat.le_refl _) ⟨lw, _, ep, rw2, hnew⟩
  exact wpAny_pure ⟨_, rfl, .ref s1.heap.objs.size, _, I2, rfl, fin ts _ _ pt (o.new nH) (Ext.new nH) (.lst ⟨upd_same, o.free nH, o.nom nH⟩ (Reps.ext (Ext.new nH) _ _ rw1)) fun p e => by
    injection e with e
    subst e
    exact ⟨nH, ws, rfl⟩⟩
/-- what a tuple or a list collects -/
theorem collect_seqT (I : Inv X pins σ H s) {a : Addr} {vs : List V} {ts : List T} (h : SqL X.K H a vs ∨ SqT X.K H a vs) (r : Reps (gdOf X M) H S ts vs) {A : Around} {E : Value → Shared → Prop} {R : List Value → Shared → Prop}
    (k : ∀ out s1, Inv X pins σ H s1 → PySem.W.EachIs (VT (gdOf X M) H S) out ts → R out s1) : wpAny (model X.prog X.w) A (collect (.ref a)) R E s := by
  have main : ∀ (Ty : String) (ob : Obj) (its : List Value) (n : Nat), (Ty = "list" ∨ Ty = "tuple") → s.heap.get? a = some ob → ob.cls = .type Ty → ob.data = .seq its.toArray n → Vals vs its → its.length ≤ sizeLine → wpAny (model X.prog X.w) A (collect (.ref a)) R E s := by
    intro Ty ob its n hT ho hc hd hv hz
    unfold collect
    refine wpAny_bind (wpAny_runValue (codeAny_builtin entry_proto_collect' ?_))
    show wpAny _ _ (do again (.builtin "list.__iadd__" ⟨[← newList [], .ref a], []⟩)) _ _ s
    have nw : (s.heap.push (seqObj "list" #[] 0)).get? s.heap.objs.size = some { cls := .type "list", data := .seq #[] 0 } := Heap.get?_push_size _ rfl
    refine wpAny_bind (wpAny_newList (wpAny_pure ⟨Code.quiet_builtin _ (by decide +kernel), codeAny_builtin entry_list_iadd' ?_⟩))
    have ho' : (s.heap.push (seqObj "list" #[] 0)).get? a = some ob := Heap.get?_push_of_some _ ho
    show wpAny _ _ (Builtin.List.listExtendWith (Value.ref s.heap.objs.size) (Value.ref a) (Value.ref s.heap.objs.size)) _ _ { s with heap := s.heap.push (seqObj "list" #[] 0) }
    unfold Builtin.List.listExtendWith
    refine wpAny_bind (wpAny_typeOf (T := Ty) ⟨ob, ho', hc⟩ ?_)
    have yes1 : (Builtin.List.listSameRef (Value.ref s.heap.objs.size) (Value.ref a) || Value.type Ty == Value.type "list" || Value.type Ty == Value.type "tuple") = true := by
      rcases hT with z | z <;> (subst z; simp)
    rw [if_pos yes1]
    refine wpAny_bind (listItems_at ho' hd ?_)
    refine wpAny_bind (listItems_at (xs := #[]) (n := 0) nw rfl ?_)
    have no1 : ¬(!(#[] : Array Value).isEmpty && Builtin.List.listTooLong ((#[] : Array Value).size + its.toArray.size)) = true := by simp
    rw [if_neg no1]
    have fits1 : ((#[] : Array Value) ++ its.toArray).size ≤ sizeLine + 1 := by
      simp
      omega
    refine wpAny_bind (listUpdate_at (xs := #[]) (n := 0) nw rfl ?_ (Nat.zero_le _) fits1)
    refine wpAny_pure ?_
    show wpAny (model X.prog X.w) A (do
      let o ← load s.heap.objs.size
      match o.data with
      | .seq xs _ => pure xs.toList
      | _ => unsupported "internal:collect") R E { s with heap := (s.heap.push (seqObj "list" #[] 0)).update s.heap.objs.size (Obj.mapSeq (· ++ its.toArray)) }
    refine wpAny_bind (wpAny_load (get?_update_seq (Heap.get?_push_size _ rfl) _) ?_)
    show wpAny _ _ (pure ((#[] : Array Value) ++ its.toArray).toList) R E _
    rw [show ((#[] : Array Value) ++ its.toArray).toList = its by simp]
    refine wpAny_pure (k its _ (I.kept (t' := s.toks) fun b u e => ?_) (eachVT r hv))
    rw [Heap.get?_update_ne _ _ _ _ (Nat.ne_of_lt (Heap.lt_size e))]
    exact Heap.get?_push_of_some _ e
  rcases h with h | h
  · obtain ⟨its, hv, ⟨ob, n, h1, h2, _, h4⟩, hz⟩ := I.list h
    exact main "list" ob its n (.inl rfl) h1 h2 h4 hv (by rw [← hv.length]; exact hz)
  · obtain ⟨its, hv, ⟨ob, h1, h2, n, h4⟩, hz⟩ := I.tuple h
    exact main "tuple" ob its n (.inr rfl) h1 h2 h4 hv (by rw [← hv.length]; exact hz)
theorem fn_sorted (hu : X.A.units + 70 < cLine) : CallT X (.builtin "sorted") sortedF := by
  intro pins s σ H xs us Q I r h
  obtain ⟨M, S, ts, t, o, rs, e, fin⟩ := h
  unfold sortedF at e
  split at e
  · rename_i y
    obtain ⟨v, rfl, ry⟩ := rs.one
    obtain ⟨u, rfl, ru⟩ := vals1 r
    have go : ∀ (a : Addr) (ws : List V) (zs : List T), v = .ref a → (SqL X.K H a ws ∨ SqT X.K H a ws) → Reps (gdOf X M) H S zs ws → (if (sortOk zs && decide (zs.length ≤ sizeLine)) = true then some (T.lst (zs.mergeSort leT')) else none) = some t →
        wpAny (model X.prog X.w) X.A (call (.builtin "sorted") [u]) (EP X pins σ Q) X.xe s := by
      intro a ws zs ev hs rz e
      subst ev
      obtain rfl : u = .ref a := ru
      split at e
      · rename_i c
        obtain ⟨c1, c2⟩ := Bool.and_eq_true_iff.mp c
        obtain rfl := Option.some.inj e
        exact sorted_via (Pt := fun x => x = zs) hu o (fun A E R _ k => collect_seqT I hs rz fun out s1 I1 ee => k out s1 zs I1 ee rfl) (fun x hx => by rw [hx]; exact ⟨c1, of_decide_eq_true c2⟩) fun x w H' hx o2 x2 r2 _ => by
          subst hx
          exact fin w H' o2 x2 r2
      · cases e
    split at e
    · rename_i zs hz
      obtain ⟨a, ws, rfl, h1, h2⟩ := res_lst o ry hz
      exact go a ws zs rfl (.inl (SqL.of h1)) h2 e
    · rename_i zs hz
      obtain rfl := res_id hz fun _ z => nomatch z
      cases ry with
      | tup h1 h2 => exact go _ _ zs rfl (.inr h1.sq) h2 e
    · cases e
  · cases e
end
end TL

/-! TLj: methods and stores over trees: lists, texts; kinds. -/
namespace TL
open PySem PySem.Spec PyProof.Rows L2

abbrev NoE : T → Sto → Prop := fun _ _ => False
theorem takesN {X : Cx} {M : Addr → Prop} {S0 : Sto} {H0 : Hp} : Takes X (wOf X M S0 H0 EN) := takes0.imp fun c d σ H ⟨_, _, _, _, _, z⟩ => z.elim
/-! ### lists that change -/
def cApp (o e : TTE) : TTE := fun τ S Q E => o τ S (fun x S1 => ∃ a us, x = .ref a ∧ S1 a = some (.lst us) ∧ e τ S1 (fun y S2 => ∃ ts, S2 a = some (.lst ts) ∧ ts.length < sizeLine ∧ Q .non (ups S2 a (.lst (ts ++ [y])))) E) E
def cExt (o e : TTE) : TTE := fun τ S Q E => o τ S (fun x S1 => ∃ a us, x = .ref a ∧ S1 a = some (.lst us) ∧ e τ S1 (fun y S2 => ∃ ts zs, S2 a = some (.lst ts) ∧ res S2 y = .lst zs ∧ ts.length + zs.length ≤ sizeLine ∧ Q .non (ups S2 a (.lst (ts ++ zs)))) E) E
def cPop (o : TTE) : TTE := fun τ S Q E => o τ S (fun x S1 => ∃ a ts y, x = .ref a ∧ S1 a = some (.lst ts) ∧ ts.getLast? = some y ∧ Q y (ups S1 a (.lst ts.dropLast))) E
def cIns (o i e : TTE) : TTE := fun τ S Q E => o τ S (fun x S1 => ∃ a us, x = .ref a ∧ S1 a = some (.lst us) ∧ i τ S1 (fun k S2 => e τ S2 (fun y S3 => ∃ ts n, S3 a = some (.lst ts) ∧ k = .int n ∧ ts.length < sizeLine ∧ 0 ≤ n ∧ n < 2 ^ 63 ∧ Q .non (ups S3 a (.lst (ts.take n.toNat ++ [y] ++ ts.drop n.toNat)))) E) E) E
def cClr (o : TTE) : TTE := fun τ S Q E => o τ S (fun x S1 => ∃ a ts, x = .ref a ∧ S1 a = some (.lst ts) ∧ Q .non (ups S1 a (.lst []))) E
def gIx (o i : TTE) : TTG := fun z τ S Q => o τ S (fun x S1 => i τ S1 (fun k S2 => ∃ a ts n j, x = .ref a ∧ S2 a = some (.lst ts) ∧ k = .int n ∧ ixN ts.length n = some j ∧ Q τ (ups S2 a (.lst (ts.set j z)))) NoE) NoE
section
variable {X : Cx} {o e i : Expr} {to te ti : TTE} {apos cpos pos : Pos}
theorem ty_list {M : Addr → Prop} {S : Sto} {H : Hp} {a : Addr} {us : List T} (ok : StoOk (gdOf X M) H S) (h : S a = some (.lst us)) : tyV X.K "list" (.ref a) H := by
  obtain ⟨xs, h1, _⟩ := ok.at_ a _ h
  exact .inl ⟨rfl, xs, SqL.of h1⟩
/-- a cell of a list is written -/
theorem cell_set {M : Addr → Prop} {S : Sto} {H : Hp} {a : Addr} {ts us : List T} {ys : List V} (ok : StoOk (gdOf X M) H S) (h : S a = some (.lst ts)) (r : Reps (gdOf X M) H S us ys) :
    StoOk (gdOf X M) (upd H a (.lst ys)) (ups S a (.lst us)) ∧ Ext S H (ups S a (.lst us)) (upd H a (.lst ys)) :=
  have x : Ext S H (ups S a (.lst us)) (upd H a (.lst ys)) := Ext.cell (.inr ⟨_, h⟩)
  ⟨ok.cell (.inr ⟨_, h⟩) ⟨ys, upd_same, Reps.ext x _ _ r⟩, x⟩
theorem te_app (ho : TE X o to) (he : TE X e te) (hbase : attributeBase o "append" X.env (eval o X.env) = eval o X.env := by rfl)
    (hfew : ((backTo cpos (starEach [e] X.env)).all (fun x => !x.1) && (backToKw cpos (keywordEach [] X.env)).all (fun x => x.1.isSome) && decide (([e] : List Expr).length + ([] : List Keyword).length + (if ([] : List Keyword).isEmpty then 0 else 1) < 30)) = true := by rfl)
    (hline : (apos.endLine == cpos.line) = true := by rfl) (hs : starEach [e] X.env = (false, eval e X.env) :: starEach [] X.env := by rfl) (hplain : (backTo cpos (starEach [] X.env)).any (·.1) = false := by rfl) :
    TE X (.Call (.Attribute o "append" apos) [e] [] cpos) (cApp to te) := fun M S0 H0 E tk =>
  (pe_bm PySem.F.plainAttrs_list PySem.F.slot_list_append PySem.F.type_list_append mt_append (ho M S0 H0 E tk) (ta_cons he ta_nil hs M S0 H0 E tk) hbase hfew hline hs hplain).weak fun σ H Q ⟨τ, S, Qt, rel, h, k⟩ =>
    ⟨τ, S, _, rel, h, fun z S1 v H1 ⟨a, us, ez, hs1, h1⟩ o1 x1 r1 => by
      subst ez
      cases r1
      refine ⟨ty_list o1 hs1, τ, S1, fun zs S2 => ∃ y, zs = [y] ∧ ∃ ts, S2 a = some (.lst ts) ∧ ts.length < sizeLine ∧ Qt .non (ups S2 a (.lst (ts ++ [y]))), rel.step o1 x1, ?_, fun zs S2 vs H2 h2 o2 x2 r2 => ?_⟩
      · show te τ S1 (fun y S2 => ∃ y', [y] = [y'] ∧ ∃ ts, S2 a = some (.lst ts) ∧ ts.length < sizeLine ∧ Qt .non (ups S2 a (.lst (ts ++ [y'])))) fun x S' => E x τ S'
        have e : ∀ (y : T) (S2 : Sto), (∃ y', [y] = [y'] ∧ ∃ ts, S2 a = some (.lst ts) ∧ ts.length < sizeLine ∧ Qt .non (ups S2 a (.lst (ts ++ [y'])))) = ∃ ts, S2 a = some (.lst ts) ∧ ts.length < sizeLine ∧ Qt .non (ups S2 a (.lst (ts ++ [y]))) := fun y S2 => by
          simp only [List.cons.injEq, and_true, exists_eq_left']
        simp only [e]
        exact h1
      · obtain ⟨y, rfl, ts, q1, q2, q3⟩ := h2
        obtain ⟨w, rfl, rw1⟩ := r2.one
        obtain ⟨xs, p1, p2⟩ := o2.at_ a _ q1
        have l := p2.length
        obtain ⟨o3, x3⟩ := cell_set (us := ts ++ [y]) (ys := xs ++ [w]) o2 q1 (p2.append (.cons rw1 .nil))
        exact ⟨a, xs, w, rfl, rfl, p1, by omega, k _ _ _ _ q3 o3 ((x1.trans x2).trans x3) .non⟩⟩
theorem te_ext (ho : TE X o to) (he : TE X e te) (hbase : attributeBase o "extend" X.env (eval o X.env) = eval o X.env := by rfl)
    (hfew : ((backTo cpos (starEach [e] X.env)).all (fun x => !x.1) && (backToKw cpos (keywordEach [] X.env)).all (fun x => x.1.isSome) && decide (([e] : List Expr).length + ([] : List Keyword).length + (if ([] : List Keyword).isEmpty then 0 else 1) < 30)) = true := by rfl)
    (hline : (apos.endLine == cpos.line) = true := by rfl) (hs : starEach [e] X.env = (false, eval e X.env) :: starEach [] X.env := by rfl) (hplain : (backTo cpos (starEach [] X.env)).any (·.1) = false := by rfl) :
    TE X (.Call (.Attribute o "extend" apos) [e] [] cpos) (cExt to te) := fun M S0 H0 E tk =>
  (pe_bm PySem.F.plainAttrs_list PySem.F.slot_list_extend PySem.F.type_list_extend mt_extend (ho M S0 H0 E tk) (ta_cons he ta_nil hs M S0 H0 E tk) hbase hfew hline hs hplain).weak fun σ H Q ⟨τ, S, Qt, rel, h, k⟩ =>
    ⟨τ, S, _, rel, h, fun z S1 v H1 ⟨a, us, ez, hs1, h1⟩ o1 x1 r1 => by
      subst ez
      cases r1
      refine ⟨ty_list o1 hs1, τ, S1, fun ys S2 => ∃ y, ys = [y] ∧ ∃ ts zs, S2 a = some (.lst ts) ∧ res S2 y = .lst zs ∧ ts.length + zs.length ≤ sizeLine ∧ Qt .non (ups S2 a (.lst (ts ++ zs))), rel.step o1 x1, ?_, fun zs S2 vs H2 h2 o2 x2 r2 => ?_⟩
      · show te τ S1 (fun y S2 => ∃ y', [y] = [y'] ∧ ∃ ts zs, S2 a = some (.lst ts) ∧ res S2 y' = .lst zs ∧ ts.length + zs.length ≤ sizeLine ∧ Qt .non (ups S2 a (.lst (ts ++ zs)))) fun x S' => E x τ S'
        have e : ∀ (y : T) (S2 : Sto), (∃ y', [y] = [y'] ∧ ∃ ts zs, S2 a = some (.lst ts) ∧ res S2 y' = .lst zs ∧ ts.length + zs.length ≤ sizeLine ∧ Qt .non (ups S2 a (.lst (ts ++ zs)))) = ∃ ts zs, S2 a = some (.lst ts) ∧ res S2 y = .lst zs ∧ ts.length + zs.length ≤ sizeLine ∧ Qt .non (ups S2 a (.lst (ts ++ zs))) := fun y S2 => by
          simp only [List.cons.injEq, and_true, exists_eq_left']
        simp only [e]
        exact h1
      · obtain ⟨y, rfl, ts, zs, q1, qz, q2, q3⟩ := h2
        obtain ⟨w, rfl, rw1⟩ := r2.one
        obtain ⟨xs, p1, p2⟩ := o2.at_ a _ q1
        obtain ⟨b, ws, rfl, b1, b2⟩ := res_lst o2 rw1 qz
        have l := p2.length
        have l2 := b2.length
        obtain ⟨o3, x3⟩ := cell_set (us := ts ++ zs) (ys := xs ++ ws) o2 q1 (p2.append b2)
        exact ⟨a, b, xs, ws, rfl, rfl, p1, b1, by omega, k _ _ _ _ q3 o3 ((x1.trans x2).trans x3) .non⟩⟩
theorem te_pop (ho : TE X o to) (hbase : attributeBase o "pop" X.env (eval o X.env) = eval o X.env := by rfl) (hline : (apos.endLine == cpos.line) = true := by rfl) :
    TE X (.Call (.Attribute o "pop" apos) [] [] cpos) (cPop to) := fun M S0 H0 E tk =>
  (pe_bm0 PySem.F.plainAttrs_list PySem.F.slot_list_pop PySem.F.type_list_pop mt_pop (ho M S0 H0 E tk) hbase hline).weak fun σ H Q ⟨τ, S, Qt, rel, h, k⟩ =>
    ⟨τ, S, _, rel, h, fun z S1 v H1 ⟨a, ts, y, ez, hs1, hy, h1⟩ o1 x1 r1 => by
      subst ez
      cases r1
      obtain ⟨xs, p1, p2⟩ := o1.at_ a _ hs1
      have l := p2.length
      have hy' : ts[ts.length - 1]? = some y := by rw [← List.getLast?_eq_getElem?]; exact hy
      obtain ⟨w, hw, rw1⟩ := p2.get hy'
      obtain ⟨o3, x3⟩ := cell_set (us := ts.dropLast) (ys := xs.dropLast) o1 hs1 (by rw [List.dropLast_eq_take, List.dropLast_eq_take, ← l]; exact p2.take _)
      exact ⟨ty_list o1 hs1, a, xs, w, rfl, rfl, p1, by rw [← l]; exact hw, k _ _ _ _ h1 o3 (x1.trans x3) (Rep.ext x3 _ _ rw1)⟩⟩
theorem te_clr (ho : TE X o to) (hbase : attributeBase o "clear" X.env (eval o X.env) = eval o X.env := by rfl) (hline : (apos.endLine == cpos.line) = true := by rfl) :
    TE X (.Call (.Attribute o "clear" apos) [] [] cpos) (cClr to) := fun M S0 H0 E tk =>
  (pe_bm0 PySem.F.plainAttrs_list PySem.F.slot_list_clear PySem.F.type_list_clear mt_clear (ho M S0 H0 E tk) hbase hline).weak fun σ H Q ⟨τ, S, Qt, rel, h, k⟩ =>
    ⟨τ, S, _, rel, h, fun z S1 v H1 ⟨a, ts, ez, hs1, h1⟩ o1 x1 r1 => by
      subst ez
      cases r1
      obtain ⟨xs, p1, p2⟩ := o1.at_ a _ hs1
      obtain ⟨o3, x3⟩ := cell_set (us := []) (ys := []) o1 hs1 .nil
      exact ⟨ty_list o1 hs1, a, xs, rfl, rfl, p1, k _ _ _ _ h1 o3 (x1.trans x3) .non⟩⟩
/-- xs[i] = v, xs a list -/
theorem tg_ix {vs : List Nat} (ho : TE X o to) (hi : TE X i ti) (ha : ∀ v, assign (.Subscript o i pos) X.env v = (do
      let ov ← holding [v] (eval o X.env)
      let iv ← holding [v, ov] (eval i X.env)
      standAt pos
      holding [v, ov, iv] (setItem ov iv v)
      release [v, ov, iv] []) := by intro _; rfl) : TGt X vs (.Subscript o i pos) (gIx to ti) := fun M S0 H0 E tk =>
  (pg_sub (ho M S0 H0 EN takesN) (hi M S0 H0 EN takesN) set_list ha).weak fun v σ H Q ⟨τ, S, z, Qt, rel, hz, h, k⟩ => ⟨τ, S, _, rel, h, fun x S1 xv H1 h1 o1 x1 r1 =>
    ⟨τ, S1, _, rel.step o1 x1, h1, fun y S2 yv H2 ⟨a, ts, n, j, ex, hs2, ey, hj, h2⟩ o2 x2 r2 => by
      subst ex ey
      cases r1
      cases r2
      obtain ⟨xs, p1, p2⟩ := o2.at_ a _ hs2
      have x12 := x1.trans x2
      obtain ⟨o3, x3⟩ := cell_set (us := ts.set j z) (ys := xs.set j v) o2 hs2 (p2.set (Rep.ext x12 _ _ hz) j)
      exact ⟨a, xs, n, j, rfl, rfl, p1, by rw [← p2.length]; exact hj, k _ _ _ _ ((rel.step o2 x12).step o3 x3) (x12.trans x3) rfl h2⟩⟩⟩
end

/-! ### kinds -/
inductive Kd where
  | non | bool | int | str | tup | lst | dct
  deriving DecidableEq
def Kd.nm : Kd → String
  | .non => "NoneType"
  | .bool => "bool"
  | .int => "int"
  | .str => "str"
  | .tup => "tuple"
  | .lst => "list"
  | .dct => "dict"
def Kd.is : Kd → Kd → Bool
  | .bool, .int => true
  | a, b => decide (a = b)
theorem Kd.kit (a b : Kd) : kitB a.nm b.nm = some (a.is b) := by cases a <;> cases b <;> decide +kernel
def kdOf (S : Sto) : T → Option Kd
  | .non => some .non
  | .bl _ => some .bool
  | .int _ => some .int
  | .str _ => some .str
  | .tup _ => some .tup
  | .lst _ => some .lst
  | .dct false _ _ => some .dct
  | .ref a => match S a with
    | some (.lst _) => some .lst
    | some (.dct false _ _) => some .dct
    | _ => none
  | _ => none
theorem kd_ty {X : Cx} {M : Addr → Prop} {S : Sto} {H : Hp} {t : T} {v : V} {k : Kd} (o : StoOk (gdOf X M) H S) (r : Rep (gdOf X M) H S t v) (e : kdOf S t = some k) : TyX X.K H v (.type k.nm) := by
  cases r with
  | non => obtain rfl := Option.some.inj e; exact .base .non
  | bl b => obtain rfl := Option.some.inj e; exact .base (.bl b)
  | int i => obtain rfl := Option.some.inj e; exact .base (.int i)
  | str x => obtain rfl := Option.some.inj e; exact .base (.str _)
  | tup h1 h2 =>
    obtain rfl := Option.some.inj e
    rcases h1 with ⟨h1 | ⟨ob, h1⟩, _⟩ | ⟨ob, its, n, h1, h2, _⟩
    · exact .base (.tup h1)
    · exact .fTuple h1
    · exact .kTuple h1 h2
  | lst h1 h2 => obtain rfl := Option.some.inj e; exact .base (.lst h1.1)
  | dK h1 h2 h3 =>
    obtain rfl := Option.some.inj e
    rcases h1.1 with h1 | ⟨ob, h1⟩
    · exact .base (.dK h1)
    · exact .fDict h1
  | ref a =>
    cases q : S a with
    | none => simp [kdOf, q] at e
    | some c =>
      have w := o.at_ a _ q
      cases c with
      | lst ts =>
        simp only [kdOf, q] at e
        obtain rfl := Option.some.inj e
        obtain ⟨xs, h1, _⟩ := w
        exact .base (.lst h1)
      | dct b ks vs =>
        cases b with
        | true => simp [kdOf, q] at e
        | false =>
          simp only [kdOf, q] at e
          obtain rfl := Option.some.inj e
          obtain ⟨kvs, h1, _⟩ := w
          exact .base (.dK h1)
      | ins _ _ _ => simp [kdOf, q] at e
  | _ => cases e
def isiT (ks : List Kd) (S : Sto) (x : T) : Option T := (kdOf S x).map fun k => .bl (ks.any fun c => k.is c)
section
variable {X : Cx} {a : Expr} {ta : TTE} {p p2 pos tpos : Pos} {c : Str}
theorem boot_kd (k : Kd) (h : k ≠ .non) : bootBuiltins k.nm = some (.type k.nm) := by
  cases k <;> first | exact absurd rfl h | decide +kernel
/-- isinstance(e, C), C a built-in class -/
theorem te_isi (k : Kd) (ha : TE X a ta) (hg : Gl X "isinstance") (hm : X.mg "isinstance" = none) (hg2 : Gl X k.nm) (hm2 : X.mg k.nm = none) (hk : k ≠ .non := by decide)
    (hdb : ((k.nm : Str) == ("__debug__" : Str)) = false := by decide) (hnn : (k.nm : Str) ≠ "__name__" := by decide)
    (he : starEach [a, .Name k.nm p2] X.env = (false, eval a X.env) :: starEach [.Name k.nm p2] X.env := by rfl) (he2 : starEach [.Name k.nm p2] X.env = (false, eval (.Name k.nm p2) X.env) :: starEach [] X.env := by rfl) (hpl : (backTo pos (starEach [.Name k.nm p2] X.env)).any (·.1) = false := by rfl) :
    TE X (.Call (.Name "isinstance" p) [a, .Name k.nm p2] [] pos) (cUn (isiT [k]) ta) := fun M S0 H0 E tk =>
  (pe_callB call_isi hg hm boot_isinstance (pa_cons (ha M S0 H0 E tk) (pa_cons (pe_bltn hg2 hm2 (boot_kd k hk) (show RelV (.ty k.nm) (.type k.nm) from rfl) hnn hdb) pa_nil he2) he) (by decide) (by decide) he hpl).weak fun σ H Q ⟨τ, S, Qt, rel, h, fin⟩ =>
    ⟨τ, S, _, rel, h, fun z S1 v H1 ⟨w, e, hq⟩ o1 x1 r1 => by
      obtain ⟨kd, hkd, rfl⟩ := Option.map_eq_some_iff.mp e
      refine ⟨v, .ty k.nm, .type kd.nm, .type k.nm, kd.is k, rfl, .ty _, kd_ty o1 r1 hkd, kit_ty (kd.kit k), ?_⟩
      have := fin _ S1 (.bl (kd.is k)) H1 hq o1 x1 (by simp only [List.any_cons, List.any_nil, Bool.or_false]; exact .bl _)
      exact this⟩
/-- isinstance(e, (C, D)) -/
theorem te_isi2 (k l : Kd) {kk : Nat} {p3 : Pos} (ha : TE X a ta) (hg : Gl X "isinstance") (hm : X.mg "isinstance" = none) (hg2 : Gl X k.nm) (hm2 : X.mg k.nm = none) (hg3 : Gl X l.nm) (hm3 : X.mg l.nm = none) (hk : k ≠ .non := by decide) (hl : l ≠ .non := by decide)
    (hdb : ((k.nm : Str) == ("__debug__" : Str)) = false := by decide) (hnn : (k.nm : Str) ≠ "__name__" := by decide) (hdb3 : ((l.nm : Str) == ("__debug__" : Str)) = false := by decide) (hnn3 : (l.nm : Str) ≠ "__name__" := by decide)
    (he : starEach [a, .Tuple [.Name k.nm p2, .Name l.nm p3] kk tpos] X.env = (false, eval a X.env) :: starEach [.Tuple [.Name k.nm p2, .Name l.nm p3] kk tpos] X.env := by rfl)
    (he2 : starEach [.Tuple [.Name k.nm p2, .Name l.nm p3] kk tpos] X.env = (false, eval (.Tuple [.Name k.nm p2, .Name l.nm p3] kk tpos) X.env) :: starEach [] X.env := by rfl)
    (he3 : starEach [.Name k.nm p2, .Name l.nm p3] X.env = (false, eval (.Name k.nm p2) X.env) :: starEach [.Name l.nm p3] X.env := by rfl) (he4 : starEach [.Name l.nm p3] X.env = (false, eval (.Name l.nm p3) X.env) :: starEach [] X.env := by rfl)
    (hpl : (backTo pos (starEach [.Tuple [.Name k.nm p2, .Name l.nm p3] kk tpos] X.env)).any (·.1) = false := by rfl) :
    TE X (.Call (.Name "isinstance" p) [a, .Tuple [.Name k.nm p2, .Name l.nm p3] kk tpos] [] pos) (cUn (isiT [k, l]) ta) := fun M S0 H0 E tk =>
  (pe_callB call_isiT hg hm boot_isinstance (pa_cons (ha M S0 H0 E tk) (pa_cons (pe_tup (pa_cons (pe_bltn hg2 hm2 (boot_kd k hk) (show RelV (.ty k.nm) (.type k.nm) from rfl) hnn hdb) (pa_cons (pe_bltn hg3 hm3 (boot_kd l hl) (show RelV (.ty l.nm) (.type l.nm) from rfl) hnn3 hdb3) pa_nil he4) he3)) pa_nil he2) he) (by decide) (by decide) he hpl).weak fun σ H Q ⟨τ, S, Qt, rel, h, fin⟩ =>
    ⟨τ, S, _, rel, h, fun z S1 v H1 ⟨w, e, hq⟩ o1 x1 r1 => by
      obtain ⟨kd, hkd, rfl⟩ := Option.map_eq_some_iff.mp e
      refine ⟨by show 2 ≤ sizeLine; rw [sizeLine_eq]; omega, fun q n => ?_⟩
      have xn : Ext S1 H1 S1 (upd H1 q (.tup [.ty k.nm, .ty l.nm])) := Ext.new n
      refine ⟨v, q, [.ty k.nm, .ty l.nm], .type kd.nm, [.type k.nm, .type l.nm], kd.is k || kd.is l, rfl, upd_same, .cons (.ty _) (.cons (.ty _) .nil), kd_ty (o1.new n) (Rep.ext xn _ _ r1) hkd, ?_, ?_⟩
      · refine kitAny_cons (kit_ty (kd.kit k)) (fun e1 => ?_) fun e1 => ?_
        · refine kitAny_cons (kit_ty (kd.kit l)) (fun e2 => ?_) fun e2 => ?_
          · rw [e1, e2]; exact kitAny_nil
          · rw [e2, Bool.or_true]
        · rw [e1, Bool.true_or]
      · have := fin _ S1 (.bl (kd.is k || kd.is l)) _ hq (o1.new n) (x1.trans xn) (by simp only [List.any_cons, List.any_nil, Bool.or_false]; exact .bl _)
        exact this⟩
end
end TL

/-! TLk: texts: times, numbers written, joined, looked into; chained comparisons; the module's names. -/
namespace TL
open PySem PySem.Spec PyProof.Rows L2

/-! ### times -/
def repS (n : Nat) (x : List Sg) : List Sg := (List.replicate n x).flatten
theorem repS_zero (x : List Sg) : repS 0 x = [] := rfl
theorem repS_succ (n : Nat) (x : List Sg) : repS (n + 1) x = x ++ repS n x := by simp [repS, List.replicate_succ]
theorem repS_nil (n : Nat) : repS n [] = [] := by
  induction n with
  | zero => rfl
  | succ n ih => rw [repS_succ, ih]; rfl
theorem repS_one (x : List Sg) : repS 1 x = x := by simp [repS]
theorem repS_len (n : Nat) (x : List Sg) : (repS n x).length = n * x.length := by
  induction n with
  | zero => simp [repS]
  | succ n ih => rw [repS_succ, List.length_append, ih, Nat.succ_mul, Nat.add_comm]
theorem txt_repS (n : Nat) (x : List Sg) : (⟨(List.replicate n (txt x).cps).foldl (· ++ ·) #[]⟩ : Str) = txt (repS n x) := by
  have h : ∀ (n : Nat) (acc : Array Nat), (List.replicate n (txt x).cps).foldl (· ++ ·) acc = acc ++ (txt (repS n x)).cps := by
    intro n
    induction n with
    | zero => intro acc; simp [repS, txt]
    | succ n ih =>
      intro acc
      rw [List.replicate_succ, List.foldl_cons, ih, repS_succ]
      simp [txt]
  rw [h n #[]]
  simp [txt]
theorem txt_mul (x : List Sg) (n : Int) : Txt.mul (txt x) n = txt (repS n.toNat x) := by
  unfold Txt.mul
  split
  · rename_i h
    have : n.toNat = 0 := by omega
    rw [this]
    rfl
  · split
    · rename_i h h2
      simp only [Bool.or_eq_true, beq_iff_eq] at h2
      rcases h2 with h2 | h2
      · subst h2
        show txt x = txt (repS 1 x)
        rw [repS_one]
      · rw [txt_len] at h2
        have : x = [] := List.eq_nil_of_length_eq_zero h2
        subst this
        rw [repS_nil]
    · exact txt_repS _ _
def mulS (x : List Sg) (n : Int) : Bool := decide (x.length * n.toNat ≤ 1000000) && (decide (n < 1000000) && decide (-1000000 < n))
theorem mulS_ok {x : List Sg} {n : Int} (h : mulS x n = true) : MulOk (txt x) n := by
  simp only [mulS, Bool.and_eq_true, decide_eq_true_eq] at h
  obtain ⟨h1, h2, h3⟩ := h
  refine ⟨by rw [decide_eq_false (by omega), decide_eq_false (by omega)]; rfl, fun h4 _ => ?_, fun h4 _ => ?_⟩
  · rw [txt_len]
    have hn : 0 < n := by omega
    have h5 : (x.length : Int) * n ≤ 1000000 := by
      have : ((x.length * n.toNat : Nat) : Int) ≤ ((1000000 : Nat) : Int) := Int.ofNat_le.mpr h1
      rw [Int.natCast_mul, Int.toNat_of_nonneg (by omega)] at this
      exact this
    have : (x.length : Int) ≤ (2 ^ 63 - 1) / n := by
      apply Int.le_ediv_of_mul_le hn
      omega
    omega
  · rw [txt_len]
    unfold Builtin.Str.tooLong
    rw [sizeLine_eq]
    exact decide_eq_false (by omega)
def mulT2 (_ : Sto) (x y : T) : Option T := match x, y with
  | .int i, .int j => if mulI i j = true then some (.int (i * j)) else none
  | .str a, .int n => if mulS a n = true then some (.str (repS n.toNat a)) else none
  | _, _ => none
section
variable {X : Cx}
theorem op_mulT2 : OpT X (binaryOp .Mult) mulT2 := by
  intro pins s σ H x y v u Q I rx ry h
  obtain ⟨M, S, tx, ty, t, o, hx, hy, e, fin⟩ := h
  unfold mulT2 at e
  split at e
  · rename_i i j
    split at e
    · rename_i hz
      obtain rfl := Option.some.inj e
      cases hx
      cases hy
      exact op_mulW pins s σ H _ _ v u Q I rx ry ⟨i, j, rfl, rfl, by unfold CMulW; exact of_decide_eq_true hz, fin _ H o Ext.refl (.int _)⟩
    · cases e
  · rename_i a n
    split at e
    · rename_i hz
      obtain rfl := Option.some.inj e
      cases hx
      cases hy
      obtain ⟨t1, rfl⟩ := rx
      obtain ⟨t2, rfl⟩ := ry
      refine SB.mul (mulS_ok hz) fun t' k => ⟨.str _, H, I.tok k, ⟨t', rfl⟩, ?_⟩
      rw [txt_mul]
      exact fin _ H o Ext.refl (.str _)
    · cases e
  · cases e

/-! ### numbers written -/
def strI (i : Int) : List Sg := q (Str.ofString (toString i))
theorem strI_signs (i : Int) : ∀ c ∈ (Str.ofString (toString i)).cps.toList, c < 128 := by
  intro c hc
  rw [signs_ofString] at hc
  obtain ⟨ch, h1, rfl⟩ := List.mem_map.mp hc
  have dig : ∀ n : Nat, ∀ ch ∈ (Nat.repr n).toList, ch.toNat < 128 := fun n ch h => by
    rw [Nat.toList_repr] at h
    have r := digit_range (Nat.isDigit_of_mem_toDigits (by decide) (by decide) h)
    omega
  cases i with
  | ofNat m => exact dig m ch h1
  | negSucc m =>
    have e : toString (Int.negSucc m) = "-" ++ Nat.repr (m + 1) := rfl
    rw [e, String.toList_append, List.mem_append] at h1
    rcases h1 with h1 | h1
    · have : ch = '-' := by simpa using h1
      subst this
      decide
    · exact dig _ ch h1
theorem q_txt {s : Str} (h : ∀ c ∈ s.cps.toList, c < 128) : txt (q s) = s := by
  have : (q s).map (·.val) = s.cps.toList := by
    unfold q
    rw [List.map_map]
    conv => rhs; rw [← List.map_id s.cps.toList]
    apply List.map_congr_left
    intro c hc
    show c % 128 = c
    exact Nat.mod_eq_of_lt (h c hc)
  show (⟨((q s).map (·.val)).toArray⟩ : Str) = s
  rw [this]
theorem txt_strI (i : Int) : txt (strI i) = Str.ofString (toString i) := q_txt (strI_signs i)
def strF (_ : Sto) : List T → Option T
  | [.int i] => if i.natAbs.log2 < 1000 then some (.str (strI i)) else none
  | _ => none
theorem fn_str : CallT X (.type "str") strF := by
  intro pins s σ H xs us Q I r h
  obtain ⟨M, S, ts, t, o, rs, e, fin⟩ := h
  unfold strF at e
  split at e
  · rename_i i
    split at e
    · obtain rfl := Option.some.inj e
      obtain ⟨v, rfl, ry⟩ := rs.one
      cases ry
      refine call_str_int pins s σ H _ us Q I r ⟨i, rfl, by omega, ?_⟩
      have := fin (.str (txt (strI i))) H o Ext.refl (.str _)
      rw [txt_strI] at this
      exact this
    · cases e
  · cases e

/-! ### text methods -/
/-- a method of a thing of the kind k, with its arguments -/
def MetT (X : Cx) (id : String) (f : Sto → T → List T → Option T) : Prop := MtR X id fun x xs H Q => ∃ M S tx ts t, StoOk (gdOf X M) H S ∧ Rep (gdOf X M) H S tx x ∧ Reps (gdOf X M) H S ts xs ∧ f S tx ts = some t ∧ ∀ v H', StoOk (gdOf X M) H' S → Ext S H S H' → Rep (gdOf X M) H' S t v → Q v H'
def cM (k : T → Bool) (f : Sto → T → List T → Option T) (o : TTE) (a : TTA) : TTE := fun τ S Q E => o τ S (fun x S1 => k x = true ∧ a τ S1 (fun ys S2 => ∃ t, f S2 x ys = some t ∧ Q t S2) E) E
def isStr : T → Bool
  | .str _ => true
  | _ => false
def isTup : T → Bool
  | .tup _ => true
  | _ => false
theorem isStr_is {t : T} (h : isStr t = true) : ∃ x, t = .str x := by cases t <;> first | exact ⟨_, rfl⟩ | cases h
theorem isTup_is {t : T} (h : isTup t = true) : ∃ x, t = .tup x := by cases t <;> first | exact ⟨_, rfl⟩ | cases h
variable {o e : Expr} {es : List Expr} {to te : TTE} {ta : TTA} {id : String} {name : Str} {apos cpos : Pos} {f : Sto → T → List T → Option T}
theorem te_sm0 (slot : Slot "str" name id) (ty : typeOf (.builtin id) = pure (.type "method_descriptor")) (hm : MetT X id f) (ho : TE X o to)
    (hbase : attributeBase o name X.env (eval o X.env) = eval o X.env := by rfl) (hline : (apos.endLine == cpos.line) = true := by rfl) : TE X (.Call (.Attribute o name apos) [] [] cpos) (cM isStr f to cNil) := fun M S0 H0 E tk =>
  (pe_m0 slot ty hm (ho M S0 H0 E tk) hbase hline).weak fun σ H Q ⟨τ, S, Qt, rel, h, k⟩ => ⟨τ, S, _, rel, h, fun zx S1 x H1 ⟨hk, t, e, hq⟩ o1 x1 r1 => by
    obtain ⟨y, rfl⟩ := isStr_is hk
    cases r1
    exact ⟨⟨_, rfl⟩, M, S1, _, [], t, o1, .str y, .nil, e, fun v H' o2 x2 r2 => k t S1 v H' hq o2 (x1.trans x2) r2⟩⟩
theorem te_sm1 (slot : Slot "str" name id) (ty : typeOf (.builtin id) = pure (.type "method_descriptor")) (hm : MetT X id f) (ho : TE X o to) (he : TE X e te)
    (hs : starEach [e] X.env = [(false, eval e X.env)] := by rfl) (hbase : attributeBase o name X.env (eval o X.env) = eval o X.env := by rfl) (hline : (apos.endLine == cpos.line) = true := by rfl) :
    TE X (.Call (.Attribute o name apos) [e] [] cpos) (cM isStr f to (cCons te cNil)) := fun M S0 H0 E tk =>
  (pe_m1 slot ty hm (ho M S0 H0 E tk) (he M S0 H0 E tk) hs hbase hline).weak fun σ H Q ⟨τ, S, Qt, rel, h, k⟩ => ⟨τ, S, _, rel, h, fun zx S1 x H1 ⟨hk, h1⟩ o1 x1 r1 => by
    obtain ⟨y, rfl⟩ := isStr_is hk
    cases r1
    refine ⟨⟨_, rfl⟩, τ, S1, _, rel.step o1 x1, h1, fun zy S2 w H2 ⟨t, e, hq⟩ o2 x2 r2 => ⟨M, S2, _, [zy], t, o2, .str y, .cons r2 .nil, e, fun v H' o3 x3 r3 => k t S2 v H' hq o3 ((x1.trans x2).trans x3) r3⟩⟩⟩
/-- a method of a written tuple, called by its name -/
theorem te_tm {x : Str} {p : Addr} {npos : Pos} {ts : List T} (slot : Slot "tuple" name id) (ty : typeOf (.builtin id) = pure (.type "method_descriptor")) (hm : MetT X id f) (hg : Gl X x) (hmx : X.mg x = some (.ref p)) (hst : ∃ ob, X.K.lookup p = some ob ∧ ob.cls = .type "tuple" ∧ ob.dict = none)
    (hr : ∀ M H S, Rep (gdOf X M) H S (.tup ts) (.ref p)) (ha : TA X (e :: es) ta) (hd : (x == ("__debug__" : Str)) = false := by decide)
    (hbase : attributeBase (.Name x npos) name X.env (eval (.Name x npos) X.env) = eval (.Name x npos) X.env := by rfl)
    (hfew : ((backTo cpos (starEach (e :: es) X.env)).all (fun x => !x.1) && (backToKw cpos (keywordEach [] X.env)).all (fun x => x.1.isSome) && decide ((e :: es).length + ([] : List Keyword).length + (if ([] : List Keyword).isEmpty then 0 else 1) < 30)) = true := by rfl)
    (hline : (apos.endLine == cpos.line) = true := by rfl) (hs : starEach (e :: es) X.env = (false, eval e X.env) :: starEach es X.env := by rfl) (hplain : (backTo cpos (starEach es X.env)).any (·.1) = false := by rfl) :
    TE X (.Call (.Attribute (.Name x npos) name apos) (e :: es) [] cpos) (cM isTup f (cC (.tup ts)) ta) := fun M S0 H0 E tk =>
  (pe_bm PySem.F.plainAttrs_tuple slot ty hm (pe_glob hg hmx (show RelV (.ref p) (.ref p) from rfl) hd) (ha M S0 H0 E tk) hbase hfew hline hs hplain).weak fun σ H Q ⟨τ, S, Qt, rel, ⟨_, h⟩, k⟩ => by
    refine ⟨.inr (.inl ⟨rfl, hst⟩), τ, S, _, rel, h, fun zs S2 vs H2 ⟨t, e, hq⟩ o2 x2 r2 => ⟨M, S2, _, zs, t, o2, hr _ _ _, r2, e, fun v H' o3 x3 r3 => k t S2 v H' hq o3 (x2.trans x3) r3⟩⟩
def strsOf : List T → Option (List (List Sg))
  | [] => some []
  | .str x :: ts => (strsOf ts).map (x :: ·)
  | _ :: _ => none
theorem strsOf_is : ∀ {ts : List T} {xs : List (List Sg)}, strsOf ts = some xs → ts = xs.map T.str
  | [], xs, e => by
    obtain rfl := Option.some.inj e
    rfl
  | t :: ts, xs, e => by
    cases t with
    | str x =>
      obtain ⟨ys, h1, rfl⟩ := Option.map_eq_some_iff.mp (show (strsOf ts).map (x :: ·) = some xs from e)
      rw [strsOf_is h1]
      rfl
    | _ => cases e
theorem strsOf_map (xs : List (List Sg)) : strsOf (xs.map T.str) = some xs := by
  induction xs with
  | nil => rfl
  | cons x xs ih =>
    show (strsOf (xs.map T.str)).map (x :: ·) = _
    rw [ih]
    rfl
theorem reps_strs {G : Gd} {H : Hp} {S : Sto} : ∀ {xs : List (List Sg)} {vs : List V}, Reps G H S (xs.map T.str) vs → vs = (xs.map txt).map V.str
  | [], _, r => by cases r; rfl
  | x :: xs, _, r => by
    cases r with
    | cons a b =>
      cases a
      rw [reps_strs b]
      rfl
/-- joined -/
def jnL (a : List Sg) : List (List Sg) → List Sg
  | [] => []
  | x :: xs => x ++ (xs.map (a ++ ·)).flatten
theorem txt_join (a : List Sg) (xs : List (List Sg)) : Txt.join (txt a) (xs.map txt) = txt (jnL a xs) := by
  unfold Txt.join Builtin.Str.glued
  cases xs with
  | nil => rfl
  | cons x xs =>
    have h : ∀ (xs : List (List Sg)) (acc : Array Nat), (xs.map txt).foldl (fun acc p => acc ++ (txt a).cps ++ p.cps) acc = acc ++ (txt (xs.map (a ++ ·)).flatten).cps := by
      intro xs
      induction xs with
      | nil => intro acc; simp [txt]
      | cons y ys ih =>
        intro acc
        rw [List.map_cons, List.foldl_cons, ih]
        simp [txt]
    show (⟨(xs.map txt).foldl (fun acc p => acc ++ (txt a).cps ++ p.cps) (txt x).cps⟩ : Str) = _
    rw [h]
    simp [txt, jnL]
def joinSz (a : List Sg) (xs : List (List Sg)) : Bool := decide ((xs.map (·.length)).sum + xs.length * a.length ≤ 1000000)
def joinF (S : Sto) (o : T) (ys : List T) : Option T := match o, ys with
  | .str a, [y] => match res S y with
    | .lst ts => match strsOf ts with
      | some xs => if joinSz a xs = true then some (.str (jnL a xs)) else none
      | none => none
    | .tup ts => match strsOf ts with
      | some xs => if joinSz a xs = true then some (.str (jnL a xs)) else none
      | none => none
    | _ => none
  | _, _ => none
theorem mt_joinT : MetT X "str.join" joinF := by
  intro pins s σ H x xs v us Q I rx rs h
  obtain ⟨M, S, tx, ts, t, o, hx, hs, e, fin⟩ := h
  unfold joinF at e
  split at e
  · rename_i a y
    cases hx
    obtain ⟨w, rfl, ry⟩ := hs.one
    have key : ∀ {xs : List (List Sg)} {p : Addr}, joinSz a xs = true → (SqL X.K H p ((xs.map txt).map V.str) ∨ SqT X.K H p ((xs.map txt).map V.str)) → w = .ref p → t = .str (jnL a xs) → wpAny (model X.prog X.w) X.A (call (.builtin "str.join") (v :: us)) (EP X pins σ Q) X.xe s := by
      intro xs p hz hp hw ht
      subst hw ht
      refine mt_join pins s σ H _ _ v us Q I rx rs ⟨txt a, p, xs.map txt, rfl, rfl, hp, ?_, ?_⟩
      · have h1 := of_decide_eq_true hz
        have e1 : ((xs.map txt).map (·.length)).sum = (xs.map (·.length)).sum := by
          rw [List.map_map]
          congr 1
          apply List.map_congr_left
          intro x _
          exact txt_len x
        rw [e1, List.length_map, txt_len]
        omega
      · rw [txt_join]
        exact fin _ H o Ext.refl (.str _)
    split at e
    · rename_i zs hz
      split at e
      · rename_i xs hx
        split at e
        · rename_i hj
          obtain rfl := Option.some.inj e
          obtain ⟨p, ws, rfl, h1, h2⟩ := res_lst o ry hz
          have := strsOf_is hx
          subst this
          have := reps_strs h2
          subst this
          exact key hj (.inl (SqL.of h1)) rfl rfl
        · cases e
      · cases e
    · rename_i zs hz
      split at e
      · rename_i xs hx
        split at e
        · rename_i hj
          obtain rfl := Option.some.inj e
          obtain rfl := res_id hz fun _ z => nomatch z
          cases ry with
          | tup h1 h2 =>
            have := strsOf_is hx
            subst this
            have := reps_strs h2
            subst this
            exact key hj (.inr h1.sq) rfl rfl
        · cases e
      · cases e
    · cases e
  · cases e
def sixF (_ : Sto) (o : T) (ys : List T) : Option T := match o, ys with
  | .str a, [.str b] => match Builtin.Str.occurrences (txt a) (txt b) 0 (txt a).length 1 with
    | i :: _ => some (.int (i : Nat))
    | [] => none
  | _, _ => none
theorem mt_sixT : MetT X "str.index" sixF := by
  intro pins s σ H x xs v us Q I rx rs h
  obtain ⟨M, S, tx, ts, t, o, hx, hs, e, fin⟩ := h
  unfold sixF at e
  split at e
  · rename_i a b
    cases hx
    obtain ⟨w, rfl, ry⟩ := hs.one
    cases ry
    split at e
    · rename_i i rest hi
      obtain rfl := Option.some.inj e
      exact mt_sindex pins s σ H _ _ v us Q I rx rs ⟨_, _, i, rest, rfl, rfl, hi, fin _ H o Ext.refl (.int _)⟩
    · cases e
  · cases e
/-- the first place of z -/
def plc (z : List Sg) : List (List Sg) → Option Nat
  | [] => none
  | x :: xs => if x = z then some 0 else (plc z xs).map (· + 1)
theorem plc_at {z : List Sg} : ∀ {xs : List (List Sg)} {j : Nat}, plc z xs = some j → xs[j]? = some z ∧ ∀ m, m < j → xs[m]? ≠ some z
  | [], _, e => by cases e
  | x :: xs, j, e => by
    unfold plc at e
    split at e
    · rename_i h
      obtain rfl := Option.some.inj e
      subst h
      exact ⟨rfl, fun m h => by omega⟩
    · rename_i h
      obtain ⟨i, h1, rfl⟩ := Option.map_eq_some_iff.mp e
      obtain ⟨a, b⟩ := plc_at h1
      refine ⟨by simpa using a, fun m hm => ?_⟩
      cases m with
      | zero => simp; exact h
      | succ m => simpa using b m (by omega)
def tixF (_ : Sto) (o : T) (ys : List T) : Option T := match o, ys with
  | .tup ts, [.str z] => match strsOf ts with
    | some xs => (plc z xs).map fun j => .int (j : Nat)
    | none => none
  | _, _ => none
theorem mt_tixT : MetT X "tuple.index" tixF := by
  intro pins s σ H x xs v us Q I rx rs h
  obtain ⟨M, S, tx, ts, t, o, hx, hs, e, fin⟩ := h
  unfold tixF at e
  split at e
  · rename_i zs z
    obtain ⟨w, rfl, ry⟩ := hs.one
    cases ry
    split at e
    · rename_i ys hy
      obtain ⟨j, hj, rfl⟩ := Option.map_eq_some_iff.mp e
      have := strsOf_is hy
      subst this
      cases hx with
      | tup a b =>
        have := reps_strs b
        subst this
        obtain ⟨p1, p2⟩ := plc_at hj
        refine mt_tup_index pins s σ H _ _ v us Q I rx rs ⟨_, ys.map txt, txt z, j, rfl, rfl, a.sq, by rw [List.getElem?_map, p1]; rfl, fun m hm e => ?_, fin _ H o Ext.refl (.int _)⟩
        rw [List.getElem?_map] at e
        cases q : ys[m]? with
        | none => rw [q] at e; cases e
        | some y =>
          rw [q] at e
          have := txt_inj (Option.some.inj e)
          subst this
          exact p2 m hm q
    · cases e
  · cases e

/-! ### chained comparisons -/
def cChain (f g : Sto → T → T → Option T) (a b c : TTE) : TTE := fun τ S Q E => a τ S (fun x S1 => b τ S1 (fun y S2 => ∃ k, f S2 x y = some (.bl k) ∧ if k = true then c τ S2 (fun z S3 => ∃ w, g S3 y z = some w ∧ Q w S3) E else Q (.bl false) S2) E) E
variable {a b c : Expr} {tb tc : TTE} {pos : Pos}
theorem chain_read {M : Addr → Prop} {S0 : Sto} {H0 : Hp} {E : T → TEnv → Sto → Prop} {f g : Sto → T → T → Option T} {σ : L2.St} {H : Hp} {Q : VK} {ta : TTE} (h : LE X M S0 H0 (cChain f g ta tb tc) E σ H Q) :
    tChain (fun x y H Q => ∃ M S tx ty t, StoOk (gdOf X M) H S ∧ Rep (gdOf X M) H S tx x ∧ Rep (gdOf X M) H S ty y ∧ f S tx ty = some t ∧ ∀ v H', StoOk (gdOf X M) H' S → Ext S H S H' → Rep (gdOf X M) H' S t v → Q v H')
      (fun x y H Q => ∃ M S tx ty t, StoOk (gdOf X M) H S ∧ Rep (gdOf X M) H S tx x ∧ Rep (gdOf X M) H S ty y ∧ g S tx ty = some t ∧ ∀ v H', StoOk (gdOf X M) H' S → Ext S H S H' → Rep (gdOf X M) H' S t v → Q v H')
      (LE X M S0 H0 ta E) (LE X M S0 H0 tb E) (LE X M S0 H0 tc E) σ H Q := by
  obtain ⟨τ, S, Qt, rel, h, k⟩ := h
  refine ⟨τ, S, _, rel, h, fun zx S1 x H1 hb o1 x1 r1 => ⟨τ, S1, _, rel.step o1 x1, hb, fun zy S2 y H2 ⟨bb, e, hz⟩ o2 x2 r2 => ⟨M, S2, zx, zy, _, o2, Rep.ext x2 _ _ r1, r2, e, fun v H' o3 x3 r3 => ?_⟩⟩⟩
  cases r3
  refine ⟨bb, rfl, ?_⟩
  cases bb with
  | false => exact k _ S2 _ H' hz o3 ((x1.trans x2).trans x3) (.bl _)
  | true =>
    rw [if_pos rfl] at hz ⊢
    exact ⟨τ, S2, _, ((rel.step o1 x1).step o2 x2).step o3 x3, hz, fun zz S4 w H4 ⟨wt, e4, hq⟩ o4 x4 r4 => ⟨M, S4, zy, zz, wt, o4, Rep.ext (x3.trans x4) _ _ r2, r4, e4, fun v H' o5 x5 r5 => k wt S4 v H' hq o5 ((((x1.trans x2).trans x3).trans x4).trans x5) r5⟩⟩
theorem te_chain {op op' : CmpOp} {f g : Sto → T → T → Option T} {ta : TTE} (ho : OpT X (compareOp op) f) (ho' : OpT X (compareOp op') g) (ha : TE X a ta) (hb : TE X b tb) (hc : TE X c tc) (hm : lastMarks [op, op'] [b, c] = false := by with_unfolding_all rfl) :
    TE X (.Compare a [op, op'] [b, c] pos) (cChain f g ta tb tc) := fun M S0 H0 E tk =>
  (pe_chain ho ho' (ha M S0 H0 E tk) (hb M S0 H0 E tk) (hc M S0 H0 E tk) hm).weak fun σ H Q h => chain_read h
theorem tb_chain {op op' : CmpOp} {f g : Sto → T → T → Option T} {ta : TTE} (ho : OpT X (compareOp op) f) (ho' : OpT X (compareOp op') g) (ha : TE X a ta) (hb : TE X b tb) (hc : TE X c tc) (hm : lastMarks [op, op'] [b, c] = false := by with_unfolding_all rfl) :
    TB X (.Compare a [op, op'] [b, c] pos) (bVal (cChain f g ta tb tc)) := fun M S0 H0 E tk =>
  (pt_chain ho ho' (ha M S0 H0 E tk) (hb M S0 H0 E tk) (hc M S0 H0 E tk) hm).weak fun σ H Q ⟨τ, S, Qt, rel, h, k⟩ => chain_read (S0 := S0) (H0 := H0) ⟨τ, S, _, rel, h, fun zx S1 x H1 ⟨b, e, hq⟩ o1 x1 r1 => by
    subst e
    cases r1
    exact ⟨b, rfl, k b S1 H1 hq o1 x1⟩⟩

/-! ### the module's names -/
theorem te_glob {x : Str} {t : T} {v : V} {u : Value} (hg : Gl X x) (hm : X.mg x = some u) (r : RelV v u) (ht : ∀ M H S, Rep (gdOf X M) H S t v) (hd : (x == ("__debug__" : Str)) = false := by decide) : TE X (.Name x pos) (cC t) := te_const (pe_glob hg hm r hd) ht
end
end TL

/-! TLl: defs by their names, the module's constants, specs. -/
namespace TL
open PySem PySem.Spec PyProof.Rows L2

/-- a def of the module by its name keeps its promise -/
def Okf (P : Program) (w : World) (K : PySem.W.Frag) (mg : Str → Option Value) (base : Heap) (k : Nat) (x : Str) (ps : List Str) (sp : SpT) : Prop :=
  ∃ fd, FnOk P w K mg base (L2.CX P w) k (He.ga K x) fd ps (liftSp P K w sp) ∧ mg x = some (.ref (He.ga K x)) ∧ PySem.W.keepIn K (.ref (He.ga K x)) = true ∧ Binds K fd ps []
section
variable {X : Cx} {j k : Nat} {ps : List Str} {sp : SpT} {x : Str} {p pos : Pos} {e : Expr} {es : List Expr} {ta : TTA}
theorem te_callO (F : Okf X.prog X.w X.K X.mg X.base k x ps sp) (hr : Room j X.A) (hkj : k ≤ j) (hg : Gl X x) (ha : TA X (e :: es) ta) (hdb : (x == ("__debug__" : Str)) = false := by decide)
    (he : starEach (e :: es) X.env = (false, eval e X.env) :: starEach es X.env := by rfl) (hpl : (backTo pos (starEach es X.env)).any (·.1) = false := by rfl) : TE X (.Call (.Name x p) (e :: es) [] pos) (cCall sp ta) := by
  obtain ⟨fd, h1, h2, h3, h4⟩ := F
  exact te_call h1 (hr.mono hkj) hg h2 h3 h4 ha hdb he hpl
end
theorem u64 {k : Nat} {A : Around} (r : Room k A) : A.units + 64 < cLine := r.units
theorem u65 {k : Nat} {A : Around} (r : Room k A) : A.units + 65 < cLine := by have := r.un; omega
theorem u70 {k : Nat} {A : Around} (r : Room k A) : A.units + 70 < cLine := by have := r.un; omega

/-! ### the module's constants -/
theorem stT_of {K : PySem.W.Frag} {x : Str} {vs : List He.Dv} (h : He.tupB K x vs = true) : StT K (He.ga K x) (vs.map (He.Dv.v K)) :=
  (He.tupB_ok h (fun _ => none)).resolve_left (by rintro (h | ⟨_, h⟩) <;> cases h)
def noDic (K : PySem.W.Frag) (x : Str) : Bool := match K.lookup (He.ga K x) with
  | some ⟨.type c, none, _, _⟩ => decide (c = "tuple")
  | _ => false
theorem noDic_ok {K : PySem.W.Frag} {x : Str} (h : noDic K x = true) : ∃ ob, K.lookup (He.ga K x) = some ob ∧ ob.cls = .type "tuple" ∧ ob.dict = none := by
  unfold noDic at h
  split at h
  · rename_i q
    exact ⟨_, q, congrArg Value.type (of_decide_eq_true h), rfl⟩
  · cases h
def lits (xs : List Str) : Bool := xs.all fun x => x.cps.toList.all fun c => decide (c < 128)
theorem reps_lits {G : Gd} {H : Hp} {S : Sto} : ∀ {xs : List Str}, lits xs = true → Reps G H S (xs.map fun x => .str (q x)) ((xs.map He.Dv.str).map (He.Dv.v G.K))
  | [], _ => .nil
  | x :: xs, h => by
    simp only [lits, List.all_cons, Bool.and_eq_true] at h
    refine .cons ?_ (reps_lits (xs := xs) (by simpa only [lits] using h.2))
    have e : txt (q x) = x := q_txt fun c hc => of_decide_eq_true (List.all_eq_true.mp h.1 c hc)
    show Rep G H S (.str (q x)) (.str x)
    have := Rep.str (G := G) (H := H) (S := S) (q x)
    rw [e] at this
    exact this
theorem rep_texts {K : PySem.W.Frag} {x : Str} {xs : List Str} (h : He.tupB K x (xs.map He.Dv.str) = true) (hl : lits xs = true) : ∀ (G : Gd) (H : Hp) (S : Sto), G.K = K → Rep G H S (.tup (xs.map fun x => .str (q x))) (.ref (He.ga K x)) := fun G H S e => by
  subst e
  exact .tup (.inr (stT_of h)) (reps_lits hl)

/-! ### specs -/
def sp1 (p : T → Sto → (T → Sto → Prop) → (T → Sto → Prop) → Prop) : SpT := fun ts S Q E => ∃ a, ts = [a] ∧ p a S Q E
def sp2 (p : T → T → Sto → (T → Sto → Prop) → (T → Sto → Prop) → Prop) : SpT := fun ts S Q E => ∃ a b, ts = [a, b] ∧ p a b S Q E
def sp3 (p : T → T → T → Sto → (T → Sto → Prop) → (T → Sto → Prop) → Prop) : SpT := fun ts S Q E => ∃ a b c, ts = [a, b, c] ∧ p a b c S Q E
def sp4 (p : T → T → T → T → Sto → (T → Sto → Prop) → (T → Sto → Prop) → Prop) : SpT := fun ts S Q E => ∃ a b c d, ts = [a, b, c, d] ∧ p a b c d S Q E
def sp5 (p : T → T → T → T → T → Sto → (T → Sto → Prop) → (T → Sto → Prop) → Prop) : SpT := fun ts S Q E => ∃ a b c d e, ts = [a, b, c, d, e] ∧ p a b c d e S Q E
theorem te_globR {X : Cx} {x : Str} {t : T} {p : Addr} {pos : Pos} (hg : Gl X x) (hm : X.mg x = some (.ref p)) (ht : ∀ M H S, Rep (gdOf X M) H S t (.ref p)) (hd : (x == ("__debug__" : Str)) = false := by decide) : TE X (.Name x pos) (cC t) :=
  te_glob hg hm (show RelV (.ref p) (.ref p) from rfl) ht hd
/-- what is to be shown of a def's tree -/
def VC (N : List Str) (sp : SpT) (c : TTS) : Prop := ∀ ts S Q E, sp ts S Q E → c { nx := fun _ S' => Fin Q .non S', rt := Fin Q } (startT N ts) S (fun x _ S' => FinX E x S')
end TL

/-! TLm: what the operations give, as rows to rewrite by; pens and draws. -/
namespace TL
open PySem PySem.Spec PyProof.Rows L2

section
variable {S : Sto} {i j : Int} {x y : List Sg} {xs ys ts : List T} {a b : T} {p : Addr}
theorem ex_ite {α : Type} {c : Prop} [Decidable c] {v : α} {P : α → Prop} : (∃ z, (if c then some v else none) = some z ∧ P z) ↔ c ∧ P v := by
  constructor
  · rintro ⟨z, e, h⟩
    split at e
    · cases e; exact ⟨by assumption, h⟩
    · cases e
  · rintro ⟨h1, h2⟩
    exact ⟨v, if_pos h1, h2⟩
theorem addT_int : addT S (.int i) (.int j) = some (.int (i + j)) := rfl
theorem addT_str : addT S (.str x) (.str y) = if x.length + y.length ≤ sizeLine then some (.str (x ++ y)) else none := rfl
theorem addT_lst : addT S (.lst xs) (.lst ys) = if xs.length + ys.length ≤ sizeLine then some (.lst (xs ++ ys)) else none := rfl
theorem addT_tup : addT S (.tup xs) (.tup ys) = if xs.length + ys.length ≤ sizeLine then some (.tup (xs ++ ys)) else none := rfl
theorem subT_int : subT S (.int i) (.int j) = some (.int (i - j)) := rfl
theorem mulT2_int : mulT2 S (.int i) (.int j) = if mulI i j = true then some (.int (i * j)) else none := rfl
theorem mulT2_str : mulT2 S (.str x) (.int j) = if mulS x j = true then some (.str (repS j.toNat x)) else none := rfl
theorem fdivT_int : fdivT S (.int i) (.int j) = if divI i j = true then some (.int (i.fdiv j)) else none := rfl
theorem modT_int : modT S (.int i) (.int j) = if modI i j = true then some (.int (i.fmod j)) else none := rfl
theorem powT_int : powT S (.int i) (.int j) = if powI i j = true then some (.int (i ^ j.toNat)) else none := rfl
theorem negT_int : negT S (.int i) = some (.int (-i)) := rfl
theorem okd_int : okd (.int i) = true := rfl
theorem okd_str : okd (.str x) = true := rfl
theorem okd_bl {k : Bool} : okd (.bl k) = true := rfl
theorem okd_non : okd .non = true := rfl
theorem eqT_int : eqT S (.int i) (.int j) = some (.bl (decide (i = j))) := rfl
theorem neT_int : neT S (.int i) (.int j) = some (.bl (!decide (i = j))) := rfl
theorem eqT_str : eqT S (.str x) (.str y) = some (.bl (decide (x = y))) := rfl
theorem neT_str : neT S (.str x) (.str y) = some (.bl (!decide (x = y))) := rfl
theorem eqT_bl {k l : Bool} : eqT S (.bl k) (.bl l) = some (.bl (k == l)) := rfl
theorem neT_bl {k l : Bool} : neT S (.bl k) (.bl l) = some (.bl (!(k == l))) := rfl
theorem ltT_int : ltT S (.int i) (.int j) = some (.bl (decide (i < j))) := by simp [ltT, cmpOk, okd, plain, dep, alk, ltt]
theorem gtT_int : gtT S (.int i) (.int j) = some (.bl (decide (j < i))) := by simp [gtT, cmpOk, okd, plain, dep, alk, ltt]
theorem leT_int : leT S (.int i) (.int j) = some (.bl (decide (i ≤ j))) := by
  simp only [leT, cmpOk, okd, plain, dep, alk, ltt, Bool.and_true, Nat.zero_le, decide_true, if_true, Option.some.injEq, T.bl.injEq]
  by_cases h : i ≤ j
  · rw [decide_eq_true h, decide_eq_false (by omega)]; rfl
  · rw [decide_eq_false h, decide_eq_true (by omega)]; rfl
theorem geT_int : geT S (.int i) (.int j) = some (.bl (decide (j ≤ i))) := by
  simp only [geT, cmpOk, okd, plain, dep, alk, ltt, Bool.and_true, Nat.zero_le, decide_true, if_true, Option.some.injEq, T.bl.injEq]
  by_cases h : j ≤ i
  · rw [decide_eq_true h, decide_eq_false (by omega)]; rfl
  · rw [decide_eq_false h, decide_eq_true (by omega)]; rfl
theorem ixT_lst : ixT S (.lst xs) (.int i) = L2.atI xs i := rfl
theorem ixT_tup : ixT S (.tup xs) (.int i) = L2.atI xs i := rfl
theorem ixT_str : ixT S (.str x) (.int i) = if x.length ≤ sizeLine then (L2.atI x i).map fun c => .str [c] else none := rfl
theorem res_ref {ts : List T} (h : S p = some (.lst ts)) : res S (.ref p) = .lst ts := by simp only [res, h]
theorem ixT_ref (h : S p = some (.lst xs)) : ixT S (.ref p) (.int i) = L2.atI xs i := by simp only [ixT, res_ref h]
theorem atI_natE {α : Type} {xs : List α} {n : Nat} : L2.atI xs (n : Int) = xs[n]? := by
  unfold L2.atI ixN
  by_cases h : n < xs.length
  · have : ((n : Int) < (xs.length : Int)) := by omega
    simp [h, this]
  · have h2 : ¬ ((n : Int) < (xs.length : Int)) := by omega
    simp [h, h2]
theorem atI_0 {α : Type} {u : α} {xs : List α} : L2.atI (u :: xs) 0 = some u := atI_natE (n := 0)
theorem atI_1 {α : Type} {u v : α} {xs : List α} : L2.atI (u :: v :: xs) 1 = some v := atI_natE (n := 1)
theorem atI_2 {α : Type} {u v w : α} {xs : List α} : L2.atI (u :: v :: w :: xs) 2 = some w := atI_natE (n := 2)
theorem atI_3 {α : Type} {u v w z : α} {xs : List α} : L2.atI (u :: v :: w :: z :: xs) 3 = some z := atI_natE (n := 3)
theorem ixN_nat {m n : Nat} (h : n < m) : ixN m (n : Int) = some n := by
  unfold ixN
  have : ((n : Int) < (m : Int)) := by omega
  simp [this, h]
theorem ixT_ups {i : Int} : ixT (ups S p (.lst xs)) (.ref p) (.int i) = L2.atI xs i := ixT_ref ups_same
theorem atI_ok {α : Type} {us : List α} {i : Int} (h0 : 0 ≤ i) (h1 : i < us.length) : ∃ y, y ∈ us ∧ L2.atI us i = some y := by
  obtain ⟨n, rfl⟩ := Int.eq_ofNat_of_zero_le h0
  have : n < us.length := by omega
  exact ⟨us[n], List.getElem_mem _, by rw [atI_natE, List.getElem?_eq_getElem this]⟩
theorem atI_strs {us : List (List Sg)} {i : Int} (h0 : 0 ≤ i) (h1 : i < us.length) : L2.atI (us.map T.str) i = some (.str (us.getD i.toNat [])) := by
  obtain ⟨n, rfl⟩ := Int.eq_ofNat_of_zero_le h0
  have h : n < us.length := by omega
  rw [atI_natE, List.getElem?_map, Int.toNat_natCast, List.getElem?_eq_getElem h, List.getD_eq_getElem?_getD, List.getElem?_eq_getElem h]
  rfl
theorem ixN_30 : ixN 3 0 = some 0 := rfl
theorem ixN_31 : ixN 3 1 = some 1 := rfl
theorem ixN_32 : ixN 3 2 = some 2 := rfl
theorem lenF_lst : lenF S [.lst xs] = some (.int xs.length) := rfl
theorem lenF_tup : lenF S [.tup xs] = some (.int xs.length) := rfl
theorem lenF_str : lenF S [.str x] = if x.length ≤ sizeLine then some (.int x.length) else none := rfl
theorem lenF_ref (h : S p = some (.lst xs)) : lenF S [.ref p] = some (.int xs.length) := by simp only [lenF, res_ref h]
theorem lenF_ups : lenF (ups S p (.lst xs)) [.ref p] = some (.int xs.length) := lenF_ref ups_same
theorem absF_int : absF S [.int i] = some (.int (if i < 0 then -i else i)) := rfl
theorem intF_int : intF S [.int i] = some (.int i) := rfl
theorem intF_bl {k : Bool} : intF S [.bl k] = some (.int (if k = true then 1 else 0)) := rfl
theorem max2F_int : max2F S [.int i, .int j] = some (.int (if j > i then j else i)) := rfl
theorem min2F_int : min2F S [.int i, .int j] = some (.int (if j < i then j else i)) := rfl
theorem strF_int : strF S [.int i] = if i.natAbs.log2 < 1000 then some (.str (strI i)) else none := rfl
theorem isi_str {ks : List Kd} : isiT ks S (.str x) = some (.bl (ks.any fun c => Kd.is .str c)) := rfl
theorem isi_int {ks : List Kd} : isiT ks S (.int i) = some (.bl (ks.any fun c => Kd.is .int c)) := rfl
theorem isi_tup {ks : List Kd} : isiT ks S (.tup xs) = some (.bl (ks.any fun c => Kd.is .tup c)) := rfl
theorem isi_lst {ks : List Kd} : isiT ks S (.lst xs) = some (.bl (ks.any fun c => Kd.is .lst c)) := rfl
theorem slT_lst {lo hi : Option Int} : slT S (.lst xs) lo hi = some (.lst (cutT xs lo hi)) := rfl
theorem slT_tup {lo hi : Option Int} : slT S (.tup xs) lo hi = some (.tup (cutT xs lo hi)) := rfl
theorem slT_str {lo hi : Option Int} : slT S (.str x) lo hi = if x.length ≤ sizeLine then some (.str (cutT x lo hi)) else none := rfl
theorem slT_scr {ns : List Int} {lo hi : Option Int} : slT S (.scr ns) lo hi = some (.lst ((cutT ns lo hi).map T.int)) := rfl
theorem ups_ups {c d : Cell} : ups (ups S p c) p d = ups S p d := by
  funext b
  unfold ups
  split <;> rfl
theorem ups_eq {c : Cell} (h : S p = some c) : ups S p c = S := by
  funext b
  unfold ups
  split
  · rename_i e; subst e; exact h.symm
  · rfl
end

/-! ### specs at their arguments -/
theorem sp1_at {p : T → Sto → (T → Sto → Prop) → (T → Sto → Prop) → Prop} {a : T} {S : Sto} {Q E : T → Sto → Prop} : sp1 p [a] S Q E = p a S Q E := by
  apply propext
  exact ⟨fun ⟨x, e, h⟩ => by cases e; exact h, fun h => ⟨_, rfl, h⟩⟩
theorem sp2_at {p : T → T → Sto → (T → Sto → Prop) → (T → Sto → Prop) → Prop} {a b : T} {S : Sto} {Q E : T → Sto → Prop} : sp2 p [a, b] S Q E = p a b S Q E := by
  apply propext
  exact ⟨fun ⟨x, y, e, h⟩ => by cases e; exact h, fun h => ⟨_, _, rfl, h⟩⟩
theorem sp3_at {p : T → T → T → Sto → (T → Sto → Prop) → (T → Sto → Prop) → Prop} {a b c : T} {S : Sto} {Q E : T → Sto → Prop} : sp3 p [a, b, c] S Q E = p a b c S Q E := by
  apply propext
  exact ⟨fun ⟨x, y, z, e, h⟩ => by cases e; exact h, fun h => ⟨_, _, _, rfl, h⟩⟩
theorem sp4_at {p : T → T → T → T → Sto → (T → Sto → Prop) → (T → Sto → Prop) → Prop} {a b c d : T} {S : Sto} {Q E : T → Sto → Prop} : sp4 p [a, b, c, d] S Q E = p a b c d S Q E := by
  apply propext
  exact ⟨fun ⟨x, y, z, w, e, h⟩ => by cases e; exact h, fun h => ⟨_, _, _, _, rfl, h⟩⟩
theorem sp5_at {p : T → T → T → T → T → Sto → (T → Sto → Prop) → (T → Sto → Prop) → Prop} {a b c d e : T} {S : Sto} {Q E : T → Sto → Prop} : sp5 p [a, b, c, d, e] S Q E = p a b c d e S Q E := by
  apply propext
  exact ⟨fun ⟨x, y, z, w, u, e, h⟩ => by cases e; exact h, fun h => ⟨_, _, _, _, _, rfl, h⟩⟩

/-! ### lengths -/
theorem log2_lt {n k : Nat} (h : n < 2 ^ k) (hk : 0 < k) : n.log2 < k := by
  by_cases h0 : n = 0
  · subst h0; simpa using hk
  · exact (Nat.log2_lt h0).mpr h
theorem strI_len {i : Int} {k : Nat} (h0 : 0 ≤ i) (hk : 1 ≤ k) (h : i < ((10 ^ k : Nat) : Int)) : (strI i).length ≤ k := by
  obtain ⟨n, rfl⟩ := Int.eq_ofNat_of_zero_le h0
  have e := txt_strI (n : Int)
  have l := txt_len (strI (n : Int))
  rw [e] at l
  rw [← l]
  have e2 : Str.ofString (toString (Int.ofNat n)) = ⟨((Nat.toDigits 10 n).map Char.toNat).toArray⟩ := text_ofNat n
  show (Str.ofString (toString (Int.ofNat n))).length ≤ k
  rw [e2]
  show ((Nat.toDigits 10 n).map Char.toNat).toArray.size ≤ k
  rw [List.size_toArray, List.length_map]
  exact digits10_le hk (by omega)
theorem lg_small {i : Int} (h0 : 0 ≤ i) (h : i < 1000000000) : i.natAbs.log2 < 1000 := by
  have := log2_lt (n := i.natAbs) (k := 40) (by omega) (by decide)
  omega
/-! ### slices -/
theorem cut_nn {α : Type} (xs : List α) : cutT xs none none = xs := by
  unfold cutT
  simp [HT.sIx_none]
theorem cut_to {α : Type} (xs : List α) (k : Nat) : cutT xs none (some (k : Int)) = xs.take k := by
  unfold cutT
  rw [HT.sIx_none, HT.sIx_nat, List.drop_zero, Nat.sub_zero]
  by_cases h : k ≤ xs.length
  · rw [Nat.min_eq_left h]
  · rw [Nat.min_eq_right (by omega), List.take_of_length_le (by omega), List.take_of_length_le (by omega)]
theorem cut_from {α : Type} (xs : List α) (k : Nat) : cutT xs (some (k : Int)) none = xs.drop k := by
  unfold cutT
  rw [HT.sIx_none, HT.sIx_nat]
  by_cases h : k ≤ xs.length
  · rw [Nat.min_eq_left h, List.take_of_length_le (by simp)]
  · rw [Nat.min_eq_right (by omega), Nat.sub_self, List.take_zero, List.drop_of_length_le (by omega)]
theorem cut_mid {α : Type} (xs : List α) (j k : Nat) : cutT xs (some (j : Int)) (some (k : Int)) = (xs.drop j).take (k - j) := by
  unfold cutT
  rw [HT.sIx_nat, HT.sIx_nat]
  by_cases h : j ≤ xs.length
  · rw [Nat.min_eq_left h]
    by_cases h2 : k ≤ xs.length
    · rw [Nat.min_eq_left h2]
    · rw [Nat.min_eq_right (by omega), List.take_of_length_le (by simp), List.take_of_length_le (by simp; omega)]
  · have e : min j xs.length = xs.length := by omega
    rw [e, List.drop_of_length_le (Nat.le_refl _), List.drop_of_length_le (by omega)]
    simp
theorem cut_le {α : Type} (xs : List α) (lo : Option Int) (k : Int) (hk : 0 ≤ k) : (cutT xs lo (some k)).length ≤ k.toNat := by
  obtain ⟨n, rfl⟩ := Int.eq_ofNat_of_zero_le hk
  unfold cutT
  rw [HT.sIx_nat, List.length_take, Int.toNat_natCast]
  omega
/-! ### statements in a row -/
theorem seq_assoc {a b u : TTS} : cSeq a (cSeq b u) = cSeq (cSeq a b) u := rfl
theorem seq_cut {t u : TTS} {D : TD} {τ : TEnv} {S : Sto} {E : T → TEnv → Sto → Prop} (P : TEnv → Sto → Prop) (h1 : ∀ N : TEnv → Sto → Prop, (∀ τ' S', P τ' S' → N τ' S') → t { D with nx := N } τ S E) (h2 : ∀ τ' S', P τ' S' → u D τ' S' E) : cSeq t u D τ S E := h1 _ h2
/-! ### loops by an invariant -/
theorem forT_inv {g : TTG} {b : TTS} {gd : Sto → Prop} {D : TD} {E : T → TEnv → Sto → Prop} (I : List T → TEnv → Sto → Prop) (hgd : ∀ xs τ S, I xs τ S → gd S) (hfin : ∀ τ S, I [] τ S → D.nx τ S)
    (hstep : ∀ x xs τ S, I (x :: xs) τ S → ∀ N : TEnv → Sto → Prop, (∀ τ' S', I xs τ' S' → N τ' S') → g x τ S fun τ1 S1 => b { D with nx := N, ct := N, bk := D.nx } τ1 S1 E) : ∀ xs τ S, I xs τ S → forT g b gd D E xs τ S
  | [], τ, S, h => ⟨hgd _ _ _ h, hfin _ _ h⟩
  | x :: xs, τ, S, h => ⟨hgd _ _ _ h, hstep x xs τ S h _ fun τ' S' h' => forT_inv I hgd hfin hstep xs τ' S' h'⟩
theorem compT_inv {g : TTG} {c : TTB} {e : TTE} {own : List Nat} {gd : Sto → Prop} {τ : TEnv} {K : List T → Sto → Prop} (I : List T → List T → Sto → Prop) (hgd : ∀ xs acc S, I xs acc S → gd S) (hz : ∀ x xs acc S, I (x :: xs) acc S → acc.length < sizeLine) (hfin : ∀ acc S, I [] acc S → K acc S)
    (hstep : ∀ x xs acc S, I (x :: xs) acc S → ∀ (R : T → Sto → Prop) (N : Sto → Prop), (∀ y S', I xs (acc ++ [y]) S' → R y S') → (∀ S', I xs acc S' → N S') →
      g x (wipeT τ own) S fun τ1 S1 => c τ1 S1 (fun k S2 => if k = true then e τ1 S2 R (fun _ _ => False) else N S2) (fun _ _ => False)) : ∀ xs acc S, I xs acc S → compT g c e own gd τ K xs acc S
  | [], acc, S, h => ⟨hgd _ _ _ h, hfin _ _ h⟩
  | x :: xs, acc, S, h => ⟨hgd _ _ _ h, hstep x xs acc S h _ _ (fun y S' h' => ⟨hz _ _ _ _ h, compT_inv I hgd hz hfin hstep xs (acc ++ [y]) S' h'⟩) fun S' h' => compT_inv I hgd hz hfin hstep xs acc S' h'⟩
/-- nothing is changed: a filter and a map -/
theorem compT_pure {g : TTG} {c : TTB} {e : TTE} {own : List Nat} {gd : Sto → Prop} {τ : TEnv} {K : List T → Sto → Prop} (p : T → Bool) (f : T → T) {S : Sto} (hgd : gd S) : ∀ (xs acc : List T), acc.length + xs.length ≤ sizeLine → K (acc ++ (xs.filter p).map f) S →
    (∀ x ∈ xs, ∀ (R : T → Sto → Prop) (N : Sto → Prop), (p x = true → R (f x) S) → (p x = false → N S) → g x (wipeT τ own) S fun τ1 S1 => c τ1 S1 (fun k S2 => if k = true then e τ1 S2 R (fun _ _ => False) else N S2) (fun _ _ => False)) →
    compT g c e own gd τ K xs acc S
  | [], acc, _, h, _ => ⟨hgd, by simpa using h⟩
  | x :: xs, acc, hl, h, hs => by
    rw [List.length_cons] at hl
    refine ⟨hgd, hs x List.mem_cons_self _ _ (fun hp => ⟨by omega, ?_⟩) fun hp => ?_⟩
    · refine compT_pure p f hgd xs _ (by rw [List.length_append]; simp; omega) ?_ fun y hy => hs y (List.mem_cons_of_mem _ hy)
      rw [List.filter_cons_of_pos hp] at h
      simpa using h
    · refine compT_pure p f hgd xs _ (by omega) ?_ fun y hy => hs y (List.mem_cons_of_mem _ hy)
      rwa [List.filter_cons_of_neg (by simp [hp])] at h
/-- nothing is changed: a map -/
theorem compT_map {g : TTG} {c : TTB} {e : TTE} {own : List Nat} {gd : Sto → Prop} {τ : TEnv} {K : List T → Sto → Prop} (f : T → T) {S : Sto} {xs : List T} (hgd : gd S) (hl : xs.length ≤ sizeLine) (hk : K (xs.map f) S)
    (hs : ∀ x ∈ xs, ∀ (R : T → Sto → Prop) (N : Sto → Prop), R (f x) S → g x (wipeT τ own) S fun τ1 S1 => c τ1 S1 (fun k S2 => if k = true then e τ1 S2 R (fun _ _ => False) else N S2) (fun _ _ => False)) : compT g c e own gd τ K xs [] S :=
  compT_pure (fun _ => true) f hgd xs [] (by simpa using hl) (by rw [List.filter_eq_self.mpr (fun _ _ => rfl)]; simpa using hk) fun x hx R N h _ => hs x hx R N (h rfl)

/-! ### pens -/
/-- more than enough -/
abbrev big : Nat := 1000000000000000000000000000000
/-- a pen that was drawn from n times at most -/
def PenC (n : Nat) (c : Cell) : Prop := ∃ (ns : List Int) (at_ rest : Int), c = .lst [.lst (ns.map T.int), .int at_, .int rest] ∧ 0 ≤ at_ ∧ at_ ≤ n ∧ 0 ≤ rest ∧ ns.length ≤ 63
theorem PenC.mono {m n : Nat} {c : Cell} (h : PenC m c) (k : m ≤ n) : PenC n c := by
  obtain ⟨ns, at_, rest, e, h1, h2, h3, h4⟩ := h
  exact ⟨ns, at_, rest, e, h1, by omega, h3, h4⟩
theorem mulI_b {i j : Int} (h1 : i.natAbs < 2 ^ 250) (h2 : j.natAbs < 2 ^ 250) : mulI i j = true := by
  unfold mulI
  have a := log2_lt h1 (by decide)
  have b := log2_lt h2 (by decide)
  exact decide_eq_true (by omega)
theorem divI_b {i j : Int} (h1 : 0 < j) (h2 : j < 1073741824) : divI i j = true := by
  unfold divI
  rw [decide_eq_true (by omega), decide_eq_true (by omega)]
  rfl
theorem modI_b {i j : Int} (h1 : 0 < j) : modI i j = true := by
  unfold modI
  exact decide_eq_true (by omega)
theorem fmod_lo {i j : Int} (h : 0 < j) : 0 ≤ i.fmod j := Int.fmod_nonneg_of_pos i h
theorem fmod_hi {i j : Int} (h : 0 < j) : i.fmod j < j := Int.fmod_lt_of_pos i h
theorem fdiv_lo {i j : Int} (h0 : 0 ≤ i) (h : 0 < j) : 0 ≤ i.fdiv j := Int.fdiv_nonneg h0 (by omega)
end TL

/-! TLn: the law's end over a head by facts, its def told over trees. -/
namespace TL
open PySem PySem.Spec PyProof.Rows L2

theorem law_start {P : Program} {K : PySem.W.Frag} {w : World} {sp : SpT} {H : Hp} {a : Addr} {ns : List Int} (h : sp [.scr ns] (fun _ => none) (fun z _ => z = .bl true) fun _ _ => False) (hO : Only H) (hS : SqL K H a (ns.map V.int)) :
    liftSp P K w sp [.ref a] H (fun v _ => v = .bl true) fun _ _ _ => False := by
  refine ⟨fun _ => False, [T.scr ns], fun _ => none, fun z _ => z = T.bl true, fun _ _ => False, .cons (.scr ?_) .nil, ⟨fun a c e => (nomatch e), fun _ m => False.elim m, fun _ m => False.elim m⟩, h, fun z S' v H' e _ _ r => ?_, fun x S' cls d H' q => False.elim q⟩
  · rcases hS with (hS | ⟨o, hS⟩) | hS
    · rcases hO a with z | ⟨o, xs, z⟩ <;> rw [z] at hS <;> cases hS
    · exact .inl ⟨o, hS, rfl, fun z => z⟩
    · exact .inr hS
  · subst e
    cases r
    rfl
theorem cx_none {P : Program} {w : World} {H : Hp} {s : Shared} {e : Value} {s' : Shared} (h : L2.CX P w [] H s (fun _ _ _ => False) e s') : False := by
  obtain ⟨_, _, _, _, _, _, _, _, _, _, _, _, z⟩ := h
  exact z
/-- the law's def keeps its promise: the law holds -/
theorem walk_tl {l : PySem.W.OpenLaw} {k : Nat} {q : Program} {loose : List Str} {XP : (Str → Option Value) → Heap → Prop} {YP : World → Heap → Prop} {d : DefRec} {x y : Str} {sp : SpT}
    (hn : l.most = some 63) (hdf : d.params.defaults = []) (hr : Room k callerA) (hd : d.name = y) (hs : ∀ ns : List Int, ns.length ≤ 63 → sp [.scr ns] (fun _ => none) (fun z _ => z = .bl true) fun _ _ => False)
    (F : ∀ (w : World) (mg : Str → Option Value) (h : Heap), YP w h → h.Ns mainGlobals mg → ∃ K : PySem.W.Frag, K.In h ∧ mg y = some (.ref (He.ga K y)) ∧
      ∃ fd : FuncData, (∀ (s : Shared) (u : Value), BindsTo s fd ⟨[u], []⟩ [(x, u)]) ∧ ∀ base : Heap, K.In base → base.Ns mainGlobals mg → FnOk l.prog w K mg base (L2.CX l.prog w) k (He.ga K y) fd [x] (liftSp l.prog K w sp)) :
    PySem.W.WalkO q loose XP YP l.row.toRowW d [] (fun f vs => PySem.call f vs) := by
  subst hd
  refine Att.attach_call hn hdf fun w s₀ s₁ mg mb fa o pm cd doc a vs ns G Y ho hd hcd hmg hobj hints hlen hg => ?_
  obtain ⟨K, KX, hm, fd, hb, hF⟩ := F w mg _ Y G.T.g
  cases hmg.symm.trans hm
  exact law_call KX G.T.g G.T.b G.T.builtins G.T.nolimit hg hobj hints (Nat.le_trans hlen (by decide)) hr hF hb (fun H hO hS => law_start (hs ns hlen) hO hS) fun H e s' => cx_none
/-- a row of facts, one by its place -/
theorem all_at {bs : List Bool} (h : bs.all id = true) (i : Nat) {b : Bool} (e : bs[i]? = some b := by rfl) : b = true := List.all_eq_true.mp h b (List.mem_of_getElem? e)
/-- a def's promise, its binding for a law's call -/
theorem law_def {K : PySem.W.Frag} {x y : Str} {qual : Str} {params : Arguments} {body : List Stmt} {scope : Scope} {fd : FuncData} (F : FunD K y qual params body scope [] [] (He.ga K y) fd)
    (h : ∀ (kV doc pm : Value) (an : Option Addr) (cdv ct : Value) (us : List Value), us.length = 1 → bindArgs (PySem.W.fnOf y qual params body scope .none kV doc pm an cdv ct) ⟨us, []⟩ = pure (([x] : List Str).zip us)) (s : Shared) (u : Value) : BindsTo s fd ⟨[u], []⟩ [(x, u)] :=
  (FunD.bindsA (ps := [x]) F h) s [u] rfl
end TL

/-! TLs: sets of keys: what a set holds while it is filled; tuples by its table. -/
namespace TL
open PySem PySem.Spec PyProof.Rows L2

section
variable {P : Program} {w : World}
/-- is of no class statement, n deep -/
def NoCls (P : Program) (w : World) (n : Nat) (s : Shared) (v : Value) : Prop := ∀ (A : Around) (E : Value → Shared → Prop) (Q : Bool → Shared → Prop), Q false s → wpAny (model P w) A (ofAClassStatement n v) Q E s
/-- the question of the hash is answered, somehow -/
def HashBy (P : Program) (w : World) (n : Nat) (s : Shared) (v : Value) : Prop := ∀ (A : Around) (E : Value → Shared → Prop) (Q : Bool → Shared → Prop), (∀ b, Q b s) → wpAny (model P w) A (hashByValue n v) Q E s
theorem NoCls.row {n : Nat} {s : Shared} {b : Addr} {o : Obj} {us : Array Value} {m : Nat} (h1 : s.heap.get? b = some o) (h2 : o.cls = .type "tuple") (h3 : o.data = .seq us m) (hq : ∀ u ∈ us.toList, NoCls P w n s u) : NoCls P w (n + 1) s (.ref b) := fun A E Q h => by
  have ty : s.TypeIs (.ref b) "tuple" := ⟨o, h1, h2⟩
  have same : (("tuple" : String) == "tuple") = true := by decide
  unfold ofAClassStatement
  refine wpAny_bind (wpAny_typeOf ty ?_)
  simp only [same, if_true]
  first | refine wpAny_bind (wpAny_pure ?_) | skip
  simp only [Bool.not_true, Bool.false_eq_true, if_false]
  refine wpAny_bind (wpAny_seqItems h1 h3 ?_)
  refine wpAny_bind ?_
  show wpAny _ _ (forIn us _ _) _ _ s
  rw [← Array.forIn_toList]
  refine wpAny_forIn_list _ (fun more z s' => z.1 = none ∧ s' = s ∧ ∀ u ∈ more, NoCls P w n s u) _ ?_ ?_ _ _ ⟨rfl, rfl, hq⟩
  · rintro u more z s' ⟨hz, rfl, all⟩
    refine wpAny_bind (all u List.mem_cons_self _ _ _ ?_)
    simp only [Bool.false_eq_true, if_false]
    exact wpAny_pure ⟨rfl, rfl, fun y hy => all y (List.mem_cons_of_mem _ hy)⟩
  · rintro ⟨z1, z2⟩ s' ⟨hz, rfl, _⟩
    obtain rfl : z1 = none := hz
    exact wpAny_pure h
theorem HashBy.row {n : Nat} {s : Shared} {b : Addr} {o : Obj} {us : Array Value} {m : Nat} (h1 : s.heap.get? b = some o) (h2 : o.cls = .type "tuple") (h3 : o.data = .seq us m) (hq : ∀ u ∈ us.toList, HashBy P w n s u) : HashBy P w (n + 1) s (.ref b) := fun A E Q h => by
  have ty : s.TypeIs (.ref b) "tuple" := ⟨o, h1, h2⟩
  unfold hashByValue
  refine wpAny_bind (wpAny_specialOf ty F.slot_tuple_hash.lookup ?_)
  show wpAny _ _ (seqItems? (.ref b) >>= _) _ _ s
  refine wpAny_bind (wpAny_seqItems h1 h3 ?_)
  refine wpAny_bind ?_
  show wpAny _ _ (forIn us _ _) _ _ s
  rw [← Array.forIn_toList]
  refine wpAny_forIn_list _ (fun more z s' => z.1 = none ∧ s' = s ∧ ∀ u ∈ more, HashBy P w n s u) _ ?_ ?_ _ _ ⟨rfl, rfl, hq⟩
  · rintro u more z s' ⟨hz, rfl, all⟩
    refine wpAny_bind (all u List.mem_cons_self _ _ _ fun c => ?_)
    cases c with
    | true =>
      simp only [Bool.not_true, Bool.false_eq_true, if_false]
      exact wpAny_pure ⟨rfl, rfl, fun y hy => all y (List.mem_cons_of_mem _ hy)⟩
    | false =>
      simp only [Bool.not_false, if_true]
      exact wpAny_pure (wpAny_pure (h false))
  · rintro ⟨z1, z2⟩ s' ⟨hz, rfl, _⟩
    obtain rfl : z1 = none := hz
    exact wpAny_pure (h true)
mutual
theorem noCls_key : ∀ (k : NestedKey) (v : Value) (n : Nat) (s : Shared), NestedIs s.heap k v → k.depth ≤ n → NoCls P w n s v
  | .none, _, n, s, x, _ => by cases x; intro A E Q h; cases n <;> exact wpAny_pure h
  | .num _, _, n, s, x, _ => by cases x <;> (intro A E Q h; cases n <;> exact wpAny_pure h)
  | .text _, _, n, s, x, _ => by cases x; intro A E Q h; cases n <;> exact wpAny_pure h
  | .tup ks, _, n, s, x, hn => by
    cases x with
    | tup h1 h2 h3 h4 =>
      simp only [NestedKey.depth] at hn
      cases n with
      | zero => omega
      | succ n => exact .row h1 h2 h3 (noCls_keys ks _ n s h4 (by omega))
theorem noCls_keys : ∀ (ks : List NestedKey) (vs : List Value) (n : Nat) (s : Shared), NestedAll s.heap ks vs → NestedKey.depthAll ks ≤ n → ∀ v ∈ vs, NoCls P w n s v
  | [], _, _, _, x, _, v, hv => by cases x; cases hv
  | k :: ks, _, n, s, x, hn, v, hv => by
    cases x with
    | cons x1 x2 =>
      simp only [NestedKey.depthAll] at hn
      rcases List.mem_cons.mp hv with e | hv
      · subst e; exact noCls_key k _ n s x1 (by omega)
      · exact noCls_keys ks _ n s x2 (by omega) v hv
end
mutual
theorem hashBy_key : ∀ (k : NestedKey) (v : Value) (n : Nat) (s : Shared), NestedIs s.heap k v → k.depth ≤ n → HashBy P w n s v
  | .none, _, n, s, x, _ => by cases x; intro A E Q h; cases n <;> exact wpAny_pure (h _)
  | .num _, _, n, s, x, _ => by cases x <;> (intro A E Q h; cases n <;> exact wpAny_pure (h _))
  | .text _, _, n, s, x, _ => by cases x; intro A E Q h; cases n <;> exact wpAny_pure (h _)
  | .tup ks, _, n, s, x, hn => by
    cases x with
    | tup h1 h2 h3 h4 =>
      simp only [NestedKey.depth] at hn
      cases n with
      | zero => omega
      | succ n => exact .row h1 h2 h3 (hashBy_keys ks _ n s h4 (by omega))
theorem hashBy_keys : ∀ (ks : List NestedKey) (vs : List Value) (n : Nat) (s : Shared), NestedAll s.heap ks vs → NestedKey.depthAll ks ≤ n → ∀ v ∈ vs, HashBy P w n s v
  | [], _, _, _, x, _, v, hv => by cases x; cases hv
  | k :: ks, _, n, s, x, hn, v, hv => by
    cases x with
    | cons x1 x2 =>
      simp only [NestedKey.depthAll] at hn
      rcases List.mem_cons.mp hv with e | hv
      · subst e; exact hashBy_key k _ n s x1 (by omega)
      · exact hashBy_keys ks _ n s x2 (by omega) v hv
end
/-- an element: the tuple at the address is this key -/
def El (h : Heap) (p : NestedKey × Addr) : Prop := NestedIs h p.1 (.ref p.2) ∧ p.1.depth ≤ 8
theorem El.at {h h' : Heap} {p : NestedKey × Addr} (x : El h p) (hk : ∀ b o us n, h.get? b = some o → o.data = .seq us n → h'.get? b = some o) : El h' p := ⟨NestedIs.at hk _ _ x.1, x.2⟩
theorem El.but {h h' : Heap} {p : NestedKey × Addr} {a : Addr} {o : Obj} {es : Array (Int × Value)} {ep : Nat} {t : SetTable} (x : El h p) (h1 : h.get? a = some o) (h2 : o.data = .set es ep t) (sb : Heap.SameBut a h h') : El h' p :=
  x.at fun b u us n g1 g2 => (sb.2 b fun e => by subst e; rw [h1] at g1; cases g1; rw [h2] at g2; cases g2).trans g1
/-- a search among such elements shows nothing -/
theorem el_unseen {A : Around} {E : Value → Shared → Prop} {s : Shared} {p : NestedKey × Addr} {Q : Bool → Shared → Prop} (hp : El s.heap p) {ys : List Value} (hy : ∀ y ∈ ys, ∃ p', y = Value.ref p'.2 ∧ El s.heap p') (h : Q false s) :
    wpAny (model P w) A (searchCouldBeSeen (.ref p.2) ys) Q E s := by
  unfold searchCouldBeSeen
  refine wpAny_bind ?_
  refine wpAny_forIn_list _ (fun more z s' => z.1 = none ∧ s' = s ∧ ∀ y ∈ more, ∃ p', y = Value.ref p'.2 ∧ El s.heap p') _ ?_ ?_ _ _ ⟨rfl, rfl, hy⟩
  · rintro y more z s' ⟨hz, rfl, all⟩
    obtain ⟨p', rfl, hp'⟩ := all y List.mem_cons_self
    have left : ∀ y ∈ more, ∃ p', y = Value.ref p'.2 ∧ El s'.heap p' := fun u hu => all u (List.mem_cons_of_mem _ hu)
    dsimp only
    by_cases hv : (p.2 == p'.2 || (carriedByValue (.ref p.2) && carriedByValue (.ref p'.2))) = true
    · exact wp_if_pos hv (wpAny_pure ⟨rfl, rfl, left⟩)
    · refine wp_if_neg hv (wpAny_bind (quiet_key _ _ 8 _ hp.1 hp.2 _ _ _ ?_))
      simp only [Bool.not_true, Bool.false_eq_true, if_false]
      refine wpAny_bind (quiet_key _ _ 8 _ hp'.1 hp'.2 _ _ _ ?_)
      simp only [Bool.not_true, Bool.false_eq_true, if_false]
      refine wpAny_bind (noCls_key _ _ 8 _ hp.1 hp.2 _ _ _ ?_)
      simp only [Bool.false_eq_true, if_false]
      refine wpAny_bind (noCls_key _ _ 8 _ hp'.1 hp'.2 _ _ _ ?_)
      simp only [Bool.false_eq_true, if_false]
      exact wpAny_pure ⟨rfl, rfl, left⟩
  · rintro ⟨z1, z2⟩ s' ⟨hz, rfl, _⟩
    obtain rfl : z1 = none := hz
    exact wpAny_pure h

/-! ### a set of tuples by its table -/
abbrev hw (w : World) (p : NestedKey × Addr) : Int := p.1.hash w
def rowS (w : World) (L : List (NestedKey × Addr)) : List (Int × Value) := L.map fun p => (hw w p, Value.ref p.2)
structure TabS (w : World) (h : Heap) (a : Addr) (L : List (NestedKey × Addr)) (es : Array (Int × Value)) (ep : Nat) (t : SetTable) : Prop where
  obj : ∃ o, h.get? a = some o ∧ o.ExactSet ∧ o.data = .set es ep t
  row : es.toList = rowS w L
  tab : TabOk t (L.map (hw w))
  ndp : (L.map (·.1)).Nodup
  els : ∀ p ∈ L, El h p
  led : w.params.followText "set-order" = true ∨ t.led = true
  gap : L.length * 5 < t.mask * 3
  few : L.length < 64
section
variable {h : Heap} {a : Addr} {L : List (NestedKey × Addr)} {es : Array (Int × Value)} {ep : Nat} {t : SetTable}
theorem row_len (e : es.toList = rowS w L) : es.size = L.length := by
  have := congrArg List.length e
  rwa [rowS, Array.length_toList, List.length_map] at this
theorem row_at (e : es.toList = rowS w L) {i : Nat} {p : NestedKey × Addr} (hp : L[i]? = some p) : es[i]? = some (hw w p, Value.ref p.2) := by
  have : es.toList[i]? = some (hw w p, Value.ref p.2) := by rw [e, rowS, List.getElem?_map, hp]; rfl
  rwa [Array.getElem?_toList] at this
theorem TabS.fits (R : TabS w h a L es ep t) : t.fits es.size = true := by
  have z1 := R.tab.sz
  have z2 := row_len R.row
  have z3 := R.gap
  rw [List.length_map] at z1
  simp only [SetTable.fits, SetTable.fill, R.tab.dm, Bool.and_eq_true, beq_iff_eq, decide_eq_true_eq]
  exact ⟨by omega, by simp; omega⟩
theorem TabS.gw (R : TabS w h a L es ep t) : ¬ t.gaveWay = true := by
  simp only [SetTable.gaveWay, mask_odd R.tab.mok]
  decide
end
/-- the c-th step of a hash's way -/
abbrev pr (m : Nat) (x : Int) (c : Nat) : SetTable.Probe := nth m (runAt m (SetTable.bits x % (m + 1)) (SetTable.bits x)) c
theorem nth_dummy (m : Nat) : ∀ (n : Nat) (p : SetTable.Probe), p.dummy = none → (nth m p n).dummy = none
  | 0, _, h => h
  | n + 1, p, h => nth_dummy m n (adv m p) (by unfold adv; split <;> exact h)
theorem pr_dummy (m : Nat) (x : Int) (c : Nat) : (pr m x c).dummy = none := nth_dummy m c _ rfl
theorem pr_on (m : Nat) (x : Int) (c d : Nat) : nth m (pr m x c) d = pr m x (c + d) := (nth_add m c _ d).symm
section
variable {A : Around} {E : Value → Shared → Prop} {s : Shared} {a : Addr} {L : List (NestedKey × Addr)} {es : Array (Int × Value)} {ep : Nat} {t : SetTable} {p : NestedKey × Addr}
theorem tab_from (R : TabS w s.heap a L es ep t) (hp : El s.heap p) (hu : A.units + 8 < cLine) {K : Nat} (kf : K < 10 * SetTable.turns t.mask) (kn : way t.mask (hw w p) K ∉ t.place.toList) (kb : ∀ c, c < K → way t.mask (hw w p) c ∈ t.place.toList)
    {Q : SetFound → Shared → Prop} (yes : p.1 ∈ L.map (·.1) → Q (.there none) s) (no : p.1 ∉ L.map (·.1) → Q (.free (way t.mask (hw w p) K) false) s) (f : Nat) :
    ∀ (c : Nat) (stand : Option SetTable.Probe), stand.getD (t.probeStart (hw w p)) = pr t.mask (hw w p) c → c ≤ K → K - c < f →
      (∀ (i : Nat) (p' : NestedKey × Addr), L[i]? = some p' → p'.1 = p.1 → ∃ c', c ≤ c' ∧ c' < K ∧ t.place.toList[i]? = some (way t.mask (hw w p) c')) → wpAny (model P w) A (setSearchFrom a (.ref p.2) (hw w p) true f stand) Q E s := by
  induction f with
  | zero => intro c stand _ _ z; exact absurd z (Nat.not_lt_zero _)
  | succ f ih =>
    intro c stand at_ ck fuel near
    obtain ⟨o, g1, g2, g3⟩ := R.obj
    rw [setSearchFrom_succ]
    refine wpAny_bind (wpAny_setState_of g1 g3 R.fits ?_)
    dsimp only
    refine wp_if_neg R.gw ?_
    try refine wpAny_bind (wpAny_pure ?_)
    have ways : ∀ d, (nth t.mask (pr t.mask (hw w p) c) d).j = way t.mask (hw w p) (c + d) := fun d => congrArg SetTable.Probe.j (pr_on _ _ c d)
    have told : ∀ (i : Nat) (p' : NestedKey × Addr), L[i]? = some p' → (fun i => (es[i]?.map (·.1)).getD 0) i = hw w p' := fun i p' z => by
      show (es[i]?.map (·.1)).getD 0 = _
      rw [row_at R.row z]
      rfl
    have spec := go_spec t R.tab.ris R.tab.dm (fun i => (es[i]?.map (·.1)).getD 0) (hw w p) (10 * SetTable.turns t.mask) (K - c) _ (pr_dummy t.mask (hw w p) c) (by omega)
      (fun d hd => by rw [ways]; exact kb _ (by omega)) (by rw [ways, Nat.add_sub_of_le ck]; exact kn)
    rcases spec with ⟨d, i, hd, hi, hh, away, met⟩ | ⟨away, met⟩
    · have met' : t.probe (fun i => (es[i]?.map (·.1)).getD 0) (hw w p) (stand.getD (t.probeStart (hw w p))) = some (.candidate (way t.mask (hw w p) (c + d)) i (pr t.mask (hw w p) (c + (d + 1)))) := by
        rw [at_, ← ways, ← pr_on]
        exact met
      rw [met']
      dsimp only
      rw [ways] at hi
      have il : i < L.length := by
        have z1 : i < t.place.toList.length := (List.getElem?_eq_some_iff.mp hi).1
        have z2 := R.tab.sz
        rw [List.length_map] at z2
        rw [Array.length_toList] at z1
        omega
      obtain ⟨e, he⟩ : ∃ e, L[i]? = some e := ⟨_, List.getElem?_eq_getElem il⟩
      have hm : e ∈ L := List.mem_of_getElem? he
      have live := slot_live R.tab.ris hi
      have go : wpAny (model P w) A (searchRest a (.ref p.2) (hw w p) true f es t (way t.mask (hw w p) (c + d)) i (pr t.mask (hw w p) (c + (d + 1)))) Q E s := by
        unfold searchRest
        rw [row_at R.row he]
        dsimp only
        refine wpAny_bind (wpAny_holding ((nestedKind P w).eqBool hu (R.els e hm) hp ?_))
        refine wpAny_bind (wpAny_setState_of g1 g3 R.fits ?_)
        dsimp only
        by_cases same : e.1 = p.1
        · exact wp_if_pos (by simp [same]) (wpAny_pure (yes (List.mem_map.mpr ⟨e, hm, same⟩)))
        · refine wp_if_neg (by simp [same]) ?_
          try refine wpAny_bind (wpAny_pure ?_)
          rw [sameMem]
          dsimp only
          simp only [if_true, live, row_at R.row he]
          refine wpAny_bind (wpAny_isSame_ref_self (wpAny_bind (wpAny_pure ?_)))
          simp only [if_true]
          refine wp_if_neg (by simp [same]) (ih (c + (d + 1)) _ rfl (by omega) (by omega) fun i' p' hp' hk => ?_)
          obtain ⟨c', b1, b2, b3⟩ := near i' p' hp' hk
          refine ⟨c', ?_, b2, b3⟩
          rcases Nat.lt_trichotomy c' (c + d) with z | z | z
          · refine absurd ?_ (away (c' - c) i' (by omega) (by rw [ways, Nat.add_sub_of_le b1]; exact b3))
            exact (told i' p' hp').trans (congrArg (NestedKey.hash w) hk)
          · subst z
            have live' := slot_live R.tab.ris b3
            rw [live] at live'
            injection live' with z
            subst z
            rw [he] at hp'
            cases hp'
            exact absurd hk same
          · omega
      by_cases hl : t.led = true
      · refine wp_if_neg (by simp [hl]) ?_
        try refine wpAny_bind (wpAny_pure ?_)
        exact go
      · refine wp_if_pos (by simp [hl]) (wpAny_bind (el_unseen hp (fun y hy => ?_) ?_))
        · obtain ⟨r, hr, rfl⟩ := List.mem_map.mp hy
          have hr2 : r ∈ es.toList := by
            have : r ∈ es ∧ r.1 = hw w p := by simpa using hr
            simpa using this.1
          rw [R.row] at hr2
          obtain ⟨p', hp', rfl⟩ := List.mem_map.mp hr2
          exact ⟨p', rfl, R.els p' hp'⟩
        · refine wp_if_neg (by decide) ?_
          try refine wpAny_bind (wpAny_pure ?_)
          exact go
    · have met' : t.probe (fun i => (es[i]?.map (·.1)).getD 0) (hw w p) (stand.getD (t.probeStart (hw w p))) = some (.empty (way t.mask (hw w p) K) none) := by
        have z : way t.mask (hw w p) K = (nth t.mask (pr t.mask (hw w p) c) (K - c)).j := by rw [ways, Nat.add_sub_of_le ck]
        rw [at_, z]
        exact met
      rw [met']
      dsimp only
      refine wpAny_pure (no fun hm => ?_)
      obtain ⟨p', hp', hk⟩ := List.mem_map.mp hm
      obtain ⟨i', hi', e'⟩ := List.getElem_of_mem hp'
      have at' : L[i']? = some p' := by rw [List.getElem?_eq_getElem hi', e']
      obtain ⟨c', b1, b2, b3⟩ := near i' p' at' hk
      refine away (c' - c) i' (by omega) (by rw [ways, Nat.add_sub_of_le b1]; exact b3) ?_
      exact (told i' p' at').trans (congrArg (NestedKey.hash w) hk)
/-- the search as adding asks for it -/
theorem tab_search (R : TabS w s.heap a L es ep t) (hp : El s.heap p) (hu : A.units + 8 < cLine) {Q : SetFound → Shared → Prop} (yes : p.1 ∈ L.map (·.1) → Q (.there none) s)
    (no : ∀ K, p.1 ∉ L.map (·.1) → way t.mask (hw w p) K ∉ t.place.toList → (∀ c, c < K → way t.mask (hw w p) c ∈ t.place.toList) → Q (.free (way t.mask (hw w p) K) false) s) :
    wpAny (model P w) A (setSearch a (.ref p.2) (hw w p) true) Q E s := by
  obtain ⟨K, kf, kn, kb⟩ := R.tab.first (by have := R.gap; rw [List.length_map]; omega) (hw w p)
  have small : K < 100000 := by
    have : 10 * SetTable.turns t.mask ≤ 1420 := by
      simp only [SetTable.turns]
      rcases R.tab.mok with z | z | z <;> omega
    omega
  unfold setSearch
  refine tab_from R hp hu kf kn kb yes (fun z => no K z kn kb) 100000 0 none rfl (Nat.zero_le _) (by omega) fun i p' hp' hk => ?_
  have hi : (L.map (hw w))[i]? = some (hw w p) := by
    rw [List.getElem?_map, hp']
    exact congrArg some (congrArg (NestedKey.hash w) hk)
  have il : i < t.place.toList.length := by
    have z1 : i < L.length := (List.getElem?_eq_some_iff.mp hp').1
    have z2 := R.tab.sz
    rw [List.length_map] at z2
    rw [Array.length_toList]
    omega
  have pl := List.getElem?_eq_getElem il
  obtain ⟨c, hc, e⟩ := R.tab.before kn hi pl
  exact ⟨c, Nat.zero_le _, hc, by rw [pl, e]⟩
/-- the elements in another order -/
theorem row_order {order : Array Nat} (e : es.toList = rowS w L) (hp : order.toList.Perm (List.range L.length)) :
    ∃ L', (order.filterMap (es[·]?)).toList = rowS w L' ∧ L'.Perm L ∧ L'.map (hw w) = order.toList.map fun i => (es.map (·.1)).getD i 0 := by
  have size := row_len e
  have pick : ∀ l : List Nat, (∀ i ∈ l, i < L.length) → l.filterMap (fun i => es[i]?) = rowS w (l.filterMap fun i => L[i]?) ∧ (l.filterMap fun i => L[i]?).map (hw w) = l.map fun i => (es.map (·.1)).getD i 0 := fun l => by
    induction l with
    | nil => exact fun _ => ⟨rfl, rfl⟩
    | cons i l ih =>
      intro all
      obtain ⟨e1, e2⟩ := ih fun j hj => all j (List.mem_cons_of_mem _ hj)
      have il := all i List.mem_cons_self
      obtain ⟨q, hq⟩ : ∃ q, L[i]? = some q := ⟨_, List.getElem?_eq_getElem il⟩
      have ent := row_at e hq
      rw [List.filterMap_cons_some ent, List.filterMap_cons_some hq, e1, List.map_cons, List.map_cons, e2]
      refine ⟨rfl, ?_⟩
      have : (es.map (·.1))[i]? = some (hw w q) := by rw [Array.getElem?_map, ent]; rfl
      simp [Array.getD_eq_getD_getElem?, this]
  obtain ⟨e1, e2⟩ := pick order.toList fun i hi => List.mem_range.mp (hp.mem_iff.mp hi)
  refine ⟨_, by simpa using e1, ?_, e2⟩
  refine (hp.filterMap _).trans ?_
  have whole : ∀ n, n ≤ L.length → (List.range n).filterMap (fun i => L[i]?) = L.take n := fun n => by
    induction n with
    | zero => exact fun _ => rfl
    | succ n ih =>
      intro hn
      have q := List.getElem?_eq_getElem (show n < L.length from hn)
      rw [List.range_succ, List.filterMap_append, ih (by omega), List.take_succ, q, List.filterMap_cons_some q]
      rfl
  rw [whole _ (Nat.le_refl _), List.take_length]
/-- the table laid anew, larger -/
theorem tab_relay {o : Obj} (g1 : s.heap.get? a = some o) (g2 : o.ExactSet) (g3 : o.data = .set es ep t) (rw_ : es.toList = rowS w L) (pl : t.place.size = es.size) (dm : t.dummies = #[]) (fl : es.size ≤ t.mask) (nd : (L.map (·.1)).Nodup) (els : ∀ p ∈ L, El s.heap p)
    (led : w.params.followText "set-order" = true ∨ t.led = true) (few : L.length < 64) {wanted M : Nat} (hW : SetTable.sizeAbove wanted - 1 = M) (hM : MaskOk M) (hz : SetTable.sizeAbove wanted ≤ 128) (gap : L.length * 5 < M * 3) {Q : Unit → Shared → Prop}
    (hQ : ∀ h' L' es' ep' t', Heap.SameBut a s.heap h' → TabS w h' a L' es' ep' t' → L'.Perm L → Q () { s with heap := h' }) : wpAny (model P w) A (setRelay a wanted) Q E s := by
  have size := row_len rw_
  have fits : t.fits es.size = true := by
    simp only [SetTable.fits, SetTable.fill, dm, Bool.and_eq_true, beq_iff_eq, decide_eq_true_eq]
    exact ⟨pl, by simp; omega⟩
  obtain ⟨t', order, q1, q2, q3, q4, q5, q6, q7⟩ := relaid_ok t (hs := es.map (·.1)) (wanted := wanted) hW hM (by rw [Array.size_map]; omega)
  rw [Array.size_map, size] at q2
  obtain ⟨L', r1, r2, r3⟩ := row_order rw_ q2
  rw [← r3] at q3
  have size' : (order.filterMap (es[·]?)).size = es.size := by rw [row_len r1, r2.length_eq, size]
  have sl := sizeLine_eq
  rw [setRelay_eq]
  refine wpAny_bind (wpAny_setState_of g1 g3 fits ?_)
  dsimp only
  refine wp_if_neg (by omega) ?_
  try refine wpAny_bind (wpAny_pure ?_)
  rw [q1]
  dsimp only
  refine wpAny_bind (wp_if_neg (by rw [size']; simp) ?_)
  try refine wpAny_bind (wpAny_pure ?_)
  refine wpAny_pure ?_
  dsimp only
  refine wpAny_storeSet_of g1 g3 ?_ (by omega)
  have sb : Heap.SameBut a s.heap (s.heap.update a (Obj.putSet (order.filterMap (es[·]?)) t')) := Heap.SameBut.update ..
  refine hQ _ L' _ (ep + 1) t' sb ⟨⟨_, store_at g1 g3, ⟨g2.1, g2.2.1, g2.2.2⟩, rfl⟩, r1, q3, (r2.map (·.1)).nodup_iff.mpr nd, fun p hp => (els p (r2.mem_iff.mp hp)).but g1 g3 sb, by rw [q5]; exact led, ?_, by rw [r2.length_eq]; exact few⟩ r2
  rw [r2.length_eq, q4]
  exact gap
/-- one more is put in -/
theorem tab_add (R : TabS w s.heap a L es ep t) (hp : El s.heap p) (hu : A.units + 8 < cLine) (few : L.length + 1 < 64) {Q : Bool → Shared → Prop}
    (hQ : ∀ b h' L' es' ep' t', Heap.SameBut a s.heap h' → TabS w h' a L' es' ep' t' → (p.1 ∈ L.map (·.1) → L' = L) → (p.1 ∉ L.map (·.1) → L'.Perm (p :: L)) → Q b { s with heap := h' }) :
    wpAny (model P w) A (setAddHashed a (.ref p.2) (hw w p)) Q E s := by
  obtain ⟨o, g1, g2, g3⟩ := R.obj
  have size := row_len R.row
  have gap := R.gap
  have sl := sizeLine_eq
  unfold setAddHashed
  refine wpAny_holding ?_
  rw [show (100000 : Nat) = 99999 + 1 from rfl, setAddHashedIn_succ]
  refine wpAny_bind (wpAny_setState_of g1 g3 R.fits ?_)
  dsimp only
  refine wp_if_neg (by simp [byScan, Value.scannable]) ?_
  try refine wpAny_bind (wpAny_pure ?_)
  refine wpAny_bind (tab_search R hp hu (fun hm => ?_) fun K hm hK hb => ?_)
  · dsimp only
    exact wpAny_pure (hQ false s.heap L es ep t (Heap.SameBut.refl a s.heap) R (fun _ => rfl) fun z => absurd hm z)
  dsimp only
  refine wpAny_bind (wpAny_setState_of g1 g3 R.fits ?_)
  dsimp only
  obtain ⟨q1, q2, q3, q4, q5, q6, q7, q8, q9⟩ := R.tab.put hK hb
  generalize hpt : t.put (way t.mask (hw w p) K) = pt at q1 q3 q4 q5 q6 q7 q8 q9 ⊢
  obtain ⟨t1, j⟩ := pt
  dsimp only at q1 q3 q4 q5 q6 q7 q8 q9 ⊢
  subst q1
  have new : (SetTable.insertAt es (SetTable.below t.place (way t.mask (hw w p) K)) (hw w p, Value.ref p.2)).toList = rowS w (L.take (SetTable.below t.place (way t.mask (hw w p) K)) ++ p :: L.drop (SetTable.below t.place (way t.mask (hw w p) K))) := by
    rw [SetTable.toList_insertAt, R.row]
    simp only [rowS, List.map_append, List.map_cons, List.map_take, List.map_drop]
  generalize hj : SetTable.below t.place (way t.mask (hw w p) K) = j at q2 q3 new ⊢
  have pm := put_perm L j p
  have tab1 : TabOk t1 ((L.take j ++ p :: L.drop j).map (hw w)) := by
    rw [List.map_append, List.map_cons, List.map_take, List.map_drop]
    exact q3
  generalize SetTable.insertAt es j (hw w p, Value.ref p.2) = es1 at new ⊢
  generalize L.take j ++ p :: L.drop j = L1 at pm tab1 new
  have len1 : L1.length = L.length + 1 := pm.length_eq
  have size1 := row_len new
  have nd1 : (L1.map (·.1)).Nodup := (pm.map (·.1)).nodup_iff.mpr (by rw [List.map_cons]; exact List.nodup_cons.mpr ⟨hm, R.ndp⟩)
  have led1 : w.params.followText "set-order" = true ∨ t1.led = true := by rw [q5]; exact R.led
  /- whatever is told of the hash -/
  have rest : ∀ t2 : SetTable, TabOk t2 (L1.map (hw w)) → t2.mask = t.mask → t2.led = t1.led → t2.place = t1.place → t2.dummies = t1.dummies → wpAny (model P w) A (do
        storeSet a es1 t2
        if (!false && t2.tooFull) = true then do
            setRelay a (SetTable.grown (es.size + 1))
            pure true
          else pure true) Q E s := fun t2 tab2 m2 l2 p2 d2 => by
    refine wpAny_bind (wpAny_storeSet_of g1 g3 ?_ (by omega))
    have sb : Heap.SameBut a s.heap (s.heap.update a (Obj.putSet es1 t2)) := Heap.SameBut.update ..
    have k1 := store_at (es' := es1) (t' := t2) g1 g3
    generalize s.heap.update a (Obj.putSet es1 t2) = h1 at sb k1 ⊢
    have els1 : ∀ q ∈ L1, El h1 q := fun q hq => by
      rcases List.mem_cons.mp (pm.mem_iff.mp hq) with e | hq
      · subst e; exact hp.but g1 g3 sb
      · exact (R.els q hq).but g1 g3 sb
    have fill2 : t2.fill = L1.length := by
      have := tab2.sz
      rw [List.length_map] at this
      simp only [SetTable.fill, tab2.dm]
      simp [this]
    by_cases full : t2.tooFull = true
    · have much : (L.length + 1) * 5 ≥ t.mask * 3 := by
        have := full
        simp only [SetTable.tooFull, decide_eq_true_eq, fill2, len1, m2] at this
        exact this
      have two : (t.mask = 7 ∧ L.length = 4) ∨ (t.mask = 31 ∧ L.length = 18) := by
        rcases R.tab.mok with e | e | e
        · exact .inl ⟨e, by rw [e] at much gap; omega⟩
        · exact .inr ⟨e, by rw [e] at much gap; omega⟩
        · rw [e] at much; omega
      have go : ∀ M, SetTable.sizeAbove (SetTable.grown (L.length + 1)) - 1 = M → MaskOk M → SetTable.sizeAbove (SetTable.grown (L.length + 1)) ≤ 128 → (L.length + 1) * 5 < M * 3 →
          wpAny (model P w) A (setRelay a (SetTable.grown (es.size + 1))) (fun _ s' => wpAny (model P w) A (pure true) Q E s') E { s with heap := h1 } := fun M z1 z2 z3 z4 => by
        rw [size]
        refine tab_relay (s := { s with heap := h1 }) k1 ⟨g2.1, g2.2.1, g2.2.2⟩ rfl new (by rw [size1]; have := tab2.sz; rwa [List.length_map] at this) tab2.dm (by rw [size1, len1, m2]; rcases two with ⟨e, e2⟩ | ⟨e, e2⟩ <;> omega) nd1 els1 (by rw [l2]; exact led1) (by rw [len1]; exact few) z1 z2 z3 (by rw [len1]; exact z4) ?_
        exact fun h2 L2 es2 ep2 t3 sb2 R2 pm2 => wpAny_pure (hQ true h2 L2 es2 ep2 t3 (sb.trans sb2) R2 (fun z => absurd z hm) fun _ => pm2.trans pm)
      refine wp_if_pos (by simp [full]) (wpAny_bind ?_)
      rcases two with ⟨_, e⟩ | ⟨_, e⟩
      · exact go 31 (by rw [e, size_20]) (.inr (.inl rfl)) (by rw [e, size_20]; decide) (by omega)
      · exact go 127 (by rw [e, size_76]) (.inr (.inr rfl)) (by rw [e, size_76]; decide) (by omega)
    · refine wp_if_neg (by simp [full]) (wpAny_pure ?_)
      refine (hQ true h1 L1 es1 (ep + 1) t2 sb ⟨⟨_, k1, ⟨g2.1, g2.2.1, g2.2.2⟩, rfl⟩, new, tab2, nd1, els1, by rw [l2]; exact led1, ?_, by rw [len1]; exact few⟩ (fun z => absurd z hm) fun _ => pm)
      have := full
      simp only [SetTable.tooFull, decide_eq_true_eq, fill2, len1, m2] at this
      rw [len1, m2]
      omega
  have off : TabOk { t1 with plain := false } (L1.map (hw w)) := ⟨tab1.ris, tab1.dm, tab1.sz, tab1.mok, tab1.bd, tab1.reach⟩
  have both : ∀ b : Bool, wpAny (model P w) A (do
        storeSet a es1 (if b = true then t1 else { t1 with plain := false })
        if (!false && (if b = true then t1 else { t1 with plain := false }).tooFull) = true then do
            setRelay a (SetTable.grown (es.size + 1))
            pure true
          else pure true) Q E s := fun b => by
    cases b with
    | true => exact rest t1 tab1 q4 rfl rfl rfl
    | false => exact rest { t1 with plain := false } off q4 rfl rfl rfl
  by_cases hpl : t1.plain = true
  · exact wp_if_pos hpl (wpAny_bind (hashBy_key _ _ 8 _ hp.1 hp.2 _ _ _ both))
  · exact wp_if_neg hpl (wpAny_bind (wpAny_pure (both true)))
end
end
end TL

/-! TLt: sets of numbers and texts, by scans; a set filled from a list or a tuple. -/
namespace TL
open PySem PySem.Spec PyProof.Rows L2

theorem perm_map {α β : Type} (f : α → β) {l m : List β} (p : l.Perm m) : ∀ L : List α, m = L.map f → ∃ L' : List α, L'.Perm L ∧ l = L'.map f := by
  induction p with
  | nil => exact fun L e => ⟨L, .refl _, e⟩
  | cons x _ ih =>
    intro L e
    cases L with
    | nil => cases e
    | cons y L =>
      rw [List.map_cons] at e
      injection e with e1 e2
      obtain ⟨L', p', e'⟩ := ih L e2
      exact ⟨y :: L', p'.cons y, by rw [List.map_cons, e1, e']⟩
  | swap x y l =>
    intro L e
    match L with
    | [] => cases e
    | [_] => cases e
    | u :: v :: L =>
      rw [List.map_cons, List.map_cons] at e
      injection e with e1 e2
      injection e2 with e2 e3
      exact ⟨v :: u :: L, .swap _ _ _, by rw [List.map_cons, List.map_cons, e1, e2, e3]⟩
  | trans _ _ ih1 ih2 =>
    intro L e
    obtain ⟨L1, p1, e1⟩ := ih2 L e
    obtain ⟨L2, p2, e2⟩ := ih1 L1 e1
    exact ⟨L2, p2.trans p1, e2⟩

section
variable {P : Program} {w : World} {A : Around} {E : Value → Shared → Prop} {s : Shared}
abbrev mk (P : Program) (w : World) := mixKind P w
def rowK (P : Program) (w : World) (p : Key × Value) : Int × Value := ((mk P w).hash p.1, p.2)
def Sc (P : Program) (w : World) (p : Key × Value) : Prop := (mk P w).is p.1 p.2 = true ∧ p.2.scannable = true
structure ScanS (P : Program) (w : World) (h : Heap) (a : Addr) (L : List (Key × Value)) (es : Array (Int × Value)) (ep : Nat) (t : SetTable) : Prop where
  obj : ∃ o, h.get? a = some o ∧ o.ExactSet ∧ o.data = .set es ep t
  row : es.toList = L.map (rowK P w)
  els : ∀ p ∈ L, Sc P w p
  ndp : (L.map (·.1)).Nodup
  few : L.length < scanBound
  fits : t.fits es.size = true
  ris : Ris t.place.toList
  led : w.params.followText "set-order" = true ∨ t.led = true
variable {a : Addr} {L : List (Key × Value)} {es : Array (Int × Value)} {ep : Nat} {t : SetTable} {p : Key × Value}
theorem scan_len (e : es.toList = L.map (rowK P w)) : es.size = L.length := by
  have := congrArg List.length e
  rwa [Array.length_toList, List.length_map] at this
theorem scan_els (e : es.toList = L.map (rowK P w)) (h : ∀ p ∈ L, Sc P w p) : ElemsOf (mk P w) es.toList := fun x hx => by
  rw [e] at hx
  obtain ⟨q, hq, rfl⟩ := List.mem_map.mp hx
  exact ⟨⟨q.1, (h q hq).1, rfl⟩, (h q hq).2⟩
/-- what is laid down behind a new element -/
theorem scan_tail {g : Bool → Sem Unit} (hg : ∀ (b : Bool) (s₁ : Shared) (Q' : Unit → Shared → Prop), Q' () s₁ → wpAny (model P w) A (g b) Q' E s₁) {o : Obj} (g1 : s.heap.get? a = some o) (g2 : o.ExactSet) (g3 : o.data = .set es ep t)
    {es1 : Array (Int × Value)} {t1 : SetTable} {L1 : List (Key × Value)} (row : es1.toList = L1.map (rowK P w)) (els : ∀ p ∈ L1, Sc P w p) (nd : (L1.map (·.1)).Nodup) (few : L1.length < scanBound) (fits : t1.fits es1.size = true) (ris : Ris t1.place.toList)
    (led : w.params.followText "set-order" = true ∨ t1.led = true) {dm : Bool} {R : Option Bool → Shared → Prop}
    (hR : ∀ h' L' es' ep' t', Heap.SameBut a s.heap h' → ScanS P w h' a L' es' ep' t' → L'.Perm L1 → R (some true) { s with heap := h' }) :
    wpAny (model P w) A (do
        storeSet a es1 t1
        if (!dm && t1.tooFull) = true then do
            g (relayAll t1 es1 (SetTable.grown es1.size)).2.2
            storeSet a (relayAll t1 es1 (SetTable.grown es1.size)).1 (relayAll t1 es1 (SetTable.grown es1.size)).2.1
            pure (some true)
          else pure (some true)) R E s := by
  have size := scan_len row
  refine wpAny_bind (wpAny_storeSet_of g1 g3 ?_ (fits_of_scanBound (by omega)))
  have k1 := store_at (es' := es1) (t' := t1) g1 g3
  have sb := Heap.SameBut.update s.heap a (Obj.putSet es1 t1)
  split
  · have pm := relayAll_perm t1 es1 (SetTable.grown es1.size)
    have f2 := relayAll_fits t1 es1 (SetTable.grown es1.size)
    have r2 := relayAll_ris t1 es1 (SetTable.grown es1.size)
    have l2 := relayAll_led t1 es1 (SetTable.grown es1.size)
    generalize relayAll t1 es1 (SetTable.grown es1.size) = Z at pm f2 r2 l2 ⊢
    obtain ⟨es2, t2, gave⟩ := Z
    dsimp only at pm f2 r2 l2 ⊢
    obtain ⟨L2, p2, e2⟩ := perm_map _ pm L1 row
    have size2 := scan_len e2
    have len2 := p2.length_eq
    refine wpAny_bind (hg _ _ _ (wpAny_bind (wpAny_storeSet_of k1 rfl ?_ (fits_of_scanBound (by omega)))))
    have k2 := store_at (es' := es2) (t' := t2) k1 rfl
    exact wpAny_pure (hR _ L2 es2 _ t2 (sb.trans (Heap.SameBut.update _ a _)) ⟨⟨_, k2, g2, rfl⟩, e2, fun q hq => els q (p2.mem_iff.mp hq), (p2.map (·.1)).nodup_iff.mpr nd, by omega, f2, r2, led.imp id fun z => by rw [l2]; exact z⟩ p2)
  · exact wpAny_pure (hR _ L1 es1 _ t1 sb ⟨⟨_, k1, g2, rfl⟩, row, els, nd, few, fits, ris, led⟩ (.refl _))
/-- one more is put in -/
theorem scan_add (R : ScanS P w s.heap a L es ep t) (hp : Sc P w p) (few : L.length + 1 < scanBound) {Q : Bool → Shared → Prop}
    (hQ : ∀ b h' L' es' ep' t', Heap.SameBut a s.heap h' → ScanS P w h' a L' es' ep' t' → (p.1 ∈ L.map (·.1) → L' = L) → (p.1 ∉ L.map (·.1) → L'.Perm (p :: L)) → Q b { s with heap := h' }) :
    wpAny (model P w) A (setAddHashed a p.2 ((mk P w).hash p.1)) Q E s := by
  obtain ⟨o, g1, g2, g3⟩ := R.obj
  have size := scan_len R.row
  have els := scan_els R.row R.els
  unfold setAddHashed setAddHashedIn
  refine wpAny_holding (wpAny_bind (wpAny_setState_of g1 g3 R.fits ?_))
  dsimp only
  rw [byScan_of hp.2 (by rw [size]; exact R.few) els]
  simp only [↓reduceIte]
  unfold setAddByScan
  refine wpAny_bind (wpAny_bind (wpAny_rule (wpAny_bind (wpAny_setScan_of hp.1 g1 g3 R.fits els ?_))))
  have same : ∀ q ∈ L, (mk P w).is p.1 q.2 = true → q.1 = p.1 := fun q hq z => (mk P w).inj q.2 _ _ (R.els q hq).1 z
  cases hf : List.findIdx? (fun e => (mk P w).is p.1 e.2) es.toList with
  | some j =>
    dsimp only
    obtain ⟨hj, pj, _⟩ := List.findIdx?_eq_some_iff_getElem.mp hf
    have hm : es.toList[j] ∈ L.map (rowK P w) := by rw [← R.row]; exact List.getElem_mem hj
    obtain ⟨q, hq, e⟩ := List.mem_map.mp hm
    rw [← e] at pj
    have there : p.1 ∈ L.map (·.1) := List.mem_map.mpr ⟨q, hq, same q hq pj⟩
    exact wpAny_pure (wpAny_pure (hQ false s.heap L es ep t (Heap.SameBut.refl a s.heap) R (fun _ => rfl) fun z => absurd there z))
  | none =>
    dsimp only
    have new : p.1 ∉ L.map (·.1) := fun z => by
      obtain ⟨q, hq, e⟩ := List.mem_map.mp z
      have c := List.findIdx?_eq_none_iff.mp hf (rowK P w q) (by rw [R.row]; exact List.mem_map.mpr ⟨q, hq, rfl⟩)
      rw [← e] at c
      have c2 : (mk P w).is q.1 q.2 = false := c
      rw [(R.els q hq).1] at c2
      cases c2
    have hgw : ∀ (b : Bool) {s₁ : Shared} {Q' : Unit → Shared → Prop}, Q' () s₁ → wpAny (model P w) A (match b with | true => rule "set.scan.the-table-gave-way" | false => pure ()) Q' E s₁ := fun b s₁ Q' z => by
      cases b
      · exact wpAny_pure z
      · exact wpAny_rule z
    have pm := layNew_perm t es ((mk P w).hash p.1) p.2
    have f1 := layNew_fits t es ((mk P w).hash p.1) p.2
    have r1 := layNew_ris t es ((mk P w).hash p.1) p.2 R.ris
    have l1 := layNew_led t es ((mk P w).hash p.1) p.2
    generalize layNew t es ((mk P w).hash p.1) p.2 = Z at pm f1 r1 l1 ⊢
    obtain ⟨es1, t1, dm, gave⟩ := Z
    dsimp only at pm f1 r1 l1 ⊢
    rw [Array.toList_push, R.row] at pm
    obtain ⟨L1, p1, e1⟩ := perm_map (rowK P w) (pm.trans (List.perm_append_singleton _ _)) (p :: L) rfl
    have len1 : L1.length = L.length + 1 := p1.length_eq
    have els1 : ∀ q ∈ L1, Sc P w q := fun q hq => by
      rcases List.mem_cons.mp (p1.mem_iff.mp hq) with z | z
      · subst z; exact hp
      · exact R.els q z
    have nd1 : (L1.map (·.1)).Nodup := (p1.map (·.1)).nodup_iff.mpr (List.nodup_cons.mpr ⟨new, R.ndp⟩)
    have led1 : w.params.followText "set-order" = true ∨ t1.led = true := R.led.imp id fun z => by rw [l1]; exact z
    have fin : ∀ h' L' es' ep' t', Heap.SameBut a s.heap h' → ScanS P w h' a L' es' ep' t' → L'.Perm L1 → Q true { s with heap := h' } := fun h' L' es' ep' t' sb r pm' => hQ true h' L' es' ep' t' sb r (fun z => absurd z new) fun _ => pm'.trans p1
    refine wpAny_bind (hgw _ ?_)
    split
    · refine wpAny_bind ?_
      rw [hashByValue_scannable 8 hp.2]
      refine wpAny_pure (scan_tail ?_ g1 g2 g3 e1 els1 nd1 (by omega) ?_ ?_ ?_ ?_)
      · intro b s₁ Q' z; cases b <;> first | exact wpAny_pure z | exact wpAny_rule z
      · split
        · exact f1
        · exact SetTable.fits_plain_off f1
      · split <;> exact r1
      · split <;> exact led1
      · exact fun h' L' es' ep' t' sb r pm' => wpAny_pure (fin h' L' es' ep' t' sb r pm')
    · refine wpAny_bind (wpAny_pure ?_)
      simp only [↓reduceIte]
      refine scan_tail ?_ g1 g2 g3 e1 els1 nd1 (by omega) f1 r1 led1 ?_
      · intro b s₁ Q' z; cases b <;> first | exact wpAny_pure z | exact wpAny_rule z
      · exact fun h' L' es' ep' t' sb r pm' => wpAny_pure (fin h' L' es' ep' t' sb r pm')
end
end TL

/-! TLu: set(xs): a set filled from a list or a tuple, whatever it is told to hold. -/
namespace TL
open PySem PySem.Spec PyProof.Rows L2

section
variable {P : Program} {w : World} {A : Around} {E : Value → Shared → Prop} {s : Shared}
abbrev newSet (w : World) : Obj := { cls := .type "set", dict := none, data := .set #[] 0 (.fresh 0 0 (!w.params.followText "set-order")) }
/-- how a set at S is filled: Bag i h: it holds the first i things; h0: what stays -/
structure Fills (P : Program) (w : World) (U : Nat) (S : Addr) (h0 : Heap) (n : Nat) (Pv : Nat → Value → Prop) (Bag : Nat → Heap → Prop) : Prop where
  keep : ∀ i h h', Bag i h → (∀ o, h.get? S = some o → h'.get? S = some o) → (∀ b o, h0.get? b = some o → h'.get? b = some o) → Bag i h'
  step : ∀ (A : Around) (i : Nat) (v : Value) (s : Shared) (Q : Bool → Shared → Prop) (E : Value → Shared → Prop), A.units ≤ U → i < n → Pv i v → Bag i s.heap → (∀ b o, h0.get? b = some o → s.heap.get? b = some o) →
    (∀ b h' tk, s.toks ≤ tk → Heap.SameBut S s.heap h' → Bag (i + 1) h' → Q b { s with heap := h', toks := tk }) → wpAny (model P w) A (setAdd S v) Q E s
theorem fill_loop {I : Addr} {fp wr : List Addr} {G : Array GenState → Array GenState → Prop} {n U : Nat} {Pv : Nat → Value → Prop} {St : Nat → Shared → Prop} {R : Result → Shared → Prop} (W : WalksS P w A.in1 I fp wr G n Pv St) {S : Addr} {h0 : Heap} {Bag : Nat → Heap → Prop}
    (FF : Fills P w U S h0 n Pv Bag) (hS : S ∉ fp) (nS : h0.get? S = none) (nw : ∀ b ∈ wr, h0.get? b = none) (hU : A.in1.units ≤ U) (left : Nat) :
    ∀ (i : Nat) (s : Shared), n - i = left → i ≤ n → St i s → (∀ b o, h0.get? b = some o → s.heap.get? b = some o) → Bag i s.heap →
      (∀ s', Moved (S :: wr) G s s' → Bag n s'.heap → (∀ b o, h0.get? b = some o → s'.heap.get? b = some o) → R (.ok (.ret .none)) s') → codeAny (model P w) A (.builtin "set.update.loop" ⟨[.ref S, .ref I], []⟩) R s := by
  have nSw : S ∉ wr := fun z => hS (W.sub _ z)
  have more : ∀ b ∈ wr, b ∈ S :: wr := fun b => List.mem_cons_of_mem S
  have stay : ∀ {x y : Shared}, Moved wr G x y → (∀ b o, h0.get? b = some o → x.heap.get? b = some o) → ∀ b o, h0.get? b = some o → y.heap.get? b = some o := fun mv old b o z =>
    mv.heap b o (fun hb => by rw [nw b hb] at z; cases z) (old b o z)
  induction left with
  | zero =>
    intro i s hl hi st old bag hR
    obtain rfl : i = n := by omega
    refine codeAny_builtin F.entry_set_update_loop ?_
    rw [Around.under_plainId F.plain_set_update_loop _]
    show wpAny _ A.in1 (pyNext (.ref I) >>= _) _ _ s
    refine wpAny_bind (W.done s _ _ st fun s' mv => ?_)
    show wpAny _ A.in1 (ret Value.none) _ _ s'
    exact wpAny_pure (hR s' (mv.mono more) (FF.keep _ _ _ bag (fun o z => mv.heap S o nSw z) (stay mv old)) (stay mv old))
  | succ left ih =>
    intro i s hl hi st old bag hR
    have lt : i < n := by omega
    refine codeAny_builtin F.entry_set_update_loop ?_
    rw [Around.under_plainId F.plain_set_update_loop _]
    show wpAny _ A.in1 (pyNext (.ref I) >>= _) _ _ s
    refine wpAny_bind (W.item i s _ _ lt st fun v s1 hv st1 mv => ?_)
    show wpAny _ A.in1 (holding [v] (setAdd S v) >>= _) _ _ s1
    have old1 := stay mv old
    refine wpAny_bind (wpAny_holding (FF.step _ i v s1 _ _ hU lt hv (FF.keep _ _ _ bag (fun o z => mv.heap S o nSw z) old1) old1 fun b h' tk ht sb bag' => ?_))
    have old2 : ∀ b o, h0.get? b = some o → h'.get? b = some o := fun b o z => (sb.2 b (fun e => by subst e; rw [nS] at z; cases z)).trans (old1 b o z)
    refine wpAny_pure ⟨plainId_quiet F.plain_set_update_loop _, ih (i + 1) _ (by omega) lt (W.frame _ s1 _ _ st1 ht fun b hb o z => (sb.2 b fun e => hS (e ▸ hb)).trans z) old2 bag' fun s2 mv2 bag2 old3 => ?_⟩
    exact hR s2 (Moved.trans W.gtrans ((mv.mono more).then_heap ht fun b o hb z => (sb.2 b fun e => hb (e ▸ List.mem_cons_self)).trans z) mv2) bag2 old3
theorem none_at {h : Heap} {b : Addr} (hb : h.objs.size ≤ b) : h.get? b = none := by
  cases q : h.get? b with
  | none => rfl
  | some o => exact absurd (Heap.lt_size q) (Nat.not_lt.mpr hb)
set_option maxHeartbeats 3200000 in
/-- set(xs), xs of the class T; it: what walks it -/
theorem fill_call {T itc : String} {l : Addr} {items : Array Value} {oT : Obj} (hT : oT.cls = .type T) (sub1 : isSubtype (.type T) (.type "set") = pure false) (sub2 : isSubtype (.type T) (.type "frozenset") = pure false) (nd : (Value.type T == Value.type "dict") = false)
    (hiter : ∀ (A : Around) (E : Value → Shared → Prop) (Q : Value → Shared → Prop) (s : Shared), A.handled = none → s.heap.get? l = some oT → Q (.ref s.heap.objs.size) { s with heap := s.heap.push { cls := .type itc, data := .fields #[.ref l, .int 0 0] } } → wpAny (model P w) A (pyIter (.ref l)) Q E s)
    {St : Addr → Nat → Heap → Prop} (hwalk : ∀ (A : Around) (I : Addr), A.handled = none → l ≠ I → Walks P w A I [I, l] [I] items.size (fun i v => items[i]? = some v) (St I))
    (hst : ∀ (h : Heap) (I : Addr), h.get? I = some { cls := .type itc, dict := none, data := .fields #[.ref l, .int 0 0] } → h.get? l = some oT → St I 0 h)
    {Q : Value → Shared → Prop} (hh : A.handled = none) (hl : s.heap.get? l = some oT) {Bag : Nat → Heap → Prop} (FF : Fills P w A.in1.in1.in1.units s.heap.objs.size s.heap items.size (fun i v => items[i]? = some v) Bag)
    (bag0 : ∀ h : Heap, h.get? s.heap.objs.size = some (newSet w) → (∀ b o, s.heap.get? b = some o → h.get? b = some o) → Bag 0 h)
    (fin : ∀ (h' : Heap) (tk : Nat), Bag items.size h' → (∀ b o, s.heap.get? b = some o → h'.get? b = some o) → Q (.ref s.heap.objs.size) { s with heap := h', toks := tk }) :
    wpAny (model P w) A (call (.type "set") [.ref l]) Q E s := by
  obtain ⟨c, tl, hmro⟩ := F.called_set.mro
  have hmade := F.called_set.made
  have hsub := F.called_set.sub
  refine wpAny_call (codeAny_of_tree ?_)
  show wpAny _ _ (callAny (.type "set") _) _ _ _
  refine wpAny_pure ⟨Code.quiet_builtin _ (by decide +kernel), codeAny_builtin F.entry_type_call ?_⟩
  rw [Around.under_plain (weight_type_call_type "set" [.ref l] []) rfl]
  have h1 := F.called_set.notType
  have h2 := F.called_set.canCreate
  have hct := F.typeCall_set_1 (.ref l)
  repeat (any_goals (first | assumption | wp_step))
  refine codeAny_mono (code_set_led1 (.ref l) (E := E) (Q₁ := fun obj s₁ => obj = .ref s.heap.objs.size ∧ s₁ = { s with heap := s.heap.push (newSet w) }) ⟨rfl, rfl⟩) fun r s₁ hr => ?_
  cases r with
  | error e => exact hr
  | ok fl =>
    cases fl with
    | ret obj =>
      obtain ⟨rfl, rfl⟩ := hr
      have hS : (s.heap.push (newSet w)).get? s.heap.objs.size = some (newSet w) := Heap.get?_push_size _ rfl
      have ty : Shared.TypeIs { s with heap := s.heap.push (newSet w) } (.ref s.heap.objs.size) "set" := ⟨_, hS, rfl⟩
      have hli := F.called_set.init.lookup
      have hbi := F.called_set.init.bind (.ref s.heap.objs.size)
      repeat (any_goals (first | assumption | wp_step))
      refine codeAny_mono (codeAny_call_builtin (R := wants (fun r s₂ => r = .none ∧ ∃ h' tk, s₂ = { s with heap := h', toks := tk } ∧ Bag items.size h' ∧ (∀ b o, s.heap.get? b = some o → h'.get? b = some o)) E)
        F.called_set.init.plain F.entry_set_init (check_set_init_1 ty ?_)) fun r₂ s₂ hr₂ => ?_
      · have hl' : (s.heap.push (newSet w)).get? l = some oT := Heap.get?_push_of_some _ hl
        obtain ⟨oc, od, odt, osl⟩ := oT
        obtain rfl : oc = .type T := hT
        unfold Builtin.«set.__init__» noKeywords Builtin.Frozenset.updateFrom
        generalize hPI : pyIter = PI
        wp_walk
        subst hPI
        have lt : l < s.heap.objs.size := Heap.lt_size hl
        have size : (s.heap.push (newSet w)).objs.size = s.heap.objs.size + 1 := Heap.size_push ..
        refine hiter _ _ _ _ (by simp [hh]) hl' (wpAny_bind (wpAny_runValue ?_))
        refine fill_loop (hwalk _ _ (by simp [hh]) ?_).toS FF ?_ (none_at (Nat.le_refl _)) (fun b hb => none_at ?_) (Nat.le_refl _) (items.size - 0) 0 _ rfl (Nat.zero_le _) ?_ ?_ ?_ ?_
        · show l ≠ (s.heap.push (newSet w)).objs.size
          exact Nat.ne_of_lt (by rw [size]; exact Nat.lt_succ_of_lt lt)
        · show s.heap.objs.size ∉ [(s.heap.push (newSet w)).objs.size, l]
          simp only [List.mem_cons, List.not_mem_nil, or_false, not_or]
          exact ⟨Nat.ne_of_lt (by rw [size]; exact Nat.lt_succ_self _), Nat.ne_of_gt lt⟩
        · have hb' : b = (s.heap.push (newSet w)).objs.size := List.mem_singleton.mp hb
          rw [hb', size]
          omega
        · exact hst _ _ (Heap.get?_push_size _ rfl) (Heap.get?_push_of_some _ hl')
        · exact fun b o z => Heap.get?_push_of_some _ (Heap.get?_push_of_some _ z)
        · exact bag0 _ (Heap.get?_push_of_some _ hS) fun b o z => Heap.get?_push_of_some _ (Heap.get?_push_of_some _ z)
        · intro s' mv bag old
          obtain ⟨h', g', d', tk, os'⟩ := s'
          obtain rfl : g' = s.gens := mv.gens
          obtain rfl : d' = s.drawn := mv.drawn
          obtain rfl : os' = s.os := mv.os
          refine wpAny_pure ?_
          show wpAny _ _ (ret Value.none) _ _ _
          exact wpAny_pure ⟨rfl, h', tk, rfl, bag, old⟩
      · cases r₂ with
        | error e => exact hr₂
        | ok fl₂ =>
          cases fl₂ with
          | ret r =>
            obtain ⟨rfl, h', tk, rfl, bag, old⟩ := hr₂
            repeat (any_goals (first | assumption | wp_step))
            exact fin h' tk bag old
          | _ => exact hr₂.elim
    | _ => exact hr.elim
theorem fill_list {l : Addr} {items : Array Value} {Q : Value → Shared → Prop} (hh : A.handled = none) (hl : s.heap.IsList l items) {Bag : Nat → Heap → Prop} (FF : Fills P w A.in1.in1.in1.units s.heap.objs.size s.heap items.size (fun i v => items[i]? = some v) Bag)
    (bag0 : ∀ h : Heap, h.get? s.heap.objs.size = some (newSet w) → (∀ b o, s.heap.get? b = some o → h.get? b = some o) → Bag 0 h)
    (fin : ∀ (h' : Heap) (tk : Nat), Bag items.size h' → (∀ b o, s.heap.get? b = some o → h'.get? b = some o) → Q (.ref s.heap.objs.size) { s with heap := h', toks := tk }) : wpAny (model P w) A (call (.type "set") [.ref l]) Q E s := by
  obtain ⟨o, h1, h2, n, h3⟩ := hl
  exact fill_call (itc := "list_iterator") h2 F.sub_list_set F.sub_list_frozenset (by decide) (fun A' E' Q' s' hh' hl' q => wpAny_pyIter_list ⟨o, hl', h2, n, h3⟩ q) (fun A' I hh' ne => Walks.list hh' I l ne items) (fun h I z1 z2 => ⟨⟨_, z1, rfl, rfl⟩, ⟨o, z2, h2, n, h3⟩⟩) hh h1 FF bag0 fin
theorem fill_tuple {l : Addr} {items : Array Value} {Q : Value → Shared → Prop} (hh : A.handled = none) (hl : s.heap.IsTuple l items) {Bag : Nat → Heap → Prop} (FF : Fills P w A.in1.in1.in1.units s.heap.objs.size s.heap items.size (fun i v => items[i]? = some v) Bag)
    (bag0 : ∀ h : Heap, h.get? s.heap.objs.size = some (newSet w) → (∀ b o, s.heap.get? b = some o → h.get? b = some o) → Bag 0 h)
    (fin : ∀ (h' : Heap) (tk : Nat), Bag items.size h' → (∀ b o, s.heap.get? b = some o → h'.get? b = some o) → Q (.ref s.heap.objs.size) { s with heap := h', toks := tk }) : wpAny (model P w) A (call (.type "set") [.ref l]) Q E s := by
  obtain ⟨o, h1, h2, n, h3⟩ := hl
  exact fill_call (itc := "tuple_iterator") h2 F.sub_tuple_set F.sub_tuple_frozenset (by decide) (fun A' E' Q' s' hh' hl' q => wpAny_pyIter_tuple ⟨o, hl', h2, n, h3⟩ q) (fun A' I hh' ne => Walks.tuple hh' I l ne items) (fun h I z1 z2 => ⟨⟨_, z1, rfl, rfl⟩, ⟨o, z2, h2, n, h3⟩⟩) hh h1 FF bag0 fin
end
end TL

/-! TLv: sets of trees: sorted(set(xs)), len(set(xs)). -/
namespace TL
open PySem PySem.Spec PyProof.Rows L2

/-! ### trees that are keys, told apart by their keys -/
mutual
def kx : T → Bool
  | .int _ => true
  | .str _ => true
  | .tup ts => kxs ts
  | _ => false
def kxs : List T → Bool
  | [] => true
  | t :: ts => kx t && kxs ts
end
mutual
theorem kx_plain : ∀ t : T, kx t = true → plain t = true
  | .int _, _ => rfl
  | .str _, _ => rfl
  | .tup ts, h => kxs_plain ts h
  | .non, h => by cases h
  | .bl _, h => by cases h
  | .lst _, h => by cases h
  | .ref _, h => by cases h
  | .exc _ _ _, h => by cases h
  | .dct _ _ _, h => by cases h
  | .obj _ _ _, h => by cases h
  | .fn _, h => by cases h
  | .scr _, h => by cases h
theorem kxs_plain : ∀ ts : List T, kxs ts = true → plains ts = true
  | [], _ => rfl
  | t :: ts, h => by
    simp only [kxs, Bool.and_eq_true] at h
    simp only [plains, Bool.and_eq_true]
    exact ⟨kx_plain t h.1, kxs_plain ts h.2⟩
end
mutual
def kf : T → NestedKey
  | .int i => .num i
  | .str x => .text (txt x)
  | .tup ts => .tup (kfs ts)
  | _ => .none
def kfs : List T → List NestedKey
  | [] => []
  | t :: ts => kf t :: kfs ts
end
mutual
theorem kf_inj : ∀ x y : T, kx x = true → kx y = true → kf x = kf y → x = y
  | .int i, y, _, hy, e => by
    cases y with
    | int j => injection e with e; rw [e]
    | str z => cases e
    | tup z => cases e
    | _ => cases hy
  | .str i, y, _, hy, e => by
    cases y with
    | str j => injection e with e; rw [txt_inj e]
    | int z => cases e
    | tup z => cases e
    | _ => cases hy
  | .tup xs, y, hx, hy, e => by
    cases y with
    | tup ys => injection e with e; rw [kfs_inj xs ys hx hy e]
    | int z => cases e
    | str z => cases e
    | _ => cases hy
  | .non, _, h, _, _ => by cases h
  | .bl _, _, h, _, _ => by cases h
  | .lst _, _, h, _, _ => by cases h
  | .ref _, _, h, _, _ => by cases h
  | .exc _ _ _, _, h, _, _ => by cases h
  | .dct _ _ _, _, h, _, _ => by cases h
  | .obj _ _ _, _, h, _, _ => by cases h
  | .fn _, _, h, _, _ => by cases h
  | .scr _, _, h, _, _ => by cases h
theorem kfs_inj : ∀ xs ys : List T, kxs xs = true → kxs ys = true → kfs xs = kfs ys → xs = ys
  | [], [], _, _, _ => rfl
  | [], _ :: _, _, _, e => by cases e
  | _ :: _, [], _, _, e => by cases e
  | x :: xs, y :: ys, hx, hy, e => by
    simp only [kxs, Bool.and_eq_true] at hx hy
    injection e with e1 e2
    rw [kf_inj x y hx.1 hy.1 e1, kfs_inj xs ys hx.2 hy.2 e2]
end
mutual
theorem kf_dep : ∀ t : T, kx t = true → (kf t).depth = dep t
  | .int _, _ => rfl
  | .str _, _ => rfl
  | .tup ts, h => by simp only [kf, NestedKey.depth, dep]; rw [kfs_dep ts h]
  | .non, h => by cases h
  | .bl _, h => by cases h
  | .lst _, h => by cases h
  | .ref _, h => by cases h
  | .exc _ _ _, h => by cases h
  | .dct _ _ _, h => by cases h
  | .obj _ _ _, h => by cases h
  | .fn _, h => by cases h
  | .scr _, h => by cases h
theorem kfs_dep : ∀ ts : List T, kxs ts = true → NestedKey.depthAll (kfs ts) = deps ts
  | [], _ => rfl
  | t :: ts, h => by
    simp only [kxs, Bool.and_eq_true] at h
    simp only [kfs, NestedKey.depthAll, deps]
    rw [kf_dep t h.1, kfs_dep ts h.2]
end
mutual
theorem eqt_kx : ∀ x y : T, kx x = true → kx y = true → (eqt x y = true ↔ x = y)
  | .int i, y, _, hy => by
    cases y with
    | int j => simp [eqt]
    | str z => simp [eqt]
    | tup z => simp [eqt]
    | _ => cases hy
  | .str i, y, _, hy => by
    cases y with
    | str j => simp [eqt]
    | int z => simp [eqt]
    | tup z => simp [eqt]
    | _ => cases hy
  | .tup xs, y, hx, hy => by
    cases y with
    | tup ys =>
      simp only [eqt, T.tup.injEq]
      exact eqts_kx xs ys hx hy
    | int z => simp [eqt]
    | str z => simp [eqt]
    | _ => cases hy
  | .non, _, h, _ => by cases h
  | .bl _, _, h, _ => by cases h
  | .lst _, _, h, _ => by cases h
  | .ref _, _, h, _ => by cases h
  | .exc _ _ _, _, h, _ => by cases h
  | .dct _ _ _, _, h, _ => by cases h
  | .obj _ _ _, _, h, _ => by cases h
  | .fn _, _, h, _ => by cases h
  | .scr _, _, h, _ => by cases h
theorem eqts_kx : ∀ xs ys : List T, kxs xs = true → kxs ys = true → (eqts xs ys = true ↔ xs = ys)
  | [], [], _, _ => by simp [eqts]
  | [], _ :: _, _, _ => by simp [eqts]
  | _ :: _, [], _, _ => by simp [eqts]
  | x :: xs, y :: ys, hx, hy => by
    simp only [kxs, Bool.and_eq_true] at hx hy
    simp only [eqts, Bool.and_eq_true, List.cons.injEq]
    rw [eqt_kx x y hx.1 hy.1, eqts_kx xs ys hx.2 hy.2]
end
theorem strLt_total {x y : List Sg} (h1 : strLt x y = false) (h2 : strLt y x = false) : x = y := by
  simp only [strLt, decide_eq_false_iff_not] at h1 h2
  exact map_val_inj (List.le_antisymm (List.not_lt.mp h2) (List.not_lt.mp h1))
mutual
theorem ltt_total : ∀ x y : T, kx x = true → kx y = true → alk x y = true → ltt x y = false → ltt y x = false → x = y
  | .int i, y, _, hy, ha, h1, h2 => by
    cases y with
    | int j =>
      simp only [ltt, decide_eq_false_iff_not] at h1 h2
      have : i = j := by omega
      rw [this]
    | str z => simp [alk] at ha
    | tup z => simp [alk] at ha
    | _ => cases hy
  | .str i, y, _, hy, ha, h1, h2 => by
    cases y with
    | str j => rw [strLt_total h1 h2]
    | int z => simp [alk] at ha
    | tup z => simp [alk] at ha
    | _ => cases hy
  | .tup xs, y, hx, hy, ha, h1, h2 => by
    cases y with
    | tup ys => rw [ltts_total xs ys hx hy (by simpa [alk] using ha) h1 h2]
    | int z => simp [alk] at ha
    | str z => simp [alk] at ha
    | _ => cases hy
  | .non, _, h, _, _, _, _ => by cases h
  | .bl _, _, h, _, _, _, _ => by cases h
  | .lst _, _, h, _, _, _, _ => by cases h
  | .ref _, _, h, _, _, _, _ => by cases h
  | .exc _ _ _, _, h, _, _, _, _ => by cases h
  | .dct _ _ _, _, h, _, _, _, _ => by cases h
  | .obj _ _ _, _, h, _, _, _, _ => by cases h
  | .fn _, _, h, _, _, _, _ => by cases h
  | .scr _, _, h, _, _, _, _ => by cases h
theorem ltts_total : ∀ xs ys : List T, kxs xs = true → kxs ys = true → alks xs ys = true → ltts xs ys = false → ltts ys xs = false → xs = ys
  | [], [], _, _, _, _, _ => rfl
  | [], _ :: _, _, _, _, h, _ => by simp [ltts] at h
  | _ :: _, [], _, _, _, _, h => by simp [ltts] at h
  | x :: xs, y :: ys, hx, hy, ha, h1, h2 => by
    simp only [kxs, Bool.and_eq_true] at hx hy
    simp only [alks, Bool.and_eq_true] at ha
    rw [ltts_eq] at h1 h2
    by_cases e : x = y
    · subst e
      have r := (eqt_kx x x hx.1 hx.1).mpr rfl
      rw [if_pos r] at h1 h2
      rw [ltts_total xs ys hx.2 hy.2 ha.2 h1 h2]
    · have n1 : ¬ eqt x y = true := fun z => e ((eqt_kx x y hx.1 hy.1).mp z)
      have n2 : ¬ eqt y x = true := fun z => e ((eqt_kx y x hy.1 hx.1).mp z).symm
      rw [if_neg n1] at h1
      rw [if_neg n2] at h2
      exact absurd (ltt_total x y hx.1 hy.1 ha.1 h1 h2) e
end
/-! ### each once -/
def dedupT : List T → List T
  | [] => []
  | t :: ts => if (dedupT ts).any (eqt t) = true then dedupT ts else t :: dedupT ts
theorem kxs_all : ∀ {ts : List T}, kxs ts = true ↔ ∀ t ∈ ts, kx t = true
  | [] => by simp [kxs]
  | t :: ts => by simp [kxs, kxs_all (ts := ts)]
theorem dedupT_mem : ∀ {ts : List T}, kxs ts = true → ∀ x, x ∈ dedupT ts ↔ x ∈ ts
  | [], _, x => by simp [dedupT]
  | t :: ts, h, x => by
    simp only [kxs, Bool.and_eq_true] at h
    have ih := dedupT_mem h.2
    unfold dedupT
    split
    · rename_i ha
      obtain ⟨y, hy, e⟩ := List.any_eq_true.mp ha
      have ky : kx y = true := kxs_all.mp h.2 y ((ih y).mp hy)
      obtain rfl := (eqt_kx t y h.1 ky).mp e
      rw [List.mem_cons, ih]
      exact ⟨.inr, fun z => z.elim (fun e => e ▸ (ih t).mp hy) id⟩
    · rw [List.mem_cons, List.mem_cons, ih]
theorem dedupT_nodup : ∀ {ts : List T}, kxs ts = true → (dedupT ts).Nodup
  | [], _ => List.nodup_nil
  | t :: ts, h => by
    simp only [kxs, Bool.and_eq_true] at h
    unfold dedupT
    split
    · exact dedupT_nodup h.2
    · rename_i ha
      refine List.nodup_cons.mpr ⟨fun z => ha (List.any_eq_true.mpr ⟨t, z, (eqt_kx t t h.1 h.1).mpr rfl⟩), dedupT_nodup h.2⟩
theorem nodup_le {α : Type} : ∀ {l m : List α}, l.Nodup → (∀ x ∈ l, x ∈ m) → l.length ≤ m.length
  | [], _, _, _ => Nat.zero_le _
  | x :: l, m, hn, hs => by
    obtain ⟨m1, m2, rfl⟩ := List.append_of_mem (hs x List.mem_cons_self)
    have := nodup_le (l := l) (m := m1 ++ m2) (List.nodup_cons.mp hn).2 fun y hy => by
      have := hs y (List.mem_cons_of_mem _ hy)
      simp only [List.mem_append, List.mem_cons] at this ⊢
      rcases this with z | z | z
      · exact .inl z
      · subst z; exact absurd hy (List.nodup_cons.mp hn).1
      · exact .inr z
    simp only [List.length_cons, List.length_append] at this ⊢
    omega
theorem nodup_perm {α : Type} : ∀ {l m : List α}, l.Nodup → m.Nodup → (∀ x, x ∈ l ↔ x ∈ m) → l.Perm m
  | [], m, _, _, h => by
    cases m with
    | nil => exact .refl _
    | cons y m => exact absurd ((h y).mpr List.mem_cons_self) (by simp)
  | x :: l, m, hn, hm, h => by
    obtain ⟨m1, m2, rfl⟩ := List.append_of_mem ((h x).mp List.mem_cons_self)
    have p : (m1 ++ x :: m2).Perm (x :: (m1 ++ m2)) := List.perm_middle
    have nd := p.nodup_iff.mp hm
    refine List.Perm.trans (List.Perm.cons x (nodup_perm (List.nodup_cons.mp hn).2 (List.nodup_cons.mp nd).2 fun y => ?_)) p.symm
    have hy := h y
    have e : y ∈ m1 ++ x :: m2 ↔ y = x ∨ y ∈ m1 ++ m2 := by rw [p.mem_iff, List.mem_cons]
    rw [e, List.mem_cons] at hy
    constructor
    · intro z
      rcases hy.mp (.inr z) with z2 | z2
      · subst z2; exact absurd z (List.nodup_cons.mp hn).1
      · exact z2
    · intro z
      rcases hy.mpr (.inr z) with z2 | z2
      · subst z2; exact absurd z (List.nodup_cons.mp nd).1
      · exact z2
/-- sorted, each once -/
def sortU (ts : List T) : List T := (dedupT ts).mergeSort leT'
theorem dataLe_trans {k : T → PyData} : ∀ a b c : T, PySem.W.dataLe false k a b = true → PySem.W.dataLe false k b c = true → PySem.W.dataLe false k a c = true := fun a b c h1 h2 => by
  rw [PySem.W.dataLe_eq] at *
  simp only [cond_false, Bool.not_eq_true'] at *
  cases h : PySem.W.dataLt (k c) (k a) with
  | false => rfl
  | true =>
    rcases lex_negTrans _ (PySem.W.keyToks (k b)) _ h with z | z
    · exact absurd z (by rw [show PyProof.Rows.lexLt itemOrd (PySem.W.keyToks (k c)) (PySem.W.keyToks (k b)) = PySem.W.dataLt (k c) (k b) from rfl, h2]; simp)
    · exact absurd z (by rw [show PyProof.Rows.lexLt itemOrd (PySem.W.keyToks (k b)) (PySem.W.keyToks (k a)) = PySem.W.dataLt (k b) (k a) from rfl, h1]; simp)
end TL

/-! TLw: the rules for sorted(set(xs)) and len(set(xs)). -/
namespace TL
open PySem PySem.Spec PyProof.Rows L2

theorem leT_data {ts : List T} (ok : sortOk ts = true) {a b : T} (ha : a ∈ ts) (hb : b ∈ ts) : PySem.W.dataLe false dat a b = leT' a b := by
  rw [PySem.W.dataLe_eq]
  show (!PySem.W.dataLt (dat b) (dat a)) = !ltt b a
  rw [(sortOk_of ok).2.2.2 b hb a ha]
theorem sortOk_sub {ts us : List T} (ok : sortOk ts = true) (h : ∀ x ∈ us, x ∈ ts) : sortOk us = true := by
  simp only [sortOk, Bool.and_eq_true, Bool.or_eq_true, List.all_eq_true] at ok ⊢
  exact ⟨fun x hx => ⟨(ok.1 x (h x hx)).1, fun y hy => (ok.1 x (h x hx)).2 y (h y hy)⟩, ok.2.imp (fun z x hx => z x (h x hx)) fun z x hx => z x (h x hx)⟩
/-- what is sorted is told by what it holds -/
theorem sort_unique {us ts : List T} (kt : kxs ts = true) (ok : sortOk ts = true) (nd : us.Nodup) (mem : ∀ x, x ∈ us ↔ x ∈ ts) : us.mergeSort leT' = sortU ts := by
  have mem2 := dedupT_mem kt
  have p : us.Perm (dedupT ts) := nodup_perm nd (dedupT_nodup kt) fun x => (mem x).trans (mem2 x).symm
  have s1 := mergeSort_leT us fun x hx y hy => (sortOk_of ok).2.2.2 x ((mem x).mp hx) y ((mem y).mp hy)
  have s2 := mergeSort_leT (dedupT ts) fun x hx y hy => (sortOk_of ok).2.2.2 x ((mem2 x).mp hx) y ((mem2 y).mp hy)
  unfold sortU
  rw [← s1, ← s2]
  have total : ∀ a b : T, (PySem.W.dataLe false dat a b || PySem.W.dataLe false dat b a) = true := fun a b => by
    rw [PySem.W.dataLe_eq]
    simp only [cond_false, Bool.or_eq_true, Bool.not_eq_true']
    cases h : PySem.W.dataLt (dat b) (dat a) with
    | false => exact .inl rfl
    | true =>
      right
      cases h2 : PySem.W.dataLt (dat a) (dat b) with
      | false => rfl
      | true =>
        have := lex_trans _ _ _ h2 h
        rw [lex_irrefl] at this
        cases this
  refine List.Perm.eq_of_pairwise (le := fun a b => PySem.W.dataLe false dat a b = true) (fun a b ha hb h1 h2 => ?_) (List.pairwise_mergeSort dataLe_trans total us) (List.pairwise_mergeSort dataLe_trans total _) (((List.mergeSort_perm us _).trans p).trans (List.mergeSort_perm _ _).symm)
  have ha' : a ∈ ts := (mem a).mp (List.mem_mergeSort.mp ha)
  have hb' : b ∈ ts := (mem2 b).mp (List.mem_mergeSort.mp hb)
  rw [leT_data ok ha' hb'] at h1
  rw [leT_data ok hb' ha'] at h2
  have al : alk a b = true := by
    simp only [sortOk, Bool.and_eq_true, List.all_eq_true] at ok
    exact (ok.1 a ha').2 b hb'
  simp only [leT', Bool.not_eq_true'] at h1 h2
  exact ltt_total a b (kxs_all.mp kt a ha') (kxs_all.mp kt b hb') al h2 h1

section
variable {X : Cx} {pins : List (Addr × Obj)} {s : Shared} {σ : L2.St} {H : Hp} {S : Sto} {M : Addr → Prop}
mutual
theorem nested_of (I : Inv X pins σ H s) : ∀ (t : T) (v : V) (u : Value), kx t = true → Rep (gdOf X M) H S t v → RelV v u → NestedIs s.heap (kf t) u
  | .int i, _, _, _, r, ru => by
    cases r
    obtain ⟨t, rfl⟩ := ru
    exact .int i t
  | .str x, _, _, _, r, ru => by
    cases r
    obtain ⟨t, rfl⟩ := ru
    exact .text _ t
  | .tup ts, _, _, h, r, ru => by
    cases r with
    | tup h1 h2 =>
      cases ru
      obtain ⟨its, hv, ⟨ob, g1, g2, n, g3⟩, _⟩ := I.tuple h1.sq
      exact .tup g1 g2 g3 (nested_all I ts _ _ h h2 (by simpa using hv))
  | .non, _, _, h, _, _ => by cases h
  | .bl _, _, _, h, _, _ => by cases h
  | .lst _, _, _, h, _, _ => by cases h
  | .ref _, _, _, h, _, _ => by cases h
  | .exc _ _ _, _, _, h, _, _ => by cases h
  | .dct _ _ _, _, _, h, _, _ => by cases h
  | .obj _ _ _, _, _, h, _, _ => by cases h
  | .fn _, _, _, h, _, _ => by cases h
  | .scr _, _, _, h, _, _ => by cases h
theorem nested_all (I : Inv X pins σ H s) : ∀ (ts : List T) (vs : List V) (us : List Value), kxs ts = true → Reps (gdOf X M) H S ts vs → Vals vs us → NestedAll s.heap (kfs ts) us
  | [], _, _, _, r, q => by cases r; cases q; exact .nil
  | t :: ts, _, _, h, r, q => by
    simp only [kxs, Bool.and_eq_true] at h
    cases r with
    | cons r1 r2 =>
      cases q with
      | cons q1 q2 => exact .cons (nested_of I t _ _ h.1 r1 q1) (nested_all I ts _ _ h.2 r2 q2)
end
/-- what a set is, for those who walk it -/
def SetP (w : World) (h : Heap) (a : Addr) (vs : List V) : Prop := ∃ o es ep t, h.get? a = some o ∧ o.ExactSet ∧ o.data = .set es ep t ∧ t.fits es.size = true ∧ es.size < scanBound ∧ Ris t.place.toList ∧ (w.params.followText "set-order" = true ∨ t.led = true) ∧ Vals vs (es.toList.map (·.2))
def SetX (w : World) (a : Addr) (vs : List V) : HO := .ext fun h => SetP w h a vs
theorem setX_new {P : Program} {w : World} {H : Hp} {h : Heap} {a : Addr} {vs : List V} (R : SetP w h a vs) : ObjOk P w H h a (SetX w a vs) := by
  obtain ⟨o, es, ep, t, ho, r⟩ := R
  exact ⟨⟨o, es, ep, t, ho, r⟩, ⟨o, ho⟩, fun h1 h2 ⟨o', es', ep', t', ho', r'⟩ k => ⟨o', es', ep', t', k o' ho', r'⟩⟩
def isScan : T → Bool
  | .int _ => true
  | .str _ => true
  | _ => false
def setOk (ts : List T) : Bool := kxs ts && ((ts.all isTup && (decide (deps ts ≤ 8) && decide ((dedupT ts).length ≤ 62))) || (ts.all isScan && decide (ts.length + 2 < scanBound)))
/-- rows of trees, their values -/
theorem zip_refs {G : Gd} : ∀ {ts : List T} {vs : List V} {us : List Value}, ts.all isTup = true → Reps G H S ts vs → Vals vs us → ∃ ks : List (T × Addr), ts = ks.map (·.1) ∧ us = (ks.map fun p => Value.ref p.2) ∧ ∀ p ∈ ks, Rep G H S p.1 (.ref p.2)
  | [], _, _, _, r, q => by cases r; cases q; exact ⟨[], rfl, rfl, fun p hp => by cases hp⟩
  | t :: ts, _, _, h, r, q => by
    simp only [List.all_cons, Bool.and_eq_true] at h
    cases r with
    | cons r1 r2 =>
      cases q with
      | cons q1 q2 =>
        obtain ⟨ks, e1, e2, hk⟩ := zip_refs h.2 r2 q2
        obtain ⟨x, rfl⟩ := isTup_is h.1
        cases r1 with
        | tup a b =>
          cases q1
          refine ⟨(.tup x, _) :: ks, by rw [List.map_cons, e1], by rw [List.map_cons, e2], fun p hp => ?_⟩
          rcases List.mem_cons.mp hp with e | hp
          · subst e; exact .tup a b
          · exact hk p hp
theorem zip_vals {G : Gd} : ∀ {ts : List T} {vs : List V} {us : List Value}, Reps G H S ts vs → Vals vs us → ∃ ks : List (T × Value), ts = ks.map (·.1) ∧ us = ks.map (·.2) ∧ ∀ p ∈ ks, ∃ v, RelV v p.2 ∧ Rep G H S p.1 v
  | [], _, _, r, q => by cases r; cases q; exact ⟨[], rfl, rfl, fun p hp => by cases hp⟩
  | t :: ts, _, _, r, q => by
    cases r with
    | cons r1 r2 =>
      cases q with
      | cons q1 q2 =>
        obtain ⟨ks, e1, e2, hk⟩ := zip_vals r2 q2
        refine ⟨(t, _) :: ks, by rw [List.map_cons, e1], by rw [List.map_cons, e2], fun p hp => ?_⟩
        rcases List.mem_cons.mp hp with e | hp
        · subst e; exact ⟨_, q1, r1⟩
        · exact hk p hp
theorem take_at {α : Type} {l : List α} {i : Nat} {x : α} (h : l[i]? = some x) : l.take (i + 1) = l.take i ++ [x] := by rw [List.take_add_one, h]; rfl
/-- what a set that is filled holds of the first i things -/
structure GotT {α : Type} (ks : List (T × α)) (i : Nat) (L : List (T × α)) : Prop where
  sub : ∀ p ∈ L, p ∈ ks.take i
  all : ∀ p ∈ ks.take i, p.1 ∈ L.map (·.1)
theorem GotT.old {α : Type} {ks L : List (T × α)} {i : Nat} {p : T × α} (g : GotT ks i L) (h : ks[i]? = some p) (hm : p.1 ∈ L.map (·.1)) : GotT ks (i + 1) L := by
  constructor
  · intro q hq
    rw [take_at h]
    exact List.mem_append_left _ (g.sub q hq)
  · intro q hq
    rw [take_at h] at hq
    rcases List.mem_append.mp hq with z | z
    · exact g.all q z
    · rw [List.mem_singleton.mp z]; exact hm
theorem GotT.new {α : Type} {ks L L' : List (T × α)} {i : Nat} {p : T × α} (g : GotT ks i L) (h : ks[i]? = some p) (pm : L'.Perm (p :: L)) : GotT ks (i + 1) L' := by
  constructor
  · intro q hq
    rw [take_at h]
    rcases List.mem_cons.mp (pm.mem_iff.mp hq) with e | z
    · rw [e]; simp
    · exact List.mem_append_left _ (g.sub q z)
  · intro q hq
    rw [(pm.map (·.1)).mem_iff, List.map_cons]
    rw [take_at h] at hq
    rcases List.mem_append.mp hq with z | z
    · exact List.mem_cons_of_mem _ (g.all q z)
    · rw [List.mem_singleton.mp z]; exact List.mem_cons_self
def kpA (p : T × Addr) : NestedKey × Addr := (kf p.1, p.2)
def kb : T → Key
  | .int i => .inl i
  | .str x => .inr (txt x)
  | _ => .inl 0
def kpB (p : T × Value) : Key × Value := (kb p.1, p.2)
theorem kb_inj {x y : T} (hx : isScan x = true) (hy : isScan y = true) (e : kb x = kb y) : x = y := by
  cases x <;> first | (cases hx; done) | skip
  all_goals (cases y <;> first | (cases hy; done) | skip)
  · injection e with e; rw [e]
  · cases e
  · cases e
  · injection e with e; rw [txt_inj e]
/-- a bag of tuples -/
def BagA (w : World) (n0 : Addr) (ks : List (T × Addr)) (i : Nat) (h : Heap) : Prop := ∃ (L : List (T × Addr)) (es : Array (Int × Value)) (ep : Nat) (t : SetTable), TabS w h n0 (L.map kpA) es ep t ∧ GotT ks i L
def BagB (P : Program) (w : World) (n0 : Addr) (ks : List (T × Value)) (i : Nat) (h : Heap) : Prop := ∃ (L : List (T × Value)) (es : Array (Int × Value)) (ep : Nat) (t : SetTable), ScanS P w h n0 (L.map kpB) es ep t ∧ GotT ks i L
theorem fillsA {P : Program} {w : World} {U n0 : Nat} {h0 : Heap} {ks : List (T × Addr)} {items : Array Value} (hi : items.toList = ks.map fun p => Value.ref p.2) (hu : U + 8 < cLine) (hk : kxs (ks.map (·.1)) = true) (few : (dedupT (ks.map (·.1))).length ≤ 62)
    (els : ∀ p ∈ ks, El h0 (kpA p)) : Fills P w U n0 h0 items.size (fun i v => items[i]? = some v) (BagA w n0 ks) where
  keep := fun i h h' ⟨L, es, ep, t, R, g⟩ kS k0 => by
    obtain ⟨o, g1, g2, g3⟩ := R.obj
    refine ⟨L, es, ep, t, ⟨⟨o, kS o g1, g2, g3⟩, R.row, R.tab, R.ndp, fun p hp => ?_, R.led, R.gap, R.few⟩, g⟩
    obtain ⟨q, hq, rfl⟩ := List.mem_map.mp hp
    exact (els q (List.mem_of_mem_take (g.sub q hq))).at fun b o us n z _ => k0 b o z
  step := fun A i v s Q E hA hn hv ⟨L, es, ep, t, R, g⟩ k0 hQ => by
    have hv2 : (ks.map fun p => Value.ref p.2)[i]? = some v := by rw [← hi, Array.getElem?_toList]; exact hv
    rw [List.getElem?_map] at hv2
    obtain ⟨p, hp, rfl⟩ := Option.map_eq_some_iff.mp hv2
    have hm : p ∈ ks := List.mem_of_getElem? hp
    have el : El s.heap (kpA p) := (els p hm).at fun b o us n z _ => k0 b o z
    have ndT : (L.map (·.1)).Nodup := by
      have := R.ndp
      rw [List.map_map] at this
      have e : ((fun x : NestedKey × Addr => x.1) ∘ kpA) = kf ∘ fun x : T × Addr => x.1 := rfl
      rw [e, ← List.map_map] at this
      exact List.Pairwise.of_map kf (fun _ _ hne e => hne (congrArg kf e)) this
    have kxm : ∀ q ∈ ks, kx q.1 = true := fun q hq => kxs_all.mp hk _ (List.mem_map.mpr ⟨q, hq, rfl⟩)
    have len : L.length ≤ 62 := by
      have := nodup_le ndT fun x hx => by
        obtain ⟨q, hq, rfl⟩ := List.mem_map.mp hx
        exact (dedupT_mem hk q.1).mpr (List.mem_map.mpr ⟨q, List.mem_of_mem_take (g.sub q hq), rfl⟩)
      rw [List.length_map] at this
      omega
    have keyIff : (kpA p).1 ∈ (L.map kpA).map (·.1) ↔ p.1 ∈ L.map (·.1) := by
      constructor
      · intro z
        obtain ⟨r, hr, e⟩ := List.mem_map.mp z
        obtain ⟨q, hq, rfl⟩ := List.mem_map.mp hr
        exact List.mem_map.mpr ⟨q, hq, kf_inj _ _ (kxm q (List.mem_of_mem_take (g.sub q hq))) (kxm p hm) e⟩
      · intro z
        obtain ⟨q, hq, e⟩ := List.mem_map.mp z
        exact List.mem_map.mpr ⟨kpA q, List.mem_map.mpr ⟨q, hq, rfl⟩, congrArg kf e⟩
    unfold setAdd
    refine wpAny_holding (wpAny_bind ((nestedKind P w).pyHash (k := kf p.1) (show A.units + 8 < cLine by omega) el ?_))
    refine tab_add (s := { s with toks := s.toks + (kf p.1).draws }) (p := kpA p) R el (show A.units + 8 < cLine by omega) (by rw [List.length_map]; omega) fun b h' L' es' ep' t' sb R' c1 c2 => ?_
    refine hQ b h' _ (Nat.le_add_right _ _) sb ?_
    by_cases hin : p.1 ∈ L.map (·.1)
    · have := c1 (keyIff.mpr hin)
      subst this
      exact ⟨L, es', ep', t', R', g.old hp hin⟩
    · have pm := c2 fun z => hin (keyIff.mp z)
      obtain ⟨L1, p1, e1⟩ := perm_map kpA pm (p :: L) rfl
      subst e1
      exact ⟨L1, es', ep', t', R', g.new hp p1⟩
theorem fillsB {P : Program} {w : World} {U n0 : Nat} {h0 : Heap} {ks : List (T × Value)} {items : Array Value} (hi : items.toList = ks.map (·.2)) (hk : ∀ p ∈ ks, isScan p.1 = true ∧ Sc P w (kpB p)) (few : ks.length + 2 < scanBound) :
    Fills P w U n0 h0 items.size (fun i v => items[i]? = some v) (BagB P w n0 ks) where
  keep := fun i h h' ⟨L, es, ep, t, R, g⟩ kS k0 => by
    obtain ⟨o, g1, g2, g3⟩ := R.obj
    exact ⟨L, es, ep, t, ⟨⟨o, kS o g1, g2, g3⟩, R.row, R.els, R.ndp, R.few, R.fits, R.ris, R.led⟩, g⟩
  step := fun A i v s Q E hA hn hv ⟨L, es, ep, t, R, g⟩ k0 hQ => by
    have hv2 : (ks.map (·.2))[i]? = some v := by rw [← hi, Array.getElem?_toList]; exact hv
    rw [List.getElem?_map] at hv2
    obtain ⟨p, hp, rfl⟩ := Option.map_eq_some_iff.mp hv2
    have hm : p ∈ ks := List.mem_of_getElem? hp
    have ndT : (L.map (·.1)).Nodup := by
      have := R.ndp
      rw [List.map_map] at this
      have e : ((fun x : Key × Value => x.1) ∘ kpB) = kb ∘ fun x : T × Value => x.1 := rfl
      rw [e, ← List.map_map] at this
      exact List.Pairwise.of_map kb (fun _ _ hne e => hne (congrArg kb e)) this
    have len : L.length ≤ ks.length := by
      have := nodup_le (m := ks.map (·.1)) ndT fun x hx => by
        obtain ⟨q, hq, rfl⟩ := List.mem_map.mp hx
        exact List.mem_map.mpr ⟨q, List.mem_of_mem_take (g.sub q hq), rfl⟩
      rw [List.length_map, List.length_map] at this
      exact this
    have keyIff : (kpB p).1 ∈ (L.map kpB).map (·.1) ↔ p.1 ∈ L.map (·.1) := by
      constructor
      · intro z
        obtain ⟨r, hr, e⟩ := List.mem_map.mp z
        obtain ⟨q, hq, rfl⟩ := List.mem_map.mp hr
        exact List.mem_map.mpr ⟨q, hq, kb_inj (hk q (List.mem_of_mem_take (g.sub q hq))).1 (hk p hm).1 e⟩
      · intro z
        obtain ⟨q, hq, e⟩ := List.mem_map.mp z
        exact List.mem_map.mpr ⟨kpB q, List.mem_map.mpr ⟨q, hq, rfl⟩, congrArg kb e⟩
    unfold setAdd
    refine wpAny_holding (wpAny_bind ((mixKind P w).pyHash (hk p hm).2.1 ?_))
    refine scan_add (s := { s with toks := s.toks + 1 }) (p := kpB p) R (hk p hm).2 (by rw [List.length_map]; omega) fun b h' L' es' ep' t' sb R' c1 c2 => ?_
    refine hQ b h' _ (Nat.le_add_right _ _) sb ?_
    by_cases hin : p.1 ∈ L.map (·.1)
    · have := c1 (keyIff.mpr hin)
      subst this
      exact ⟨L, es', ep', t', R', g.old hp hin⟩
    · have pm := c2 fun z => hin (keyIff.mp z)
      obtain ⟨L1, p1, e1⟩ := perm_map kpB pm (p :: L) rfl
      subst e1
      exact ⟨L1, es', ep', t', R', g.new hp p1⟩
end
end TL

/-! TLx: set(xs) as it is walked: sorted(set(xs)), len(set(xs)). -/
namespace TL
open PySem PySem.Spec PyProof.Rows L2

theorem deps_mem : ∀ {ts : List T} {t : T}, t ∈ ts → dep t ≤ deps ts
  | x :: xs, t, h => by
    simp only [deps]
    rcases List.mem_cons.mp h with e | h
    · subst e; omega
    · have := deps_mem h; omega
section
variable {X : Cx} {pins : List (Addr × Obj)} {s : Shared} {σ : L2.St} {H : Hp} {S : Sto} {M : Addr → Prop}
/-- the set made of values that lie as trees -/
theorem set_core (hc : X.calm = true) (hu : X.A.units + 64 < cLine) (I : Inv X pins σ H s) {ts : List T} {ws : List V} {its : List Value} {a : Addr} {Q : VK} (hv : Vals ws its) (r : Reps (gdOf X M) H S ts ws) (ok : setOk ts = true)
    (fin : ∀ us vs p, H p = none → us.Nodup → (∀ x, x ∈ us ↔ x ∈ ts) → Reps (gdOf X M) H S us vs → Q (.ref p) (upd H p (SetX X.w p vs)))
    (call_ : ∀ (Bag : Nat → Heap → Prop) (R : Value → Shared → Prop), Fills X.prog X.w X.A.in1.in1.in1.units s.heap.objs.size s.heap its.toArray.size (fun i v => its.toArray[i]? = some v) Bag →
      (∀ h : Heap, h.get? s.heap.objs.size = some (newSet X.w) → (∀ b o, s.heap.get? b = some o → h.get? b = some o) → Bag 0 h) →
      (∀ (h' : Heap) (tk : Nat), Bag its.toArray.size h' → (∀ b o, s.heap.get? b = some o → h'.get? b = some o) → R (.ref s.heap.objs.size) { s with heap := h', toks := tk }) → wpAny (model X.prog X.w) X.A (call (.type "set") [.ref a]) R X.xe s) :
    wpAny (model X.prog X.w) X.A (call (.type "set") [.ref a]) (EP X pins σ Q) X.xe s := by
  have units : X.A.in1.in1.in1.units = X.A.units + 3 := rfl
  simp only [setOk, Bool.and_eq_true, Bool.or_eq_true, decide_eq_true_eq] at ok
  obtain ⟨kt, ok⟩ := ok
  have fresh := I.hok.fresh (Nat.le_refl s.heap.objs.size)
  have led0 : X.w.params.followText "set-order" = true ∨ (!X.w.params.followText "set-order") = true := by cases X.w.params.followText "set-order" <;> simp
  rcases ok with ⟨ok1, ok2, ok3⟩ | ⟨ok1, ok2⟩
  · obtain ⟨ks, rfl, rfl, hk⟩ := zip_refs ok1 r hv
    have els : ∀ p ∈ ks, El s.heap (kpA p) := fun p hp => by
      have hm : p.1 ∈ ks.map (·.1) := List.mem_map.mpr ⟨p, hp, rfl⟩
      have kp := kxs_all.mp kt _ hm
      refine ⟨nested_of I p.1 _ _ kp (hk p hp) rfl, ?_⟩
      show (kf p.1).depth ≤ 8
      rw [kf_dep _ kp]
      have := deps_mem hm
      omega
    refine call_ (BagA X.w s.heap.objs.size ks) _ (fillsA (List.toList_toArray) (by rw [units]; omega) kt ok3 els) (fun h g1 _ => ?_) fun h' tk ⟨L, es, ep, t, R, g⟩ old => ?_
    · exact ⟨[], #[], 0, _, ⟨⟨_, g1, ⟨rfl, rfl, rfl⟩, rfl⟩, rfl, ⟨List.Pairwise.nil, rfl, rfl, .inl rfl, fun x hx => (by cases hx), fun i h j hi => (by simp at hi)⟩, List.nodup_nil, fun p hp => (by cases hp), led0, (by show 0 * 5 < 7 * 3; decide), (by show 0 < 64; decide)⟩,
        ⟨fun p hp => (by cases hp), fun p hp => (by simp at hp)⟩⟩
    · have whole : ks.take (ks.map fun p => Value.ref p.2).toArray.size = ks := List.take_of_length_le (by simp)
      have g' : GotT ks ks.length L := by
        have e : (ks.map fun p => Value.ref p.2).toArray.size = ks.length := by simp
        rw [e] at g
        exact g
      have sub : ∀ p ∈ L, p ∈ ks := fun p hp => List.mem_of_mem_take (g'.sub p hp)
      obtain ⟨o, g1, g2, g3⟩ := R.obj
      have sp : SetP X.w h' s.heap.objs.size (L.map fun p => V.ref p.2) := by
        refine ⟨o, es, ep, t, g1, g2, g3, R.fits, ?_, R.tab.ris, R.led, ?_⟩
        · have := row_len R.row
          have := R.few
          unfold scanBound
          omega
        · rw [R.row]
          have : ∀ L : List (T × Addr), Vals (L.map fun p => V.ref p.2) ((rowS X.w (L.map kpA)).map (·.2)) := fun L => by
            induction L with
            | nil => exact .nil
            | cons p L ih => exact .cons rfl ih
          exact this L
      refine ⟨.ref s.heap.objs.size, _, I.laid (t' := tk) old (Nat.le_refl _) (setX_new sp), rfl, fin (L.map (·.1)) _ _ fresh ?_ (fun x => ?_) ?_⟩
      · have := R.ndp
        rw [List.map_map] at this
        have e : ((fun x : NestedKey × Addr => x.1) ∘ kpA) = kf ∘ fun x : T × Addr => x.1 := rfl
        rw [e, ← List.map_map] at this
        exact List.Pairwise.of_map kf (fun _ _ hne e => hne (congrArg kf e)) this
      · constructor
        · intro hx
          obtain ⟨p, hp, rfl⟩ := List.mem_map.mp hx
          exact List.mem_map.mpr ⟨p, sub p hp, rfl⟩
        · intro hx
          obtain ⟨p, hp, rfl⟩ := List.mem_map.mp hx
          exact g'.all p (by rw [List.take_length]; exact hp)
      · have : ∀ L : List (T × Addr), (∀ p ∈ L, p ∈ ks) → Reps (gdOf X M) H S (L.map (·.1)) (L.map fun p => V.ref p.2) := fun L => by
          induction L with
          | nil => exact fun _ => .nil
          | cons p L ih => exact fun h => .cons (hk p (h p List.mem_cons_self)) (ih fun q hq => h q (List.mem_cons_of_mem _ hq))
        exact this L sub
  · obtain ⟨ks, rfl, rfl, hk⟩ := zip_vals r hv
    have sc : ∀ p ∈ ks, isScan p.1 = true ∧ Sc X.prog X.w (kpB p) := fun p hp => by
      have hm : p.1 ∈ ks.map (·.1) := List.mem_map.mpr ⟨p, hp, rfl⟩
      have z := List.all_eq_true.mp ok1 _ hm
      refine ⟨z, ?_⟩
      obtain ⟨v, r1, r2⟩ := hk p hp
      obtain ⟨x, u⟩ := p
      cases x <;> first | (cases z; done) | skip
      · cases r2
        obtain ⟨t, rfl⟩ := r1
        exact ⟨kV_is (k := .inl _) ⟨t, rfl⟩, rfl⟩
      · cases r2
        obtain ⟨t, rfl⟩ := r1
        exact ⟨kV_is (k := .inr _) ⟨t, rfl⟩, rfl⟩
    have few : ks.length + 2 < scanBound := by simpa using ok2
    refine call_ (BagB X.prog X.w s.heap.objs.size ks) _ (fillsB (List.toList_toArray) sc few) (fun h g1 _ => ?_) fun h' tk ⟨L, es, ep, t, R, g⟩ old => ?_
    · exact ⟨[], #[], 0, _, ⟨⟨_, g1, ⟨rfl, rfl, rfl⟩, rfl⟩, rfl, fun p hp => (by cases hp), List.nodup_nil, (by show 0 < 4096; decide), (by rfl), List.Pairwise.nil, led0⟩, ⟨fun p hp => (by cases hp), fun p hp => (by simp at hp)⟩⟩
    · have g' : GotT ks ks.length L := by
        have e : (ks.map (·.2)).toArray.size = ks.length := by simp
        rw [e] at g
        exact g
      have sub : ∀ p ∈ L, p ∈ ks := fun p hp => List.mem_of_mem_take (g'.sub p hp)
      obtain ⟨o, g1, g2, g3⟩ := R.obj
      have rp : ∀ L : List (T × Value), (∀ p ∈ L, p ∈ ks) → ∃ vs, Reps (gdOf X M) H S (L.map (·.1)) vs ∧ Vals vs ((L.map kpB).map (rowK X.prog X.w) |>.map (·.2)) := fun L => by
        induction L with
        | nil => exact fun _ => ⟨[], .nil, .nil⟩
        | cons p L ih =>
          intro h
          obtain ⟨vs, h1, h2⟩ := ih fun q hq => h q (List.mem_cons_of_mem _ hq)
          obtain ⟨v, r1, r2⟩ := hk p (h p List.mem_cons_self)
          exact ⟨v :: vs, .cons r2 h1, .cons r1 h2⟩
      obtain ⟨vs, rp1, rp2⟩ := rp L sub
      have sp : SetP X.w h' s.heap.objs.size vs := by
        refine ⟨o, es, ep, t, g1, g2, g3, R.fits, ?_, R.ris, R.led, ?_⟩
        · have := scan_len R.row
          have := R.few
          omega
        · rw [R.row]
          exact rp2
      refine ⟨.ref s.heap.objs.size, _, I.laid (t' := tk) old (Nat.le_refl _) (setX_new sp), rfl, fin (L.map (·.1)) _ _ fresh ?_ (fun x => ?_) rp1⟩
      · have := R.ndp
        rw [List.map_map] at this
        have e : ((fun x : Key × Value => x.1) ∘ kpB) = kb ∘ fun x : T × Value => x.1 := rfl
        rw [e, ← List.map_map] at this
        exact List.Pairwise.of_map kb (fun _ _ hne e => hne (congrArg kb e)) this
      · constructor
        · intro hx
          obtain ⟨p, hp, rfl⟩ := List.mem_map.mp hx
          exact List.mem_map.mpr ⟨p, sub p hp, rfl⟩
        · intro hx
          obtain ⟨p, hp, rfl⟩ := List.mem_map.mp hx
          exact g'.all p (by rw [List.take_length]; exact hp)
/-- set(xs) -/
def rSet (X : Cx) : List V → Hp → VK → Prop := fun xs H Q => ∃ M S t ts, StoOk (gdOf X M) H S ∧ Reps (gdOf X M) H S [t] xs ∧ (res S t = .lst ts ∨ res S t = .tup ts) ∧ setOk ts = true ∧
  ∀ us vs p, H p = none → us.Nodup → (∀ x, x ∈ us ↔ x ∈ ts) → Reps (gdOf X M) H S us vs → Q (.ref p) (upd H p (SetX X.w p vs))
theorem cr_set (hc : X.calm = true) (hu : X.A.units + 64 < cLine) : CallR X (.type "set") (rSet X) := by
  intro pins s σ H xs us Q I r h
  obtain ⟨M, S, t, ts, o, rs, hres, ok, fin⟩ := h
  obtain ⟨v, rfl, ry⟩ := rs.one
  have hh := I.ok.hd hc
  rcases hres with e | e
  · obtain ⟨a, ws, rfl, h1, h2⟩ := res_lst o ry e
    obtain ⟨u, rfl, ru⟩ := vals1 r
    cases ru
    obtain ⟨its, hv, pl, hz⟩ := I.list (SqL.of h1)
    exact set_core hc hu I hv h2 ok fin fun Bag R FF b0 f => fill_list hh pl.isList FF b0 f
  · obtain rfl := res_id e fun _ z => nomatch z
    cases ry with
    | tup h1 h2 =>
      obtain ⟨u, rfl, ru⟩ := vals1 r
      cases ru
      obtain ⟨its, hv, pl, hz⟩ := I.tuple h1.sq
      exact set_core hc hu I hv h2 ok fin fun Bag R FF b0 f => fill_tuple hh pl FF b0 f
/-- sorted(a set) -/
def rSortedX (X : Cx) : List V → Hp → VK → Prop := fun xs H Q => ∃ M S a us vs ts, xs = [.ref a] ∧ H a = some (SetX X.w a vs) ∧ StoOk (gdOf X M) H S ∧ Reps (gdOf X M) H S us vs ∧ us.Nodup ∧ (∀ x, x ∈ us ↔ x ∈ ts) ∧ kxs ts = true ∧ sortOk ts = true ∧
  ∀ v H', StoOk (gdOf X M) H' S → Ext S H S H' → Rep (gdOf X M) H' S (.lst (sortU ts)) v → Q v H'
theorem perm_vals : ∀ {us : List T} {vs : List V} {ws : List Value} {G : Gd}, Reps G H S us vs → Vals vs ws → PySem.W.EachIs (VT G H S) ws us := fun r q => eachVT r q
theorem each_perm {α β : Type} {R : α → β → Prop} {xs ys : List α} {bs : List β} (e : PySem.W.EachIs R xs bs) (p : ys.Perm xs) : ∃ cs, PySem.W.EachIs R ys cs ∧ cs.Perm bs := by
  induction p generalizing bs with
  | nil => cases e; exact ⟨[], .nil, .refl _⟩
  | cons x _ ih =>
    cases e with
    | cons h1 h2 =>
      obtain ⟨cs, h3, h4⟩ := ih h2
      exact ⟨_ :: cs, .cons h1 h3, h4.cons _⟩
  | swap x y l =>
    cases e with
    | cons h1 h2 =>
      cases h2 with
      | cons h2 h3 => exact ⟨_ :: _ :: _, .cons h2 (.cons h1 h3), .swap _ _ _⟩
  | trans _ _ ih1 ih2 =>
    obtain ⟨cs, h1, h2⟩ := ih2 e
    obtain ⟨ds, h3, h4⟩ := ih1 h1
    exact ⟨ds, h3, h4.trans h2⟩
theorem cr_sortedX (hc : X.calm = true) (hu : X.A.units + 70 < cLine) : CallR X (.builtin "sorted") (rSortedX X) := by
  intro pins s σ H xs us' Q I r h
  obtain ⟨M, S, a, us, vs, ts, rfl, ha, o, rp, nd, mem, kt, ok, fin⟩ := h
  obtain ⟨u, rfl, ru⟩ := vals1 r
  cases ru
  have hh := I.ok.hd hc
  obtain ⟨ob, es, ep, t, g1, g2, g3, g4, g5, g6, g7, g8⟩ := (show SetP X.w s.heap a vs from (I.hok a _ ha).1)
  have each := perm_vals rp g8
  refine sorted_via hu (Pt := fun cs => cs.Perm us) o (fun A E R hA k => ?_) (fun cs pc => ⟨sortOk_sub ok fun x hx => (mem x).mp (pc.mem_iff.mp hx), ?_⟩) fun cs v H' pc o' x' r' _ => ?_
  · refine collect_set (hA.trans hh) ⟨ob, g1, g2.1, g3⟩ g4 g5 g6 g7 fun s' out k1 k2 k3 k4 pm => ?_
    obtain ⟨cs, c1, c2⟩ := each_perm each pm
    obtain ⟨h', g', d', t', o'⟩ := s'
    obtain rfl : g' = s.gens := k3
    obtain rfl : o' = s.os := k4
    exact k out _ cs (I.call (ch := []) (Un.kept k1) (I.hok.kept k1) I.bare (fun _ z => (nomatch z))) c1 c2
  · have l1 : cs.length = us.length := List.Perm.length_eq pc
    have l2 : us.length = vs.length := rp.length
    have l3 : vs.length = es.size := by simpa using g8.length
    have sl := sizeLine_eq
    have g5' : es.size < 4096 := g5
    rw [l1, l2, l3, sl]
    omega
  · rw [sort_unique kt ok (pc.nodup_iff.mpr nd) fun x => (pc.mem_iff).trans (mem x)] at r'
    exact fin v H' o' x' r'
/-- len(a set) -/
def rLenX (X : Cx) : List V → Hp → VK → Prop := fun xs H Q => ∃ a vs, xs = [.ref a] ∧ H a = some (SetX X.w a vs) ∧ Q (.int vs.length) H
theorem cr_lenX : CallR X (.builtin "len") (rLenX X) := by
  intro pins s σ H xs us' Q I r h
  obtain ⟨a, vs, rfl, ha, q⟩ := h
  obtain ⟨u, rfl, ru⟩ := vals1 r
  cases ru
  obtain ⟨ob, es, ep, t, g1, g2, g3, g4, g5, g6, g7, g8⟩ := (show SetP X.w s.heap a vs from (I.hok a _ ha).1)
  have l3 : vs.length = es.size := by simpa using g8.length
  have g5' : es.size < 4096 := g5
  refine call_len_set g1 g2 g3 g4 (by omega) ⟨.int vs.length, H, I.tok _, ⟨_, by rw [l3]⟩, q⟩
/-! ### the two calls in a row -/
def ssetT (S : Sto) (x : T) : Option T := match res S x with
  | .lst ts => if (setOk ts && sortOk ts) = true then some (.lst (sortU ts)) else none
  | .tup ts => if (setOk ts && sortOk ts) = true then some (.lst (sortU ts)) else none
  | _ => none
def slenT (S : Sto) (x : T) : Option T := match res S x with
  | .lst ts => if setOk ts = true then some (.int (dedupT ts).length) else none
  | .tup ts => if setOk ts = true then some (.int (dedupT ts).length) else none
  | _ => none
theorem setOk_kx {ts : List T} (h : setOk ts = true) : kxs ts = true := (Bool.and_eq_true_iff.mp h).1
variable {e : Expr} {te : TTE} {p p2 pos pos2 : Pos}
theorem set_arg {E : T → TEnv → Sto → Prop} {S0 : Sto} {H0 : Hp} (hc : X.calm = true) (hu : X.A.units + 64 < cLine) (he : PE X e (LE X M S0 H0 te E)) (hg2 : Gl X "set") (hm2 : X.mg "set" = none)
    (hs : starEach [e] X.env = (false, eval e X.env) :: starEach [] X.env := by rfl) (hpl : (backTo pos2 (starEach [] X.env)).any (·.1) = false := by rfl) : ∃ tt, PE X (.Call (.Name "set" p2) [e] [] pos2) tt ∧
      ∀ σ H Q, (∃ τ S Qt, Rel (gdOf X M) S0 H0 σ H τ S ∧ te τ S Qt (fun x S' => E x τ S') ∧ ∀ x S1 v H1, Qt x S1 → StoOk (gdOf X M) H1 S1 → Ext S H S1 H1 → Rep (gdOf X M) H1 S1 x v →
        ∃ ts, (res S1 x = .lst ts ∨ res S1 x = .tup ts) ∧ setOk ts = true ∧ ∀ us vs q, H1 q = none → us.Nodup → (∀ x, x ∈ us ↔ x ∈ ts) → Reps (gdOf X M) H1 S1 us vs → Q (.ref q) (upd H1 q (SetX X.w q vs))) → tt σ H Q :=
  ⟨_, pe_callTy (cr_set hc hu) hg2 hm2 boot_set (pa_cons he pa_nil hs) (by decide) (by decide) hs hpl, fun σ H Q ⟨τ, S, Qt, rel, h, k⟩ => ⟨τ, S, _, rel, h, fun x S1 v H1 q o1 x1 r1 => by
    obtain ⟨ts, h1, h2, h3⟩ := k x S1 v H1 q o1 x1 r1
    exact ⟨M, S1, x, ts, o1, .cons r1 .nil, h1, h2, h3⟩⟩⟩
theorem sset_is {S : Sto} {x z : T} (h : ssetT S x = some z) : ∃ ts, (res S x = .lst ts ∨ res S x = .tup ts) ∧ setOk ts = true ∧ sortOk ts = true ∧ z = .lst (sortU ts) := by
  unfold ssetT at h
  split at h
  · rename_i ts e
    split at h
    · rename_i c
      obtain ⟨c1, c2⟩ := Bool.and_eq_true_iff.mp c
      exact ⟨ts, .inl e, c1, c2, (Option.some.inj h).symm⟩
    · cases h
  · rename_i ts e
    split at h
    · rename_i c
      obtain ⟨c1, c2⟩ := Bool.and_eq_true_iff.mp c
      exact ⟨ts, .inr e, c1, c2, (Option.some.inj h).symm⟩
    · cases h
  · cases h
theorem slen_is {S : Sto} {x z : T} (h : slenT S x = some z) : ∃ ts, (res S x = .lst ts ∨ res S x = .tup ts) ∧ setOk ts = true ∧ z = .int (dedupT ts).length := by
  unfold slenT at h
  split at h
  · rename_i ts e
    split at h
    · rename_i c
      exact ⟨ts, .inl e, c, (Option.some.inj h).symm⟩
    · cases h
  · rename_i ts e
    split at h
    · rename_i c
      exact ⟨ts, .inr e, c, (Option.some.inj h).symm⟩
    · cases h
  · cases h
theorem te_sset (hc : X.calm = true) (hu : X.A.units + 70 < cLine) (he : TE X e te) (hg : Gl X "sorted") (hm : X.mg "sorted" = none) (hg2 : Gl X "set") (hm2 : X.mg "set" = none)
    (hs2 : starEach [e] X.env = (false, eval e X.env) :: starEach [] X.env := by rfl) (hpl2 : (backTo pos2 (starEach [] X.env)).any (·.1) = false := by rfl)
    (hs : starEach [.Call (.Name "set" p2) [e] [] pos2] X.env = (false, eval (.Call (.Name "set" p2) [e] [] pos2) X.env) :: starEach [] X.env := by rfl) (hpl : (backTo pos (starEach [] X.env)).any (·.1) = false := by rfl) :
    TE X (.Call (.Name "sorted" p) [.Call (.Name "set" p2) [e] [] pos2] [] pos) (cUn ssetT te) := fun M S0 H0 E tk => by
  obtain ⟨tt, h1, h2⟩ := set_arg (p2 := p2) (pos2 := pos2) hc (by omega) (he M S0 H0 E tk) hg2 hm2 hs2 hpl2
  refine (pe_callB (cr_sortedX hc hu) hg hm boot_sorted (pa_cons h1 pa_nil hs) (by decide) (by decide) hs hpl).weak fun σ H Q ⟨τ, S, Qt, rel, h, k⟩ => h2 σ H _ ⟨τ, S, _, rel, h, fun x S1 v H1 ⟨z, ez, hq⟩ o1 x1 r1 => ?_⟩
  obtain ⟨ts, e1, e2, e3, rfl⟩ := sset_is ez
  exact ⟨ts, e1, e2, fun us vs a n nd mem rp => ⟨M, S1, a, us, vs, ts, rfl, upd_same, o1.new n, Reps.ext (Ext.new n) _ _ rp, nd, mem, setOk_kx e2, e3, fun v H' o' x' r' => k _ S1 v H' hq o' ((x1.trans (Ext.new n)).trans x') r'⟩⟩
theorem te_slen (hc : X.calm = true) (hu : X.A.units + 70 < cLine) (he : TE X e te) (hg : Gl X "len") (hm : X.mg "len" = none) (hg2 : Gl X "set") (hm2 : X.mg "set" = none)
    (hs2 : starEach [e] X.env = (false, eval e X.env) :: starEach [] X.env := by rfl) (hpl2 : (backTo pos2 (starEach [] X.env)).any (·.1) = false := by rfl)
    (hs : starEach [.Call (.Name "set" p2) [e] [] pos2] X.env = (false, eval (.Call (.Name "set" p2) [e] [] pos2) X.env) :: starEach [] X.env := by rfl) (hpl : (backTo pos (starEach [] X.env)).any (·.1) = false := by rfl) :
    TE X (.Call (.Name "len" p) [.Call (.Name "set" p2) [e] [] pos2] [] pos) (cUn slenT te) := fun M S0 H0 E tk => by
  obtain ⟨tt, h1, h2⟩ := set_arg (p2 := p2) (pos2 := pos2) hc (by omega) (he M S0 H0 E tk) hg2 hm2 hs2 hpl2
  refine (pe_callB cr_lenX hg hm PySem.boot_len (pa_cons h1 pa_nil hs) (by decide) (by decide) hs hpl).weak fun σ H Q ⟨τ, S, Qt, rel, h, k⟩ => h2 σ H _ ⟨τ, S, _, rel, h, fun x S1 v H1 ⟨z, ez, hq⟩ o1 x1 r1 => ?_⟩
  obtain ⟨ts, e1, e2, rfl⟩ := slen_is ez
  refine ⟨ts, e1, e2, fun us vs a n nd mem rp => ⟨a, vs, rfl, upd_same, ?_⟩⟩
  have kt := setOk_kx e2
  have l : us.length = (dedupT ts).length := (nodup_perm nd (dedupT_nodup kt) fun x => (mem x).trans (dedupT_mem kt x).symm).length_eq
  have l2 : us.length = vs.length := rp.length
  have := k (.int (dedupT ts).length) S1 (.int (dedupT ts).length) (upd H1 a (SetX X.w a vs)) hq (o1.new n) (x1.trans (Ext.new n)) (.int _)
  rw [← l2, l]
  exact this
end
end TL

/-! TLy: more rows to rewrite by: sets, cells given up, places drawn, names. -/
namespace TL
open PySem PySem.Spec PyProof.Rows L2

section
variable {S : Sto} {p : Addr} {xs ts : List T}
/-! ### cells given up -/
theorem offs_ups {c : Cell} (h : S p = none) : offs (ups S p c) p = S := by
  funext b
  unfold offs ups
  split
  · rename_i e; subst e; exact h.symm
  · rfl
theorem offs_ups_ne {a : Addr} {c : Cell} (h : a ≠ p) : offs (ups S a c) p = ups (offs S p) a c := by
  funext b
  by_cases e : b = p
  · subst e
    rw [offs_same, ups_ne (fun z => h z.symm), offs_same]
  · rw [offs_ne e]
    by_cases e2 : b = a
    · subst e2
      rw [ups_same, ups_same]
    · rw [ups_ne e2, ups_ne e2, offs_ne e]
theorem ups_comm {a : Addr} {c d : Cell} (h : a ≠ p) : ups (ups S a c) p d = ups (ups S p d) a c := by
  funext b
  unfold ups
  by_cases e : b = p
  · subst e
    rw [if_pos rfl, if_neg (fun z => h z.symm), if_pos rfl]
  · rw [if_neg e, if_neg e]
theorem sub_offs : Sub (offs S p) S := fun a c e => by
  unfold offs at e
  split at e
  · cases e
  · exact e
/-- a list cell is given up at the end -/
theorem Fin.lst {Q : T → Sto → Prop} (h : S p = some (.lst ts)) (q : Q (.lst ts) (offs S p)) : Fin Q (.ref p) S := ⟨offs S p, .lst ts, sub_offs, .lstc h offs_same (fzs_same ts), q⟩
where fzs_same {S S2 : Sto} : ∀ ts : List T, Fzs S S2 ts ts
  | [] => .nil
  | t :: ts => .cons (.same t) (fzs_same ts)
/-- a cell that is not told of is given up -/
theorem Fin.drop {Q : T → Sto → Prop} {z : T} (h : Fin Q z (offs S p)) : Fin Q z S := by
  obtain ⟨S2, u, k1, k2, q⟩ := h
  refine ⟨S2, u, fun a c e => sub_offs a c (k1 a c e), ?_, q⟩
  exact fz_sub k2
where
  fz_sub {S2 : Sto} : ∀ {t u : T}, Fz (offs S p) S2 t u → Fz S S2 t u
    | _, _, .same t => .same t
    | _, _, .lstc h1 h2 h3 => .lstc (sub_offs _ _ h1) h2 (fzs_sub h3)
    | _, _, .dctc h1 h2 h3 => .dctc (sub_offs _ _ h1) h2 (fzs_sub h3)
    | _, _, .insc h1 h2 h3 => .insc (sub_offs _ _ h1) h2 (fzs_sub h3)
    | _, _, .tup h => .tup (fzs_sub h)
    | _, _, .lst h => .lst (fzs_sub h)
  fzs_sub {S2 : Sto} : ∀ {ts us : List T}, Fzs (offs S p) S2 ts us → Fzs S S2 ts us
    | _, _, .nil => .nil
    | _, _, .cons a b => .cons (fz_sub a) (fzs_sub b)
theorem ssetT_lst : ssetT S (.lst xs) = if (setOk xs && sortOk xs) = true then some (.lst (sortU xs)) else none := rfl
theorem ssetT_tup : ssetT S (.tup xs) = if (setOk xs && sortOk xs) = true then some (.lst (sortU xs)) else none := rfl
theorem ssetT_ref (h : S p = some (.lst xs)) : ssetT S (.ref p) = if (setOk xs && sortOk xs) = true then some (.lst (sortU xs)) else none := by simp only [ssetT, res_ref h]
theorem slenT_lst : slenT S (.lst xs) = if setOk xs = true then some (.int (dedupT xs).length) else none := rfl
theorem slenT_tup : slenT S (.tup xs) = if setOk xs = true then some (.int (dedupT xs).length) else none := rfl
theorem sortedF_lst : sortedF S [.lst xs] = if (sortOk xs && decide (xs.length ≤ sizeLine)) = true then some (.lst (xs.mergeSort leT')) else none := rfl
theorem sortedF_tup : sortedF S [.tup xs] = if (sortOk xs && decide (xs.length ≤ sizeLine)) = true then some (.lst (xs.mergeSort leT')) else none := rfl
theorem tupleF_lst : tupleF S [.lst xs] = some (.tup xs) := rfl
theorem tupleF_tup : tupleF S [.tup xs] = some (.tup xs) := rfl
theorem listF_lst : listF S [.lst xs] = some (.lst xs) := rfl
theorem listF_tup : listF S [.tup xs] = some (.lst xs) := rfl
theorem tupleF_ref (h : S p = some (.lst xs)) : tupleF S [.ref p] = some (.tup xs) := by simp only [tupleF, res_ref h]
theorem listF_ref (h : S p = some (.lst xs)) : listF S [.ref p] = some (.lst xs) := by simp only [listF, res_ref h]
/-! ### sorted lists -/
theorem mergeSort_perm' (ts : List T) : (ts.mergeSort leT').Perm ts := List.mergeSort_perm ts _
theorem sortU_mem {ts : List T} (h : kxs ts = true) (x : T) : x ∈ sortU ts ↔ x ∈ ts := by
  unfold sortU
  rw [List.mem_mergeSort, dedupT_mem h]
theorem sortU_nodup {ts : List T} (h : kxs ts = true) : (sortU ts).Nodup := (List.mergeSort_perm (dedupT ts) _).nodup_iff.mpr (dedupT_nodup h)
theorem sortU_len (ts : List T) : (sortU ts).length = (dedupT ts).length := (List.mergeSort_perm _ _).length_eq
theorem dedupT_len : ∀ ts : List T, (dedupT ts).length ≤ ts.length
  | [] => Nat.le_refl _
  | t :: ts => by
    have := dedupT_len ts
    unfold dedupT
    split
    · rw [List.length_cons]; omega
    · rw [List.length_cons, List.length_cons]; omega
/-- strictly rising -/
def Rise (ts : List T) : Prop := ts.Pairwise fun a b => ltt a b = true
theorem pair_data {ts : List T} (ok : sortOk ts = true) : (ts.mergeSort leT').Pairwise fun a b => leT' a b = true := by
  have h : ∀ x ∈ ts, ∀ y ∈ ts, PySem.W.dataLt (dat x) (dat y) = ltt x y := (sortOk_of ok).2.2.2
  rw [← mergeSort_leT ts h]
  have total : ∀ a b : T, (PySem.W.dataLe false dat a b || PySem.W.dataLe false dat b a) = true := fun a b => by
    rw [PySem.W.dataLe_eq]
    simp only [cond_false, Bool.or_eq_true, Bool.not_eq_true']
    cases h : PySem.W.dataLt (dat b) (dat a) with
    | false => exact .inl rfl
    | true =>
      right
      cases h2 : PySem.W.dataLt (dat a) (dat b) with
      | false => rfl
      | true =>
        have := lex_trans _ _ _ h2 h
        rw [lex_irrefl] at this
        cases this
  refine (List.pairwise_mergeSort dataLe_trans total ts).imp_of_mem fun {a b} ha hb z => ?_
  rw [leT_data ok (List.mem_mergeSort.mp ha) (List.mem_mergeSort.mp hb)] at z
  exact z
/-- each once, sorted: strictly rising -/
theorem rise_sort {ts : List T} (kt : kxs ts = true) (ok : sortOk ts = true) (nd : ts.Nodup) : Rise (ts.mergeSort leT') := by
  have nd' : (ts.mergeSort leT').Nodup := (List.mergeSort_perm ts _).nodup_iff.mpr nd
  refine ((pair_data ok).and nd').imp_of_mem fun {a b} ha hb ⟨h1, h2⟩ => ?_
  have ha' := List.mem_mergeSort.mp ha
  have hb' := List.mem_mergeSort.mp hb
  cases h3 : ltt a b with
  | true => rfl
  | false =>
    have al : alk a b = true := by
      simp only [sortOk, Bool.and_eq_true, List.all_eq_true] at ok
      exact (ok.1 a ha').2 b hb'
    simp only [leT', Bool.not_eq_true'] at h1
    exact absurd (ltt_total a b (kxs_all.mp kt a ha') (kxs_all.mp kt b hb') al h3 h1) h2
theorem rise_sortU {ts : List T} (kt : kxs ts = true) (ok : sortOk ts = true) : Rise (sortU ts) :=
  rise_sort (kxs_all.mpr fun t ht => kxs_all.mp kt t ((dedupT_mem kt t).mp ht)) (sortOk_sub ok fun x hx => (dedupT_mem kt x).mp hx) (dedupT_nodup kt)
end
end TL

/-! TLz: texts in rows of texts, names. -/
namespace TL
open PySem PySem.Spec PyProof.Rows L2

section
variable {S : Sto} {p : Addr} {x y : List Sg} {xs : List (List Sg)}
theorem any_strs : ((xs.map T.str).any fun z => eqt z (.str x)) = decide (x ∈ xs) := by
  induction xs with
  | nil => rfl
  | cons y ys ih =>
    rw [List.map_cons, List.any_cons, ih]
    have e : eqt (.str y) (.str x) = decide (y = x) := rfl
    rw [e]
    by_cases h : y = x
    · subst h; simp
    · have h' : ¬ x = y := fun z => h z.symm
      simp [h, h']
theorem okd_strs : okd (.lst (xs.map T.str)) = true ∧ okd (.tup (xs.map T.str)) = true := by
  have p1 : plains (xs.map T.str) = true := by
    induction xs with
    | nil => rfl
    | cons y ys ih => rw [List.map_cons]; simp only [plains, ih, Bool.and_true]; rfl
  have d1 : deps (xs.map T.str) = 0 := by
    induction xs with
    | nil => rfl
    | cons y ys ih => rw [List.map_cons]; simp only [deps]; rw [ih (by rw [List.map_cons] at p1; simp only [plains, Bool.and_eq_true] at p1; exact p1.2)]; rfl
  simp only [okd, plain, dep, p1, d1]
  exact ⟨rfl, rfl⟩
theorem inQ_strs {z : T} (h : res S z = .lst (xs.map T.str) ∨ res S z = .tup (xs.map T.str)) : inQ S (.str x) z = some (decide (x ∈ xs)) := by
  unfold inQ
  rcases h with h | h
  · rw [h]
    simp only [okd_str, okd_strs.1, Bool.and_self, if_true, any_strs]
  · rw [h]
    simp only [okd_str, okd_strs.2, Bool.and_self, if_true, any_strs]
theorem inT_strs : inT S (.str x) (.lst (xs.map T.str)) = some (.bl (decide (x ∈ xs))) := by
  unfold inT; rw [inQ_strs (.inl rfl)]; rfl
theorem ninT_strs : ninT S (.str x) (.lst (xs.map T.str)) = some (.bl (!decide (x ∈ xs))) := by
  unfold ninT; rw [inQ_strs (.inl rfl)]; rfl
theorem inT_strsT : inT S (.str x) (.tup (xs.map T.str)) = some (.bl (decide (x ∈ xs))) := by
  unfold inT; rw [inQ_strs (.inr rfl)]; rfl
theorem ninT_strsT : ninT S (.str x) (.tup (xs.map T.str)) = some (.bl (!decide (x ∈ xs))) := by
  unfold ninT; rw [inQ_strs (.inr rfl)]; rfl
theorem inT_cell (h : S p = some (.lst (xs.map T.str))) : inT S (.str x) (.ref p) = some (.bl (decide (x ∈ xs))) := by
  unfold inT; rw [inQ_strs (.inl (res_ref h))]; rfl
theorem ninT_cell (h : S p = some (.lst (xs.map T.str))) : ninT S (.str x) (.ref p) = some (.bl (!decide (x ∈ xs))) := by
  unfold ninT; rw [inQ_strs (.inl (res_ref h))]; rfl
/-- a list of texts against the empty list -/
theorem eqts_nil {ts : List T} : eqts ts [] = ts.isEmpty := by cases ts <;> rfl
theorem okd_nil : okd (.lst []) = true := rfl
theorem neT_nil {z : T} {ts : List T} (h : res S z = .lst ts) (ok : okd (.lst ts) = true) : neT S z (.lst []) = some (.bl (!ts.isEmpty)) := by
  unfold neT
  have e : res S (.lst []) = .lst [] := rfl
  rw [h, e, ok, okd_nil]
  simp only [Bool.and_self, if_true, eqt, eqts_nil]
end
/-! ### names -/
def lowers : List Sg := q "abcdefghijklmnopqrstuvwxyz"
def NameOk (x : List Sg) : Prop := 1 ≤ x.length ∧ x.length ≤ 8 ∧ ∀ c ∈ x, c ∈ lowers
instance (x : List Sg) : Decidable (NameOk x) := by unfold NameOk; infer_instance
theorem lowers_len : lowers.length = 26 := by decide +kernel
theorem atI_mem {α : Type} {us : List α} {i : Int} (h0 : 0 ≤ i) (h1 : i < us.length) : ∃ y, y ∈ us ∧ L2.atI us i = some y := atI_ok h0 h1
/-! ### marks, families, books -/
def MKS : List (List Sg) := (["w", "m", "o"] : List Str).map q
theorem MKS_len : ∀ w ∈ MKS, w.length = 1 := by decide +kernel
def famT (f : List (List Sg)) : T := .tup (f.map T.str)
def folkT (x : List Sg × Nat) : T := .tup [.str x.1, .str (MKS.getD x.2 [])]
def kinT (x : List Sg × List (List Sg)) : T := .tup [.str x.1, famT x.2]
structure Book where
  folk : List (List Sg × Nat)
  unions : List (List (List Sg))
  births : List (List Sg × List (List Sg))
  adopts : List (List Sg × List (List Sg))
def bookT (B : Book) : T := .tup [.tup (B.folk.map folkT), .tup (B.unions.map famT), .tup (B.births.map kinT), .tup (B.adopts.map kinT)]
structure FamOk (names : List (List Sg)) (f : List (List Sg)) : Prop where
  lo : 1 ≤ f.length
  hi : f.length ≤ 2
  rise : Rise (f.map T.str)
  nd : f.Nodup
  mem : ∀ x ∈ f, x ∈ names
structure KinOk (names : List (List Sg)) (unions : List (List (List Sg))) (b : List Sg × List (List Sg)) : Prop where
  kid : b.1 ∈ names
  fam : b.2 ∈ unions
  own : b.1 ∉ b.2
structure BookOk (B : Book) : Prop where
  name : ∀ x ∈ B.folk, NameOk x.1 ∧ x.2 < 3
  nd : (B.folk.map (·.1)).Nodup
  rf : Rise (B.folk.map folkT)
  lf : B.folk.length ≤ 16
  un : ∀ f ∈ B.unions, FamOk (B.folk.map (·.1)) f
  ru : Rise (B.unions.map famT)
  lu : B.unions.length ≤ 16
  bi : ∀ b ∈ B.births, KinOk (B.folk.map (·.1)) B.unions b
  rb : Rise (B.births.map kinT)
  lb : B.births.length ≤ 24
  ad : ∀ b ∈ B.adopts, KinOk (B.folk.map (·.1)) B.unions b
  ra : Rise (B.adopts.map kinT)
  la : B.adopts.length ≤ 12
/-! their trees: keys, sorted -/
theorem plains_strs (xs : List (List Sg)) : plains (xs.map T.str) = true := by
  induction xs with
  | nil => rfl
  | cons y ys ih => rw [List.map_cons]; simp only [plains, ih, Bool.and_true]; rfl
theorem deps_strs (xs : List (List Sg)) : deps (xs.map T.str) = 0 := by
  induction xs with
  | nil => rfl
  | cons y ys ih => rw [List.map_cons]; simp only [deps, ih]; rfl
theorem kxs_strs (xs : List (List Sg)) : kxs (xs.map T.str) = true := by
  induction xs with
  | nil => rfl
  | cons y ys ih => rw [List.map_cons]; simp only [kxs, ih, Bool.and_true]; rfl
theorem alks_strs : ∀ xs ys : List (List Sg), alks (xs.map T.str) (ys.map T.str) = true
  | [], ys => by cases ys <;> rfl
  | x :: xs, [] => rfl
  | x :: xs, y :: ys => by rw [List.map_cons, List.map_cons]; simp only [alks, alk, alks_strs xs ys, Bool.and_self]
theorem fam_facts (f : List (List Sg)) : kx (famT f) = true ∧ okd (famT f) = true ∧ dep (famT f) = 1 := by
  refine ⟨?_, ?_, ?_⟩
  · simp only [famT, kx, kxs_strs]
  · simp only [famT, okd, plain, dep, plains_strs, deps_strs]; rfl
  · simp only [famT, dep, deps_strs]
theorem fam_alk (f g : List (List Sg)) : alk (famT f) (famT g) = true := by simp only [famT, alk, alks_strs]
theorem kin_facts (b : List Sg × List (List Sg)) : kx (kinT b) = true ∧ okd (kinT b) = true ∧ dep (kinT b) = 2 := by
  obtain ⟨h1, h2, h3⟩ := fam_facts b.2
  have h4 := okd_plain h2
  refine ⟨?_, ?_, ?_⟩
  · simp only [kinT, kx, kxs, h1]; rfl
  · simp only [kinT, okd, plain, plains, dep, deps, h3, h4]; rfl
  · simp only [kinT, dep, deps, h3]; rfl
theorem kin_alk (a b : List Sg × List (List Sg)) : alk (kinT a) (kinT b) = true := by simp only [kinT, alk, alks, fam_alk, Bool.and_self]
theorem folk_facts (x : List Sg × Nat) : kx (folkT x) = true ∧ okd (folkT x) = true ∧ dep (folkT x) = 1 := ⟨rfl, rfl, rfl⟩
theorem folk_alk (x y : List Sg × Nat) : alk (folkT x) (folkT y) = true := rfl
theorem sortOk_of_tups {α : Type} {f : α → T} {xs : List α} (h1 : ∀ x ∈ xs, okd (f x) = true) (h2 : ∀ x ∈ xs, ∀ y ∈ xs, alk (f x) (f y) = true) (h3 : ∀ x ∈ xs, ∃ a l, f x = .tup (a :: l)) : sortOk (xs.map f) = true := by
  simp only [sortOk, Bool.and_eq_true, Bool.or_eq_true, List.all_eq_true]
  refine ⟨fun x hx => ?_, .inl fun x hx => ?_⟩
  · obtain ⟨a, ha, rfl⟩ := List.mem_map.mp hx
    refine ⟨h1 a ha, fun y hy => ?_⟩
    obtain ⟨b, hb, rfl⟩ := List.mem_map.mp hy
    exact h2 a ha b hb
  · obtain ⟨a, ha, rfl⟩ := List.mem_map.mp hx
    obtain ⟨z, l, e⟩ := h3 a ha
    rw [e]
theorem sortOk_strs (xs : List (List Sg)) : sortOk (xs.map T.str) = true := by
  simp only [sortOk, Bool.and_eq_true, Bool.or_eq_true, List.all_eq_true]
  refine ⟨fun x hx => ?_, .inr fun x hx => ?_⟩
  · obtain ⟨a, ha, rfl⟩ := List.mem_map.mp hx
    refine ⟨rfl, fun y hy => ?_⟩
    obtain ⟨b, hb, rfl⟩ := List.mem_map.mp hy
    rfl
  · obtain ⟨a, ha, rfl⟩ := List.mem_map.mp hx
    rfl
theorem kxs_map {α : Type} {f : α → T} {xs : List α} (h : ∀ x ∈ xs, kx (f x) = true) : kxs (xs.map f) = true := kxs_all.mpr fun t ht => by
  obtain ⟨a, ha, rfl⟩ := List.mem_map.mp ht
  exact h a ha
theorem deps_le {ts : List T} {k : Nat} (h : ∀ t ∈ ts, dep t ≤ k) : deps ts ≤ k := by
  induction ts with
  | nil => exact Nat.zero_le _
  | cons t ts ih =>
    simp only [deps]
    have := h t List.mem_cons_self
    have := ih fun x hx => h x (List.mem_cons_of_mem _ hx)
    omega
theorem setOk_tups {α : Type} {f : α → T} {xs : List α} (h1 : ∀ x ∈ xs, kx (f x) = true) (h2 : ∀ x ∈ xs, isTup (f x) = true) (h3 : ∀ x ∈ xs, dep (f x) ≤ 8) (h4 : xs.length ≤ 62) : setOk (xs.map f) = true := by
  simp only [setOk, Bool.and_eq_true, Bool.or_eq_true, decide_eq_true_eq]
  refine ⟨kxs_map h1, .inl ⟨List.all_eq_true.mpr fun t ht => ?_, deps_le fun t ht => ?_, ?_⟩⟩
  · obtain ⟨a, ha, rfl⟩ := List.mem_map.mp ht
    exact h2 a ha
  · obtain ⟨a, ha, rfl⟩ := List.mem_map.mp ht
    exact h3 a ha
  · have := dedupT_len (xs.map f)
    rw [List.length_map] at this
    omega
/-- a list of a kind, sorted: of this kind still -/
theorem sort_back {α : Type} (f : α → T) (xs : List α) : ∃ ys : List α, (xs.map f).mergeSort leT' = ys.map f ∧ ys.Perm xs := by
  obtain ⟨ys, p, e⟩ := perm_map f (List.mergeSort_perm (xs.map f) leT') xs rfl
  exact ⟨ys, e, p⟩
/-- each once, sorted: of this kind still -/
theorem sortU_back {α : Type} (f : α → T) : ∀ (xs : List α), kxs (xs.map f) = true → ∃ ys : List α, sortU (xs.map f) = ys.map f ∧ ∀ y ∈ ys, y ∈ xs := by
  intro xs hk
  have sub : ∀ ts : List T, (∀ t ∈ ts, t ∈ xs.map f) → ∃ ys : List α, ts = ys.map f ∧ ∀ y ∈ ys, y ∈ xs := by
    intro ts
    induction ts with
    | nil => exact fun _ => ⟨[], rfl, fun y hy => by cases hy⟩
    | cons t ts ih =>
      intro h
      obtain ⟨ys, e, hy⟩ := ih fun x hx => h x (List.mem_cons_of_mem _ hx)
      obtain ⟨a, ha, e2⟩ := List.mem_map.mp (h t List.mem_cons_self)
      refine ⟨a :: ys, by rw [List.map_cons, e2, e], fun y hy2 => ?_⟩
      rcases List.mem_cons.mp hy2 with z | z
      · subst z; exact ha
      · exact hy y z
  exact sub _ fun t ht => (sortU_mem hk t).mp ht
theorem wmo_len : (q "wmo").length = 3 := by decide +kernel
theorem wmo_at {S : Sto} {k : Nat} (h : k < 3) : ixT S (.str (q "wmo")) (.int (k : Int)) = some (.str (MKS.getD k [])) := by
  rw [ixT_str, if_pos (by rw [wmo_len, sizeLine_eq]; omega), atI_natE]
  have e : ((q "wmo")[k]?).map (fun c => [c]) = some (MKS.getD k []) := by
    match k, h with
    | 0, _ => decide +kernel
    | 1, _ => decide +kernel
    | 2, _ => decide +kernel
  have e2 : ((q "wmo")[k]?).map (fun c => T.str [c]) = (((q "wmo")[k]?).map (fun c => [c])).map T.str := by rw [Option.map_map]; rfl
  rw [e2, e]
  rfl
theorem ninT_fam {S : Sto} {x : List Sg} {f : List (List Sg)} : ninT S (.str x) (famT f) = some (.bl (!decide (x ∈ f))) := ninT_strsT
theorem inT_fam {S : Sto} {x : List Sg} {f : List (List Sg)} : inT S (.str x) (famT f) = some (.bl (decide (x ∈ f))) := inT_strsT
theorem atI_map_getD {α : Type} {f : α → T} {us : List α} {i : Int} (h0 : 0 ≤ i) (h1 : i < us.length) : ∃ y, y ∈ us ∧ L2.atI (us.map f) i = some (f y) := by
  obtain ⟨n, rfl⟩ := Int.eq_ofNat_of_zero_le h0
  have h : n < us.length := by omega
  exact ⟨us[n], List.getElem_mem _, by rw [atI_natE, List.getElem?_map, List.getElem?_eq_getElem h]; rfl⟩
theorem plains_map {α : Type} {f : α → T} {xs : List α} (h : ∀ x ∈ xs, plain (f x) = true) : plains (xs.map f) = true := by
  induction xs with
  | nil => rfl
  | cons y ys ih =>
    rw [List.map_cons]
    simp only [plains, h y List.mem_cons_self, ih fun x hx => h x (List.mem_cons_of_mem _ hx), Bool.and_self]
theorem okd_map {α : Type} {f : α → T} {xs : List α} (h : ∀ x ∈ xs, okd (f x) = true ∧ dep (f x) ≤ 60) : okd (.lst (xs.map f)) = true ∧ okd (.tup (xs.map f)) = true := by
  have p := plains_map (f := f) fun x hx => okd_plain (h x hx).1
  have d : deps (xs.map f) ≤ 60 := deps_le fun t ht => by
    obtain ⟨a, ha, rfl⟩ := List.mem_map.mp ht
    exact (h a ha).2
  constructor
  · show (plains (xs.map f) && decide (deps (xs.map f) + 1 ≤ 64)) = true
    rw [p, decide_eq_true (by omega)]; rfl
  · show (plains (xs.map f) && decide (deps (xs.map f) + 1 ≤ 64)) = true
    rw [p, decide_eq_true (by omega)]; rfl
theorem rise_take {ts : List T} (h : Rise ts) (n : Nat) : Rise (ts.take n) := h.sublist (List.take_sublist _ _)
theorem nodup_map {α β : Type} {f : α → β} (inj : ∀ a b, f a = f b → a = b) {l : List α} (h : l.Nodup) : (l.map f).Nodup := List.pairwise_map.mpr (h.imp fun {a b} hne e => hne (inj a b e))
theorem str_inj {a b : List Sg} (h : T.str a = T.str b) : a = b := by injection h
/-- a family drawn, sorted -/
theorem fam_sorted {names f : List (List Sg)} (nd : f.Nodup) (lo : 1 ≤ f.length) (hi : f.length ≤ 2) (mem : ∀ x ∈ f, x ∈ names) : ∃ g, (f.map T.str).mergeSort leT' = g.map T.str ∧ FamOk names g := by
  obtain ⟨g, e, p⟩ := sort_back T.str f
  have l := p.length_eq
  refine ⟨g, e, by omega, by omega, ?_, p.nodup_iff.mpr nd, fun x hx => mem x (p.mem_iff.mp hx)⟩
  rw [← e]
  exact rise_sort (kxs_strs f) (sortOk_strs f) (nodup_map (fun a b => str_inj) nd)
end TL

/-! TLza: enumerate and zip of lists and tuples, any mix. -/
namespace TL
open PySem PySem.Spec PyProof.Rows L2

def SqB (b : Bool) (K : PySem.W.Frag) (H : Hp) (a : Addr) (xs : List V) : Prop := cond b (SqL K H a xs) (SqT K H a xs)
def ItB (b : Bool) (h : Heap) (it l : Addr) (i : Nat) : Prop := cond b (h.IsListIter it l i) (h.IsTupleIter it l i)
def SeB (b : Bool) (h : Heap) (l : Addr) (items : Array Value) : Prop := cond b (h.IsList l items) (h.IsTuple l items)
def objB (b : Bool) (l : Addr) : Obj := cond b { cls := .type "list_iterator", data := .fields #[.ref l, .int 0 0] } { cls := .type "tuple_iterator", data := .fields #[.ref l, .int 0 0] }
theorem drawsB (b : Bool) {prog : Program} {w : World} {A : Around} (hh : A.handled = none) (it l : Addr) (hne : l ≠ it) (items : Array Value) :
    Draws prog w A it [it, l] items.size (fun i v => items[i]? = some v) (fun i h => ItB b h it l i ∧ SeB b h l items) := by
  cases b
  · exact Draws.tuple hh it l hne items
  · exact Draws.list hh it l hne items
theorem begins_B (b : Bool) (l : Addr) (items : Array Value) : Begins (.ref l) (objB b l) fun h => SeB b h l items := by
  cases b
  · exact begins_tuple l items
  · exact begins_list l items
theorem ItB.at {b : Bool} {h h' : Heap} {it l : Addr} {i : Nat} (x : ItB b h it l i) (k : ∀ o, h.get? it = some o → h'.get? it = some o) : ItB b h' it l i := by
  cases b
  · exact Heap.IsTupleIter.at x k
  · exact Heap.IsListIter.at x k
theorem ItB.obj {b : Bool} {h : Heap} {it l : Addr} {i : Nat} (x : ItB b h it l i) : ∃ o, h.get? it = some o ∧ ∀ v, o.data ≠ .cell v := by
  cases b
  · obtain ⟨o, ho, _, hd⟩ := x
    exact ⟨o, ho, fun v q => by rw [hd] at q; cases q⟩
  · obtain ⟨o, ho, _, hd⟩ := x
    exact ⟨o, ho, fun v q => by rw [hd] at q; cases q⟩
theorem ItB.new {b : Bool} {h : Heap} {it l : Addr} (x : h.get? it = some (objB b l)) : ItB b h it l 0 := by
  cases b
  · exact ⟨_, x, rfl, rfl⟩
  · exact ⟨_, x, rfl, rfl⟩
section
variable {X : Cx} {pins : List (Addr × Obj)} {σ : L2.St} {H : Hp} {s : Shared}
theorem sqB_get {b : Bool} {a : Addr} {xs : List V} (I : Inv X pins σ H s) (h : SqB b X.K H a xs) : ∃ its : List Value, Vals xs its ∧ SeB b s.heap a its.toArray ∧ a < s.heap.objs.size := by
  cases b
  · obtain ⟨its, rv, p, _⟩ := I.tuple h
    obtain ⟨o, ho, _⟩ := id p
    exact ⟨its, rv, p, Heap.lt_size ho⟩
  · obtain ⟨its, rv, p, _⟩ := I.list h
    exact ⟨its, rv, p.isList, p.lt⟩
theorem sqB_inj {b : Bool} {a : Addr} {xs ys : List V} (I : Inv X pins σ H s) (h : SqB b X.K H a xs) (k : SqB b X.K H a ys) : xs = ys := by
  cases b
  · exact I.tuple_inj h k
  · exact I.list_inj h k
end
/-- the row at a as it stands at each turn, each item in a new pair -/
def IteB (b : Bool) (K : PySem.W.Frag) (a : Addr) : It :=
  ⟨fun i H => ∃ (xs : List V) (x : V), SqB b K H a xs ∧ xs[i]? = some x, fun i H v H' => ∃ T x, v = .ref T ∧ H T = none ∧ H' = upd H T (.tup [.int (i : Nat), x]) ∧ ∀ xs, SqB b K H a xs → xs[i]? = some x, fun i H => ∃ xs : List V, SqB b K H a xs ∧ xs.length = i⟩
theorem turn_enumB (b : Bool) {P : Program} {w : World} {K : PySem.W.Frag} {elts : List Expr} {kk : Nat} {tpos : Pos} (a e it : Addr) (hei : e ≠ it) (hea : e ≠ a) (hai : a ≠ it) :
    Turn P w K (.Tuple elts kk tpos) (IteB b K a) [e, it] e (fun i h => (∃ old, IsEnum h e it ((i : Nat) : Int) old) ∧ ItB b h it a i) where
  mem := by simp
  obj := fun i h st c hc => by
    obtain ⟨⟨old, he⟩, hi⟩ := st
    have e' : c = e ∨ c = it := by simpa using hc
    rcases e' with z | z
    · rw [z]; exact ⟨_, he, fun v q => nomatch q⟩
    · rw [z]; exact hi.obj
  keep := fun i h h' st k => let ⟨⟨old, he⟩, hi⟩ := st; ⟨⟨old, k e (by simp) _ he⟩, hi.at fun o q => k it (by simp) o q⟩
  item := by
    intro X hP hw hK hc i pins s σ H E I hf st hg
    subst hP hw hK
    obtain ⟨⟨old, he⟩, hit⟩ := st
    obtain ⟨xs, x, hq, hx⟩ := hg
    obtain ⟨its, rv, p, _⟩ := sqB_get I hq
    obtain ⟨u, hu, ru⟩ := rv.get hx
    have hel : e < s.heap.objs.size := Heap.lt_size he
    have hil : it < s.heap.objs.size := by obtain ⟨_, q, _⟩ := hit.obj; exact Heap.lt_size q
    have hef : e ∉ [it, a] := by simp [hei, hea]
    have hlt : i < its.toArray.size := by
      have := (List.getElem?_eq_some_iff.mp hu).1
      simpa using this
    refine wpAny_pyNext_enum_itemD (drawsB b (A := X.A.in1) (I.ok.hd hc) it a hai its.toArray) he ⟨hit, p⟩ hlt hei hef fun x' h' tk hx' ho st' hT hsz hk => ?_
    have ex : x' = u := by
      have h1 : its.toArray[i]? = some u := by simpa using hu
      exact (Option.some.inj (h1.symm.trans hx')).symm
    subst ex
    refine ⟨_, rfl, wpAny_letOwnedTupleGo_enum (s := { s with heap := h', toks := tk + 1 }) ho fun h'' he' sb => ?_⟩
    have hT2 : h''.get? s.heap.objs.size = some { cls := .type "tuple", data := .seq #[.int i tk, x'] } := (sb.2 _ (Nat.ne_of_gt hel)).trans hT
    have new : ObjOk X.prog X.w (upd H s.heap.objs.size (.tup [.int (i : Nat), x])) h'' s.heap.objs.size (.tup [.int (i : Nat), x]) :=
      ⟨by show 2 ≤ sizeLine; decide, [.int i tk, x'], .cons ⟨_, rfl⟩ (.cons ru .nil), ⟨_, hT2, rfl, _, rfl⟩⟩
    have I1 : Inv X pins σ (upd H s.heap.objs.size (.tup [.int (i : Nat), x])) { s with heap := h'', toks := tk + 1 } :=
      I.turnedNew (t' := tk + 1) (ch := [e, it]) (fun b ob hb q => (sb.2 b (fun z => hb (by simp [z]))).trans (hk b ob (fun z => hb (by simp [z])) (fun z => hb (by simp [z])) q)) hf (Nat.le_refl _) new
    refine ⟨.ref s.heap.objs.size, _, I1, rfl, ⟨_, x, rfl, I.hok.fresh (Nat.le_refl _), rfl, fun ys hy => by rw [sqB_inj I hy hq]; exact hx⟩, ⟨⟨x', ?_⟩, st'.1.at fun o q => (sb.2 it (Ne.symm hei)).trans q⟩, fun b hb => ?_⟩
    · have e1 : ((i + 1 : Nat) : Int) = (i : Int) + 1 := by omega
      rw [e1]; exact he'
    · have hb' : b < s.heap.objs.size := by
        have e' : b = e ∨ b = it := by simpa using hb
        rcases e' with z | z
        · rw [z]; exact hel
        · rw [z]; exact hil
      rw [upd_ne (Nat.ne_of_lt hb')]
      exact (hf b hb).1
  done := by
    intro X hP hw hK hc i pins s σ H E I hf st hg
    subst hP hw hK
    obtain ⟨⟨old, he⟩, hit⟩ := st
    obtain ⟨xs, hq, hx⟩ := hg
    obtain ⟨its, rv, p, _⟩ := sqB_get I hq
    obtain ⟨f0, f1, f2, f3, f4, f5⟩ := hf it (by simp)
    have hl := rv.length
    have en : i = its.toArray.size := by simp; omega
    subst en
    exact wpAny_pyNext_enum_endD (drawsB b (A := X.A.in1) (I.ok.hd hc) it a hai its.toArray) he ⟨hit, p⟩ fun h' eb => ⟨rfl, I.turned (t' := s.toks) (fun b o hb q => eb b o hb q) f0 f1 f3 f4 f5⟩
  self := fun A i s Q E st h => let ⟨⟨_, he⟩, _⟩ := st; wpAny_pyIter_enum he h
set_option maxHeartbeats 1000000 in
theorem meets_enumerate_new1 {v : Value} {o : Obj} {H : Heap → Prop} (B : Begins v o H) :
    Meets (Builtin.«enumerate.__new__» ⟨[.type "enumerate", v], []⟩) (fun _ R s => H s.heap ∧
      R (.ok (.ret (.ref (s.heap.push o).objs.size))) { s with heap := (s.heap.push o).push { cls := .type "enumerate", data := .fields #[.none, .bool false, .ref s.heap.objs.size, rawInt 0, .none, .none] } }) :=
  .of_wp fun prog w A R s h => by
    obtain ⟨hp, g, d, tk, os⟩ := s; obtain ⟨h1, h⟩ := h
    have hsub := sub_enumerate
    have q1 : ∀ {A' : Around} {E : Value → Shared → Prop} {Q : Value → Shared → Prop}, Q (.ref hp.objs.size) ⟨hp.push o, g, d, tk, os⟩ → wpAny (model prog w) A' (pyIter v) Q E ⟨hp, g, d, tk, os⟩ :=
      fun q => B.iter prog w _ _ ⟨hp, g, d, tk, os⟩ _ h1 q
    wp_walk using q1
    refine wpAny_stack_any fun st => wpAny_pure ?_
    split
    · rename_i c _ _ _ _ _
      cases (c == Value.type "enumerate")
      · wp_walk using q1
        exact ⟨_, rfl, h⟩
      · wp_walk using q1
        exact ⟨_, rfl, h⟩
    · wp_walk using q1
      exact ⟨_, rfl, h⟩
theorem enum_begins1 {prog : Program} {w : World} {A : Around} {E : Value → Shared → Prop} {s : Shared} {v : Value} {o : Obj} {H : Heap → Prop} {Q : Value → Shared → Prop} (B : Begins v o H) (h1 : H s.heap)
    (h : ∀ h', IsEnum h' (s.heap.objs.size + 1) s.heap.objs.size 0 .none → h'.get? s.heap.objs.size = some o → h'.objs.size = s.heap.objs.size + 2 →
      (∀ b o, s.heap.get? b = some o → h'.get? b = some o) → Q (.ref (s.heap.objs.size + 1)) { s with heap := h' }) :
    wpAny (model prog w) A (call (.type "enumerate") [v]) Q E s := by
  refine callType_new F.called_enumerate (by decide) (F.typeCall_enumerate_1 _) (F.newCall_enumerate_1 _) (fun obj => F.args_object_init_2 obj _) F.entry_enumerate_new
    (meets_enumerate_new1 B) ⟨h1, ?_⟩
  have hz : (s.heap.push o).objs.size = s.heap.objs.size + 1 := Heap.size_push ..
  show _ ∧ _
  rw [hz]
  have he : IsEnum ((s.heap.push o).push { cls := .type "enumerate", data := .fields #[.none, .bool false, .ref s.heap.objs.size, rawInt 0, .none, .none] }) (s.heap.objs.size + 1) s.heap.objs.size 0 .none := by
    have := Heap.get?_push_size (s.heap.push o) (o := { cls := .type "enumerate", data := .fields #[.none, .bool false, .ref s.heap.objs.size, rawInt 0, .none, .none] }) rfl
    rw [hz] at this; exact this
  refine ⟨⟨_, he, rfl⟩, h _ he (Heap.get?_push_of_some _ (Heap.get?_push_size _ B.free)) (by rw [Heap.size_push, hz]) fun b o x => Heap.get?_push_of_some _ (Heap.get?_push_of_some _ x)⟩
def iEnumB (K : PySem.W.Frag) (ta : L2.TA) : L2.TI := fun σ H R => ta σ H fun vs H1 => ∃ b a xs, vs = [.ref a] ∧ SqB b K H1 a xs ∧ R (IteB b K a) H1
theorem pi_enumB {X : Cx} {e : Expr} {ta : L2.TA} {p pos tpos : Pos} {elts : List Expr} {kk : Nat} (hg : Gl X "enumerate") (hm : X.mg "enumerate" = none) (ha : PA X [e] ta) (hs : starEach [e] X.env = [(false, eval e X.env)] := by rfl) :
    PI X (.Tuple elts kk tpos) (.Call (.Name "enumerate" p) [e] [] pos) (iEnumB X.K ta) := by
  refine ⟨fun pins s σ H R I h => ?_⟩
  refine Call_ (ld_blt I hg hm boot_enumerate (PyProof.Rows.callWith_type1 (thn (ha.run pos pins s σ H _ I h) fun us s1 ⟨vs, H1, I1, r1, q1⟩ => ?_) hs rfl))
  obtain ⟨b, a, xs, ex, hq, q⟩ := q1
  subst ex
  cases r1 with
  | cons r rr =>
    cases rr
    cases r
    obtain ⟨its, rv, p', hl⟩ := sqB_get I1 hq
    refine enum_begins1 (begins_B b a its.toArray) p' fun h' he hit hsz hk => wpAny_pyIter_enum he ?_
    have I2 : Inv X pins σ H1 { s1 with heap := h' } := I1.kept (t' := s1.toks) hk
    refine ⟨s1.heap.objs.size + 1, [s1.heap.objs.size + 1, s1.heap.objs.size], _, _, H1, rfl, I2, turn_enumB b a (s1.heap.objs.size + 1) s1.heap.objs.size (Nat.succ_ne_self _) (Nat.ne_of_gt (Nat.lt_succ_of_lt hl)) (Nat.ne_of_lt hl), ⟨⟨.none, he⟩, ItB.new hit⟩, fun b hb => ?_, q⟩
    have e' : b = s1.heap.objs.size + 1 ∨ b = s1.heap.objs.size := by simpa using hb
    have hle : s1.heap.objs.size ≤ b := by
      rcases e' with z | z
      · rw [z]; exact Nat.le_add_right _ _
      · rw [z]; exact Nat.le_refl _
    exact I1.fpOk hle (I1.hok.fresh hle)
/-- the rows at a and c as they stand at each turn, the items in new pairs -/
def ItzB (b1 b2 : Bool) (K : PySem.W.Frag) (a c : Addr) : It :=
  ⟨fun i H => ∃ (xs ys : List V) (x y : V), SqB b1 K H a xs ∧ SqB b2 K H c ys ∧ xs[i]? = some x ∧ ys[i]? = some y,
    fun i H v H' => ∃ T x y, v = .ref T ∧ H T = none ∧ H' = upd H T (.tup [x, y]) ∧ (∀ xs, SqB b1 K H a xs → xs[i]? = some x) ∧ ∀ ys, SqB b2 K H c ys → ys[i]? = some y,
    fun i H => ∃ xs ys : List V, SqB b1 K H a xs ∧ SqB b2 K H c ys ∧ i ≤ xs.length ∧ i ≤ ys.length ∧ (i = xs.length ∨ i = ys.length)⟩
theorem turn_zipB (b1 b2 : Bool) {P : Program} {w : World} {K : PySem.W.Frag} {elts : List Expr} {kk : Nat} {tpos : Pos} {a c z TI TO i1 i2 : Addr} (D : ZipSep2 z TI TO i1 i2 [i1, a] [i2, c]) (n1 : a ≠ i1) (n2 : c ≠ i2) :
    Turn P w K (.Tuple elts kk tpos) (ItzB b1 b2 K a c) [z, TI, TO, i1, i2] z (fun i h => IsZip h z TI TO .none ∧ IsTupOf2 h TI (.ref i1) (.ref i2) ∧ (∃ x y, IsTupOf2 h TO x y) ∧ ItB b1 h i1 a i ∧ ItB b2 h i2 c i) where
  mem := by simp
  obj := fun i h st d hd => by
    obtain ⟨hz, hTI, ⟨x, y, hTO⟩, h1, h2⟩ := st
    have e' : d = z ∨ d = TI ∨ d = TO ∨ d = i1 ∨ d = i2 := by simpa using hd
    rcases e' with q | q | q | q | q
    · rw [q]; exact ⟨_, hz, fun v q => nomatch q⟩
    · rw [q]; exact ⟨_, hTI, fun v q => nomatch q⟩
    · rw [q]; exact ⟨_, hTO, fun v q => nomatch q⟩
    · rw [q]; exact h1.obj
    · rw [q]; exact h2.obj
  keep := fun i h h' st k => by
    obtain ⟨hz, hTI, ⟨x, y, hTO⟩, h1, h2⟩ := st
    exact ⟨k z (by simp) _ hz, k TI (by simp) _ hTI, ⟨x, y, k TO (by simp) _ hTO⟩, h1.at fun o q => k i1 (by simp) o q, h2.at fun o q => k i2 (by simp) o q⟩
  item := by
    intro X hP hw hK hc i pins s σ H E I hf st hg
    subst hP hw hK
    obtain ⟨hz, hTI, ⟨x0, y0, hTO⟩, h1, h2⟩ := st
    obtain ⟨xs, ys, x, y, hqx, hqy, hx, hy⟩ := hg
    obtain ⟨its, rv, p, _⟩ := sqB_get I hqx
    obtain ⟨its2, rv2, p2, _⟩ := sqB_get I hqy
    obtain ⟨u, hu, ru⟩ := rv.get hx
    obtain ⟨u2, hu2, ru2⟩ := rv2.get hy
    have hzl : z < s.heap.objs.size := Heap.lt_size hz
    have hlt1 : i < its.toArray.size := by
      have := (List.getElem?_eq_some_iff.mp hu).1
      simpa using this
    have hlt2 : i < its2.toArray.size := by
      have := (List.getElem?_eq_some_iff.mp hu2).1
      simpa using this
    refine wpAny_pyNext_zipD2_item D (drawsB b1 (A := X.A.in1) (I.ok.hd hc) i1 a n1 its.toArray) (drawsB b2 (A := X.A.in1) (I.ok.hd hc) i2 c n2 its2.toArray) hz hTI hTO ⟨h1, p⟩ ⟨h2, p2⟩ hlt1 hlt2 fun x' y' h' tk hx' hy' z' TO' st1 st2 hT hsz hk => ?_
    have ex : x' = u := by
      have q : its.toArray[i]? = some u := by simpa using hu
      exact (Option.some.inj (q.symm.trans hx')).symm
    have ey : y' = u2 := by
      have q : its2.toArray[i]? = some u2 := by simpa using hu2
      exact (Option.some.inj (q.symm.trans hy')).symm
    subst ex ey
    refine ⟨_, rfl, wpAny_letOwnedTupleGo_zip (s := { s with heap := h', toks := tk }) z' fun h'' z'' sb => ?_⟩
    have hT2 : h''.get? s.heap.objs.size = some { cls := .type "tuple", data := .seq #[x', y'] } := (sb.2 _ (Nat.ne_of_gt hzl)).trans hT
    have new : ObjOk X.prog X.w (upd H s.heap.objs.size (.tup [x, y])) h'' s.heap.objs.size (.tup [x, y]) :=
      ⟨by show 2 ≤ sizeLine; decide, [x', y'], .cons ru (.cons ru2 .nil), ⟨_, hT2, rfl, _, rfl⟩⟩
    have I1 : Inv X pins σ (upd H s.heap.objs.size (.tup [x, y])) { s with heap := h'', toks := tk } :=
      I.turnedNew (t' := tk) (ch := [z, TI, TO, i1, i2]) (fun d o hb q => (sb.2 d (fun q' => hb (by simp [q']))).trans (hk d o (fun q' => hb (by simp [q'])) (fun q' => hb (by simp [q'])) (fun q' => hb (by simp [q'])) (fun q' => hb (by simp [q'])) q)) hf (Nat.le_refl _) new
    refine ⟨.ref s.heap.objs.size, _, I1, rfl, ⟨_, x, y, rfl, I.hok.fresh (Nat.le_refl _), rfl, fun l hl => by rw [sqB_inj I hl hqx]; exact hx, fun l hl => by rw [sqB_inj I hl hqy]; exact hy⟩, ⟨z'', ?_, ⟨x', y', ?_⟩, ?_, ?_⟩, fun d hcm => ?_⟩
    · exact (sb.2 _ D.TIz).trans (hk _ _ D.TIz D.TITO D.TIi1 D.TIi2 hTI)
    · exact (sb.2 _ D.TOz).trans TO'
    · exact st1.1.at fun o q => (sb.2 _ (Ne.symm D.zi1)).trans q
    · exact st2.1.at fun o q => (sb.2 _ (Ne.symm D.zi2)).trans q
    · have hlt : d < s.heap.objs.size := by
        have e' : d = z ∨ d = TI ∨ d = TO ∨ d = i1 ∨ d = i2 := by simpa using hcm
        rcases e' with q | q | q | q | q
        · rw [q]; exact hzl
        · rw [q]; exact Heap.lt_size hTI
        · rw [q]; exact Heap.lt_size hTO
        · rw [q]; obtain ⟨_, e1, _⟩ := h1.obj; exact Heap.lt_size e1
        · rw [q]; obtain ⟨_, e2, _⟩ := h2.obj; exact Heap.lt_size e2
      rw [upd_ne (Nat.ne_of_lt hlt)]
      exact (hf d hcm).1
  done := by
    intro X hP hw hK hc i pins s σ H E I hf st hg
    subst hP hw hK
    obtain ⟨hz, hTI, ⟨x0, y0, hTO⟩, h1, h2⟩ := st
    obtain ⟨xs, ys, hqx, hqy, l1, l2, hend⟩ := hg
    obtain ⟨its, rv, p, _⟩ := sqB_get I hqx
    obtain ⟨its2, rv2, p2, _⟩ := sqB_get I hqy
    have k1 := rv.length
    have k2 := rv2.length
    exact wpAny_pyNext_zipD2_end D (drawsB b1 (A := X.A.in1) (I.ok.hd hc) i1 a n1 its.toArray) (drawsB b2 (A := X.A.in1) (I.ok.hd hc) i2 c n2 its2.toArray) hz hTI hTO ⟨h1, p⟩ ⟨h2, p2⟩ (by simp; omega) (by simp; omega) (by simp; omega) fun h' tk hk => ⟨rfl, I.turnedL (t' := tk) (ch := [z, TI, TO, i1, i2]) (fun d o hb q =>
      hk d o (fun q' => hb (by simp [q'])) (fun q' => hb (by simp [q'])) (fun q' => hb (by simp [q'])) (fun q' => hb (by simp [q'])) q) hf⟩
  self := fun A i s Q E st h => wpAny_pyIter_zip st.1 h
def iZipB (K : PySem.W.Frag) (ta : L2.TA) : L2.TI := fun σ H R => ta σ H fun vs H1 => ∃ b1 b2 a c xs ys, vs = [.ref a, .ref c] ∧ SqB b1 K H1 a xs ∧ SqB b2 K H1 c ys ∧ R (ItzB b1 b2 K a c) H1
theorem pi_zipB {X : Cx} {e e2 : Expr} {ta : L2.TA} {p pos tpos : Pos} {elts : List Expr} {kk : Nat} (hg : Gl X "zip") (hm : X.mg "zip" = none) (ha : PA X [e, e2] ta)
    (hs : starEach [e, e2] X.env = (false, eval e X.env) :: starEach [e2] X.env := by rfl) (hpl : (backTo pos (starEach [e2] X.env)).any (·.1) = false := by rfl) :
    PI X (.Tuple elts kk tpos) (.Call (.Name "zip" p) [e, e2] [] pos) (iZipB X.K ta) := by
  refine ⟨fun pins s σ H R I h => ?_⟩
  refine Call_ (ld_blt I hg hm PyProof.Rows.boot_zip (PyProof.Rows.callWith_type1 (thn (ha.run pos pins s σ H _ I h) fun us s1 ⟨vs, H1, I1, r1, q1⟩ => ?_) hs hpl))
  obtain ⟨b1, b2, a, c, xs, ys, ex, hqx, hqy, q⟩ := q1
  subst ex
  cases r1 with
  | cons r rr =>
    cases rr with
    | cons r' rr =>
      cases rr
      cases r
      cases r'
      have fresh5 : ∀ d, d ∈ [s1.heap.objs.size + 4, s1.heap.objs.size + 2, s1.heap.objs.size + 3, s1.heap.objs.size, s1.heap.objs.size + 1] → FpOk X pins H1 d := fun d hcm => by
        have e' : d = s1.heap.objs.size + 4 ∨ d = s1.heap.objs.size + 2 ∨ d = s1.heap.objs.size + 3 ∨ d = s1.heap.objs.size ∨ d = s1.heap.objs.size + 1 := by simpa using hcm
        have hle : s1.heap.objs.size ≤ d := by
          rcases e' with z | z | z | z | z
          · rw [z]; exact Nat.le_add_right _ _
          · rw [z]; exact Nat.le_add_right _ _
          · rw [z]; exact Nat.le_add_right _ _
          · rw [z]; exact Nat.le_refl _
          · rw [z]; exact Nat.le_add_right _ _
        exact I1.fpOk hle (I1.hok.fresh hle)
      obtain ⟨its, rv, p1, l1⟩ := sqB_get I1 hqx
      obtain ⟨its2, rv2, p2, l2⟩ := sqB_get I1 hqy
      refine zip_begins2 (begins_B b1 a its.toArray) (begins_B b2 c its2.toArray) p1 p2 fun h' hz hTI hTO h1 h2 hsz hk => wpAny_pyIter_zip hz ?_
      have I2 : Inv X pins σ H1 { s1 with heap := h' } := I1.kept (t' := s1.toks) hk
      exact ⟨s1.heap.objs.size + 4, [s1.heap.objs.size + 4, s1.heap.objs.size + 2, s1.heap.objs.size + 3, s1.heap.objs.size, s1.heap.objs.size + 1], _, _, H1, rfl, I2,
        turn_zipB b1 b2 (zip_sep2 (fp1 := [a]) (fp2 := [c]) (fun b hb => by rw [List.mem_singleton.mp hb]; exact l1) fun b hb => by rw [List.mem_singleton.mp hb]; exact l2) (Nat.ne_of_lt l1) (Nat.ne_of_lt (Nat.lt_succ_of_lt l2)), ⟨hz, hTI, ⟨_, _, hTO⟩, ItB.new h1, ItB.new h2⟩, fresh5, q⟩

/-! ### over trees -/
def rowOf : T → Option (List T)
  | .tup xs => some xs
  | .lst xs => some xs
  | _ => none
/-- a row's place: a list or a tuple that stands -/
structure RowAt (G : Gd) (b : Bool) (a : Addr) (ts : List T) (S1 : Sto) (H1 : Hp) : Prop where
  get : ∀ (M' : Addr → Prop) S H, (∀ a, M' a → ¬ G.M a → H1 a = none) → StoOk (G.mask M') H S → Ext S1 H1 S H → ∃ ws, SqB b G.K H a ws ∧ Reps (G.mask M') H S ts ws
  len : ∀ S H, Ext S1 H1 S H → ∃ ws, SqB b G.K H a ws ∧ ws.length = ts.length
section
variable {G : Gd} {S1 : Sto} {H1 : Hp}
theorem row_list {a : Addr} {ws : List V} {ts : List T} (h : LstAt G H1 S1 a ws) (r : Reps G H1 S1 ts ws) : RowAt G true a ts S1 H1 :=
  ⟨fun M' S H nk o x => ⟨ws, (h.ext x).sq, Reps.ext x _ _ (Reps.mask (newK nk) _ _ r)⟩, fun S H x => ⟨ws, (h.ext x).sq, r.length.symm⟩⟩
theorem row_tup {a : Addr} {ws : List V} {ts : List T} (h : TupAt G H1 S1 a ws) (r : Reps G H1 S1 ts ws) : RowAt G false a ts S1 H1 :=
  ⟨fun M' S H nk o x => ⟨ws, (h.ext x).sq, Reps.ext x _ _ (Reps.mask (newK nk) _ _ r)⟩, fun S H x => ⟨ws, (h.ext x).sq, r.length.symm⟩⟩
theorem row_of {x : T} {v : V} {ts : List T} (r : Rep G H1 S1 x v) (e : rowOf x = some ts) : ∃ b a, v = .ref a ∧ RowAt G b a ts S1 H1 := by
  cases r with
  | tup h1 h2 =>
    obtain rfl := Option.some.inj e
    exact ⟨false, _, rfl, row_tup h1 h2⟩
  | lst h1 h2 =>
    obtain rfl := Option.some.inj e
    exact ⟨true, _, rfl, row_list h1 h2⟩
  | _ => cases e
def enumL (ts : List T) : List T := ts.zipIdx.map fun p => .tup [.int (p.2 : Nat), p.1]
def zipL (xs ys : List T) : List T := (xs.zip ys).map fun p => .tup [p.1, p.2]
theorem wks_enum {b : Bool} {a : Addr} {ts : List T} (h : RowAt G b a ts S1 H1) : Wks G (IteB b G.K a) (enumL ts) yes S1 H1 where
  go := fun M' S H i z nk o x _ hz => by
    obtain ⟨ws, q, r⟩ := h.get M' S H nk o x
    unfold enumL at hz
    rw [List.getElem?_map, List.getElem?_zipIdx] at hz
    cases hc : ts[i]? with
    | none => rw [hc] at hz; cases hz
    | some c =>
      rw [hc] at hz
      obtain rfl : T.tup [.int ((0 + i : Nat) : Int), c] = z := Option.some.inj hz
      obtain ⟨v, h1, h2⟩ := r.get hc
      refine ⟨⟨ws, v, q, h1⟩, ?_⟩
      rintro y H' ⟨A, w, rfl, hn, rfl, hy⟩
      obtain rfl : v = w := Option.some.inj (h1.symm.trans (hy ws q))
      refine ⟨o.new hn, Ext.new hn, .tup (.inl ⟨.inl upd_same, o.free hn, o.nom hn⟩) (.cons ?_ (.cons (Rep.ext (Ext.new hn) _ _ h2) .nil))⟩
      rw [Nat.zero_add]
      exact .int _
  stop := fun M' S H o x _ => by
    obtain ⟨ws, q, l⟩ := h.len S H x
    exact ⟨ws, q, by unfold enumL; rw [List.length_map, List.length_zipIdx]; exact l⟩
theorem wks_zip {b1 b2 : Bool} {a c : Addr} {ts us : List T} (h : RowAt G b1 a ts S1 H1) (g : RowAt G b2 c us S1 H1) : Wks G (ItzB b1 b2 G.K a c) (zipL ts us) yes S1 H1 where
  go := fun M' S H i z nk o x _ hz => by
    obtain ⟨ws, q, r⟩ := h.get M' S H nk o x
    obtain ⟨ws2, q2, r2⟩ := g.get M' S H nk o x
    unfold zipL at hz
    rw [List.getElem?_map] at hz
    cases hc : (ts.zip us)[i]? with
    | none => rw [hc] at hz; cases hz
    | some p =>
      rw [hc] at hz
      obtain rfl : T.tup [p.1, p.2] = z := Option.some.inj hz
      obtain ⟨e1, e2⟩ := List.getElem?_zip_eq_some.mp hc
      obtain ⟨v, h1, h2⟩ := r.get e1
      obtain ⟨v2, k1, k2⟩ := r2.get e2
      refine ⟨⟨ws, ws2, v, v2, q, q2, h1, k1⟩, ?_⟩
      rintro y H' ⟨A, w, w2, rfl, hn, rfl, hy, hy2⟩
      obtain rfl : v = w := Option.some.inj (h1.symm.trans (hy ws q))
      obtain rfl : v2 = w2 := Option.some.inj (k1.symm.trans (hy2 ws2 q2))
      exact ⟨o.new hn, Ext.new hn, .tup (.inl ⟨.inl upd_same, o.free hn, o.nom hn⟩) (.cons (Rep.ext (Ext.new hn) _ _ h2) (.cons (Rep.ext (Ext.new hn) _ _ k2) .nil))⟩
  stop := fun M' S H o x _ => by
    obtain ⟨ws, q, l⟩ := h.len S H x
    obtain ⟨ws2, q2, l2⟩ := g.len S H x
    have e : (zipL ts us).length = min ts.length us.length := by unfold zipL; rw [List.length_map, List.length_zip]
    exact ⟨ws, ws2, q, q2, by omega, by omega, by omega⟩
end
def iEnum (e : TTE) : TTI := fun τ S Q E => e τ S (fun x S1 => ∃ ts, rowOf x = some ts ∧ Q (enumL ts) yes S1) E
def iZip (a b : TTE) : TTI := fun τ S Q E => a τ S (fun x S1 => b τ S1 (fun y S2 => ∃ ts us, rowOf x = some ts ∧ rowOf y = some us ∧ Q (zipL ts us) yes S2) E) E
section
variable {X : Cx} {tg e a b : Expr} {te ta tb : TTE} {p pos tpos : Pos} {elts : List Expr} {kk : Nat}
theorem ti_enum (hg : Gl X "enumerate") (hm : X.mg "enumerate" = none) (ha : TE X a ta) (hs : starEach [a] X.env = [(false, eval a X.env)] := by rfl) : TI X (.Tuple elts kk tpos) (.Call (.Name "enumerate" p) [a] [] pos) (iEnum ta) := fun M S0 H0 E tk =>
  (pi_enumB hg hm (ta_cons ha ta_nil hs M S0 H0 E tk) hs).weak fun σ H R ⟨τ, S, Qt, rel, q, k⟩ => ⟨τ, S, fun zs S1 => ∃ x ts, zs = [x] ∧ rowOf x = some ts ∧ Qt (enumL ts) yes S1, rel, by
    have e : (fun (x : T) (S1 : Sto) => ∃ y ts, [x] = [y] ∧ rowOf y = some ts ∧ Qt (enumL ts) yes S1) = fun (x : T) (S1 : Sto) => ∃ ts, rowOf x = some ts ∧ Qt (enumL ts) yes S1 := by
      funext x S1
      simp only [List.cons.injEq, and_true]
      apply propext
      constructor
      · rintro ⟨y, ts, rfl, h⟩; exact ⟨ts, h⟩
      · rintro ⟨ts, h⟩; exact ⟨x, ts, rfl, h⟩
    show ta τ S (fun (x : T) (S1 : Sto) => ∃ y ts, [x] = [y] ∧ rowOf y = some ts ∧ Qt (enumL ts) yes S1) fun x S' => E x τ S'
    rw [e]
    exact q, fun zs S1 vs H1 hq o1 x1 r1 => by
    obtain ⟨x, ts, rfl, h1, hq⟩ := hq
    cases r1 with
    | cons r1 r2 =>
      cases r2
      obtain ⟨b, a, rfl, hr⟩ := row_of r1 h1
      obtain ⟨ws, q1, _⟩ := hr.len S1 H1 Ext.refl
      exact ⟨b, a, ws, rfl, q1, k _ _ S1 _ H1 hq o1 x1 (wks_enum hr)⟩⟩
theorem ti_zip (hg : Gl X "zip") (hm : X.mg "zip" = none) (ha : TE X a ta) (hb : TE X b tb) (hs : starEach [a, b] X.env = (false, eval a X.env) :: starEach [b] X.env := by rfl) (hs2 : starEach [b] X.env = [(false, eval b X.env)] := by rfl) (hpl : (backTo pos (starEach [b] X.env)).any (·.1) = false := by rfl) :
    TI X (.Tuple elts kk tpos) (.Call (.Name "zip" p) [a, b] [] pos) (iZip ta tb) := fun M S0 H0 E tk =>
  (pi_zipB hg hm (ta_cons ha (ta_cons hb ta_nil hs2) hs M S0 H0 E tk) hs hpl).weak fun σ H R ⟨τ, S, Qt, rel, q, k⟩ => ⟨τ, S, fun zs S1 => ∃ x y ts us, zs = [x, y] ∧ rowOf x = some ts ∧ rowOf y = some us ∧ Qt (zipL ts us) yes S1, rel, by
    have e : ∀ (x y : T) (S2 : Sto), (∃ x' y' ts us, [x, y] = [x', y'] ∧ rowOf x' = some ts ∧ rowOf y' = some us ∧ Qt (zipL ts us) yes S2) = ∃ ts us, rowOf x = some ts ∧ rowOf y = some us ∧ Qt (zipL ts us) yes S2 := fun x y S2 => by
      simp only [List.cons.injEq, and_true]
      apply propext
      constructor
      · rintro ⟨x', y', ts, us, ⟨rfl, rfl⟩, h⟩; exact ⟨ts, us, h⟩
      · rintro ⟨ts, us, h⟩; exact ⟨x, y, ts, us, ⟨rfl, rfl⟩, h⟩
    show ta τ S (fun x S1 => tb τ S1 (fun y S2 => ∃ x' y' ts us, [x, y] = [x', y'] ∧ rowOf x' = some ts ∧ rowOf y' = some us ∧ Qt (zipL ts us) yes S2) fun x S' => E x τ S') fun x S' => E x τ S'
    simp only [e]
    exact q, fun zs S1 vs H1 hq o1 x1 r1 => by
    obtain ⟨x, y, ts, us, rfl, h1, h2, hq⟩ := hq
    cases r1 with
    | cons r1 r2 =>
      cases r2 with
      | cons r2 r3 =>
        cases r3
        obtain ⟨b, a, rfl, hr⟩ := row_of r1 h1
        obtain ⟨b2, c, rfl, hr2⟩ := row_of r2 h2
        obtain ⟨ws, q1, _⟩ := hr.len S1 H1 Ext.refl
        obtain ⟨ws2, q2, _⟩ := hr2.len S1 H1 Ext.refl
        exact ⟨b, b2, a, c, ws, ws2, rfl, q1, q2, k _ _ S1 _ H1 hq o1 x1 (wks_zip hr hr2)⟩⟩
end
end TL

/-! TLzb: dicts by numbers and texts. -/
namespace TL
open PySem PySem.Spec PyProof.Rows L2

def kyT : T → Option Key
  | .int i => some (.inl i)
  | .str x => some (.inr (txt x))
  | _ => none
def dLk : List T → List T → Key → Option T
  | k :: ks, v :: vs, x => if kyT k = some x then some v else dLk ks vs x
  | _, _, _ => none
def dHs : List T → Key → Bool
  | k :: ks, x => if kyT k = some x then true else dHs ks x
  | [], _ => false
def dRp : List T → List T → Key → T → List T
  | k :: ks, v :: vs, x, y => (if kyT k = some x then y else v) :: dRp ks vs x y
  | _, _, _, _ => []
def dPk (ks : List T) (x : Key) (t : T) : List T := if dHs ks x = true then ks else ks ++ [t]
def dPv (ks vs : List T) (x : Key) (y : T) : List T := if dHs ks x = true then dRp ks vs x y else vs ++ [y]
section
variable {G : Gd} {H : Hp} {S : Sto}
theorem ky_rep {t : T} {v : V} {k : Key} (r : Rep G H S t v) (e : kyT t = some k) : v = kV k := by
  cases r <;> (cases e <;> rfl)
theorem ky_of {t : T} {k : Key} (r : Rep G H S t (kV k)) : kyT t = some k := by
  cases k with
  | inl i => cases r; rfl
  | inr x =>
    have : ∀ {v : V}, Rep G H S t v → v = .str x → kyT t = some (.inr x) := fun r e => by
      cases r <;> (cases e <;> rfl)
    exact this r rfl
theorem lk_rep : ∀ {ks vs : List T} {kvs : List (Key × V)} (k : Key), Reps G H S ks (kvs.map fun p => kV p.1) → Reps G H S vs (kvs.map (·.2)) →
    (∀ t, dLk ks vs k = some t → ∃ v, valV kvs k = some v ∧ Rep G H S t v) ∧ (dLk ks vs k = none → valV kvs k = none)
  | _, _, [], k, r1, r2 => by
    cases r1; cases r2
    exact ⟨fun t e => (by cases e), fun _ => rfl⟩
  | _, _, p :: kvs, k, r1, r2 => by
    cases r1 with
    | cons a1 a2 =>
      cases r2 with
      | cons b1 b2 =>
        have ih := lk_rep k a2 b2
        have e1 := ky_of a1
        unfold dLk
        rw [e1]
        by_cases q : p.1 = k
        · rw [if_pos (by rw [q]), valV_pos q]
          exact ⟨fun t e => (by cases e; exact ⟨_, rfl, b1⟩), fun e => (by cases e)⟩
        · rw [if_neg (fun z => q (Option.some.inj z)), valV_neg q]
          exact ih
theorem hs_rep : ∀ {ks : List T} {kvs : List (Key × V)} (k : Key), Reps G H S ks (kvs.map fun p => kV p.1) → (kvs.any fun kv => decide (kv.1 = k)) = dHs ks k
  | _, [], k, r1 => by cases r1; rfl
  | _, p :: kvs, k, r1 => by
    cases r1 with
    | cons a1 a2 =>
      have ih := hs_rep k a2
      have e1 := ky_of a1
      unfold dHs
      rw [e1, List.any_cons, ih]
      by_cases q : p.1 = k
      · rw [if_pos (by rw [q])]; simp [q]
      · rw [if_neg (fun z => q (Option.some.inj z))]; simp [q]
theorem rp_rep : ∀ {ks vs : List T} {kvs : List (Key × V)} (k : Key) {y : T} {v : V}, Reps G H S ks (kvs.map fun p => kV p.1) → Reps G H S vs (kvs.map (·.2)) → Rep G H S y v →
    Reps G H S ks ((kvs.map fun kv => if kv.1 = k then (kv.1, v) else kv).map fun p => kV p.1) ∧ Reps G H S (dRp ks vs k y) ((kvs.map fun kv => if kv.1 = k then (kv.1, v) else kv).map (·.2))
  | _, _, [], k, y, v, r1, r2, r => by
    cases r1; cases r2
    exact ⟨.nil, .nil⟩
  | _, _, p :: kvs, k, y, v, r1, r2, r => by
    cases r1 with
    | cons a1 a2 =>
      cases r2 with
      | cons b1 b2 =>
        obtain ⟨i1, i2⟩ := rp_rep k a2 b2 r
        have e1 := ky_of a1
        unfold dRp
        rw [e1]
        by_cases q : p.1 = k
        · rw [if_pos (by rw [q]), List.map_cons, if_pos q]
          exact ⟨.cons a1 i1, .cons r i2⟩
        · rw [if_neg (fun z => q (Option.some.inj z)), List.map_cons, if_neg q]
          exact ⟨.cons a1 i1, .cons b1 i2⟩
theorem put_rep {ks vs : List T} {kvs : List (Key × V)} {t y : T} {k : Key} {v : V} (r1 : Reps G H S ks (kvs.map fun p => kV p.1)) (r2 : Reps G H S vs (kvs.map (·.2))) (ht : Rep G H S t (kV k)) (r : Rep G H S y v) :
    Reps G H S (dPk ks k t) ((putK kvs k v).map fun p => kV p.1) ∧ Reps G H S (dPv ks vs k y) ((putK kvs k v).map (·.2)) := by
  unfold dPk dPv putK
  rw [hs_rep k r1]
  by_cases q : dHs ks k = true
  · rw [if_pos q, if_pos q, if_pos q]
    exact rp_rep k r1 r2 r
  · rw [if_neg q, if_neg q, if_neg q, List.map_append, List.map_append]
    exact ⟨r1.append (.cons ht .nil), r2.append (.cons r .nil)⟩
def dView (S : Sto) : T → Option (List T × List T)
  | .dct false ks vs => some (ks, vs)
  | .ref a => match S a with
    | some (.dct false ks vs) => some (ks, vs)
    | _ => none
  | _ => none
theorem dView_rep {x : T} {v : V} {p : List T × List T} (o : StoOk G H S) (r : Rep G H S x v) (e : dView S x = some p) : ∃ a kvs, v = .ref a ∧ Rd H a (.dK kvs) ∧ Reps G H S p.1 (kvs.map fun p => kV p.1) ∧ Reps G H S p.2 (kvs.map (·.2)) := by
  cases r with
  | dK h1 h2 h3 => cases e; exact ⟨_, _, rfl, h1.1, h2, h3⟩
  | ref a =>
    unfold dView at e
    cases q : S a with
    | none => simp [q] at e
    | some c =>
      cases c with
      | dct n ks vs =>
        cases n with
        | true => simp [q] at e
        | false =>
          simp only [q] at e
          cases e
          obtain ⟨kvs, h1, h2, h3⟩ := o.at_ a _ q
          exact ⟨a, kvs, rfl, .inl h1, h2, h3⟩
      | _ => simp [q] at e
  | _ => cases e
end
def dgT (S : Sto) (x y : T) : Option T := match dView S x, kyT y with
  | some p, some k => dLk p.1 p.2 k
  | _, _ => none
def dinQ (S : Sto) (x y : T) : Option Bool := match dView S y, kyT x with
  | some p, some k => some (dLk p.1 p.2 k).isSome
  | _, _ => none
def dinT (S : Sto) (x y : T) : Option T := (dinQ S x y).map .bl
def dninT (S : Sto) (x y : T) : Option T := (dinQ S x y).map fun b => .bl (!b)
def dg2T (S : Sto) (x y z : T) : Option T := match dView S x, kyT y with
  | some p, some k => some ((dLk p.1 p.2 k).getD z)
  | _, _ => none
def cGet2 (a b c : TTE) : TTE := fun τ S Q E => a τ S (fun x S1 => (∃ p, dView S1 x = some p) ∧ b τ S1 (fun y S2 => c τ S2 (fun z S3 => ∃ w, dg2T S3 x y z = some w ∧ Q w S3) E) E) E
def cDput (o i e : TTE) : TTS := fun D τ S E => e τ S (fun z S1 => o τ S1 (fun x S2 => i τ S2 (fun y S3 => ∃ a ks vs k, x = .ref a ∧ S3 a = some (.dct false ks vs) ∧ kyT y = some k ∧ ks.length < sizeLine ∧ D.nx τ (ups S3 a (.dct false (dPk ks k y) (dPv ks vs k z))))
  (fun x S' => E x τ S')) (fun x S' => E x τ S')) (fun x S' => E x τ S')
def cDnew : TTE := fun _ S Q _ => Q (.dct false [] []) S
def cDnewM : TTE := fun _ S Q _ => ∀ p, S p = none → Q (.ref p) (ups S p (.dct false [] []))
/-- pairs laid one behind the other -/
def mrgT : List T → List T → List T → Option (List T × List T)
  | [], ks, vs => some (ks, vs)
  | .tup [k, v] :: ts, ks, vs => match kyT k with
    | some x => mrgT ts (dPk ks x k) (dPv ks vs x v)
    | none => none
  | _ :: _, _, _ => none
def dictF (S : Sto) : List T → Option T
  | [x] => match res S x with
    | .lst ts => (mrgT ts [] []).map fun p => .dct false p.1 p.2
    | _ => none
  | _ => none
section
variable {X : Cx} {a b c o i e : Expr} {ta tb tc to ti te : TTE} {pos pos' apos cpos : Pos}
theorem te_dg (hu : X.A.units + 64 < cLine) (ha : TE X a ta) (hb : TE X b tb) (hs : NoSl b := by intro _ _; rfl) : TE X (.Subscript a b pos) (cOp dgT ta tb) := fun M S0 H0 E tk =>
  (pe_dget (by omega) (ha M S0 H0 E tk) (hb M S0 H0 E tk) hs).weak fun σ H Q ⟨τ, S, Qt, rel, h, k⟩ => ⟨τ, S, _, rel, h, fun zx S1 x H1 hb1 o1 x1 r1 => ⟨τ, S1, _, rel.step o1 x1, hb1, fun zy S2 y H2 ⟨z, e, hq⟩ o2 x2 r2 => by
    unfold dgT at e
    split at e
    · rename_i p kk h1 h2
      obtain ⟨d, kvs, rfl, hd, q1, q2⟩ := dView_rep o2 (Rep.ext x2 _ _ r1) h1
      obtain rfl := ky_rep r2 h2
      obtain ⟨v, e1, e2⟩ := (lk_rep kk q1 q2).1 z e
      exact ⟨d, v, rfl, .inl ⟨kvs, kk, hd, rfl, e1.symm⟩, k z S2 v H2 hq o2 (x1.trans x2) e2⟩
    · cases e⟩⟩
theorem op_dinT (hu : X.A.units + 65 < cLine) : OpT X (compareOp .In) dinT := by
  intro pins s σ H x y v u Q I rx ry h
  obtain ⟨M, S, tx, ty, t, o, hx, hy, e, fin⟩ := h
  obtain ⟨b, hb, rfl⟩ := Option.map_eq_some_iff.mp e
  unfold dinQ at hb
  split at hb
  · rename_i p kk h1 h2
    obtain ⟨d, kvs, rfl, hd, q1, q2⟩ := dView_rep o hy h1
    obtain rfl := ky_rep hx h2
    obtain rfl := Option.some.inj hb
    obtain rfl : u = Value.ref d := ry
    refine d_in (by omega) I (.inl ⟨kvs, kk, hd, rfl, rfl⟩) rx fun s' I' => ⟨.bl _, H, I', rfl, ?_⟩
    have hl := lk_rep kk q1 q2
    cases q : dLk p.1 p.2 kk with
    | none =>
      rw [hl.2 q]
      rw [q] at fin
      exact fin _ H o Ext.refl (.bl _)
    | some z =>
      obtain ⟨v, e1, _⟩ := hl.1 z q
      rw [e1]
      rw [q] at fin
      exact fin _ H o Ext.refl (.bl _)
  · cases hb
theorem op_dninT (hu : X.A.units + 65 < cLine) : OpT X (compareOp .NotIn) dninT := by
  intro pins s σ H x y v u Q I rx ry h
  obtain ⟨M, S, tx, ty, t, o, hx, hy, e, fin⟩ := h
  obtain ⟨b, hb, rfl⟩ := Option.map_eq_some_iff.mp e
  unfold dinQ at hb
  split at hb
  · rename_i p kk h1 h2
    obtain ⟨d, kvs, rfl, hd, q1, q2⟩ := dView_rep o hy h1
    obtain rfl := ky_rep hx h2
    obtain rfl := Option.some.inj hb
    obtain rfl : u = Value.ref d := ry
    refine d_notIn (by omega) I (.inl ⟨kvs, kk, hd, rfl, rfl⟩) rx fun s' I' => ⟨.bl _, H, I', rfl, ?_⟩
    have hl := lk_rep kk q1 q2
    cases q : dLk p.1 p.2 kk with
    | none =>
      rw [hl.2 q]
      rw [q] at fin
      exact fin _ H o Ext.refl (.bl _)
    | some z =>
      obtain ⟨v, e1, _⟩ := hl.1 z q
      rw [e1]
      rw [q] at fin
      exact fin _ H o Ext.refl (.bl _)
  · cases hb
theorem te_get2 (hu : X.A.units + 64 < cLine) (ha : TE X o ta) (hb : TE X b tb) (hc : TE X c tc) (m : M2 X o "get" apos b c cpos := by exact ⟨rfl, rfl, rfl, rfl⟩) : TE X (.Call (.Attribute o "get" apos) [b, c] [] cpos) (cGet2 ta tb tc) := fun M S0 H0 E tk =>
  (pe_dget2 (by omega) (ha M S0 H0 E tk) (hb M S0 H0 E tk) (hc M S0 H0 E tk) m).weak fun σ H Q ⟨τ, S, Qt, rel, h, k⟩ => ⟨τ, S, _, rel, h, fun zx S1 x H1 ⟨⟨p1, hp1⟩, hb1⟩ o1 x1 r1 => by
    obtain ⟨d, kvs, rfl, hd, q1, q2⟩ := dView_rep o1 r1 hp1
    exact ⟨d, rfl, .inl ⟨kvs, hd⟩, τ, S1, _, rel.step o1 x1, hb1, fun zy S2 y H2 hc1 o2 x2 r2 => ⟨τ, S2, _, rel.step o2 (x1.trans x2), hc1, fun zz S3 z H3 ⟨w, e, hq⟩ o3 x3 r3 => by
      unfold dg2T at e
      split at e
      · rename_i p kk h1 h2
        obtain ⟨d', kvs', ed, hd', q1', q2'⟩ := dView_rep o3 (Rep.ext (x2.trans x3) _ _ r1) h1
        cases ed
        obtain rfl := ky_rep r2 h2
        obtain rfl := Option.some.inj e
        have hl := lk_rep kk q1' q2'
        refine ⟨_, .inl ⟨kvs', kk, hd', rfl, rfl⟩, k _ S3 _ H3 hq o3 ((x1.trans x2).trans x3) ?_⟩
        cases q : dLk p.1 p.2 kk with
        | none => rw [hl.2 q]; exact r3
        | some t =>
          obtain ⟨v, e1, e2⟩ := hl.1 t q
          rw [e1]; exact e2
      · cases e⟩⟩⟩
theorem te_dnew : TE X (.Dict [] [] pos) cDnew := fun M S0 H0 E tk => pe_dnewK.weak fun σ H Q ⟨τ, S, Qt, rel, h, k⟩ p n => k _ S _ _ h (rel.sto.new n) (Ext.new n) (.dK (kvs := []) ⟨.inl upd_same, rel.sto.free n, rel.sto.nom n⟩ .nil .nil)
theorem te_dnewM : TE X (.Dict [] [] pos) cDnewM := fun M S0 H0 E tk => pe_dnewK.weak fun σ H Q ⟨τ, S, Qt, rel, h, k⟩ p n =>
  k (.ref p) (ups S p (.dct false [] [])) (.ref p) _ (h p (rel.sto.free n)) (rel.sto.cell (.inl n) ⟨[], upd_same, .nil, .nil⟩) (Ext.cell (.inl n)) (.ref p)
theorem ts_dput {i' : Expr} (hu : X.A.units + 64 < cLine) (ho : TE X o to) (hi : TE X i' ti) (hv : TE X e te) (hs : swapsWith e (some (.Subscript o i' pos')) pos.line X.env = pure false := by rfl) : TS X (.Assign [.Subscript o i' pos'] e pos) (cDput to ti te) := fun M S0 H0 E tk =>
  (ps_dput (by omega) (ho M S0 H0 E tk) (hi M S0 H0 E tk) (hv M S0 H0 E tk) hs).weak fun D σ H ⟨τ, S, B, rel, h, k1, _⟩ => ⟨τ, S, _, rel, h, fun zz S1 z H1 h1 o1 x1 r1 => ⟨τ, S1, _, rel.step o1 x1, h1, fun zx S2 x H2 h2 o2 x2 r2 => ⟨τ, S2, _, rel.step o2 (x1.trans x2), h2, fun zy S3 y H3 ⟨a, ks, vs, kk, ea, es, ek, hl, hn⟩ o3 x3 r3 => by
    subst ea
    cases r2
    obtain ⟨kvs, g1, g2, g3⟩ := o3.at_ a _ es
    obtain rfl := ky_rep r3 ek
    have hlen : kvs.length < sizeLine := by
      have := g2.length
      rw [List.length_map] at this
      omega
    obtain ⟨p1, p2⟩ := put_rep g2 g3 r3 (Rep.ext (x2.trans x3) _ _ r1)
    have xc : Ext S3 H3 (ups S3 a (.dct false (dPk ks kk zy) (dPv ks vs kk zz))) (upd H3 a (.dK (putK kvs kk z))) := Ext.cell (.inr ⟨_, es⟩)
    refine ⟨a, upd H3 a (.dK (putK kvs kk z)), rfl, .inl ⟨kvs, kk, g1, rfl, hlen, rfl⟩, ?_⟩
    have rel4 := rel.step (o3.cell (o := .dK (putK kvs kk z)) (c := .dct false (dPk ks kk zy) (dPv ks vs kk zz)) (.inr ⟨_, es⟩) ⟨putK kvs kk z, upd_same, Reps.ext xc _ _ p1, Reps.ext xc _ _ p2⟩) (((x1.trans x2).trans x3).trans xc)
    exact k1 σ _ τ _ rel4 (((x1.trans x2).trans x3).trans xc) hn⟩⟩⟩
theorem mrg_rep {G : Gd} {H : Hp} {S : Sto} : ∀ {ts ks vs : List T} {ps : List V} {acc : List (Key × V)} {r : List T × List T}, mrgT ts ks vs = some r → Reps G H S ts ps → Reps G H S ks (acc.map fun p => kV p.1) → Reps G H S vs (acc.map (·.2)) →
    ∃ (as : List Addr) (kvs : List (Key × V)), ps = as.map V.ref ∧ Paired (fun p (kv : Key × V) => SqT G.K H p [kV kv.1, kv.2]) as kvs ∧ Reps G H S r.1 ((mergeK acc kvs).map fun p => kV p.1) ∧ Reps G H S r.2 ((mergeK acc kvs).map (·.2))
  | [], ks, vs, ps, acc, r, e, h, h1, h2 => by
    cases h
    cases e
    exact ⟨[], [], rfl, .nil, h1, h2⟩
  | t :: ts, ks, vs, ps, acc, r, e, h, h1, h2 => by
    unfold mrgT at e
    split at e
    · rename_i h0; cases h0
    · rename_i k v ts' e0
      cases e0
      split at e
      · rename_i x hx
        cases h with
        | cons a1 a2 =>
          cases a1 with
          | tup b1 b2 =>
            cases b2 with
            | cons c1 c2 =>
              cases c2 with
              | cons c2 c3 =>
                cases c3
                obtain rfl := ky_rep c1 hx
                obtain ⟨p1, p2⟩ := put_rep h1 h2 c1 c2
                obtain ⟨as, kvs, e1, e2, e3, e4⟩ := mrg_rep e a2 p1 p2
                exact ⟨_ :: as, (x, _) :: kvs, by rw [e1]; rfl, .cons b1.sq e2, e3, e4⟩
      · cases e
    · cases e
theorem fn_dict (hc : X.calm = true) : CallT X (.type "dict") dictF := by
  intro pins s σ H xs us Q I r h
  obtain ⟨M, S, ts, t, o, rs, e, fin⟩ := h
  unfold dictF at e
  split at e
  · obtain ⟨v, rfl, ry⟩ := rs.one
    split at e
    · rename_i zs hz
      obtain ⟨p, hp, rfl⟩ := Option.map_eq_some_iff.mp e
      obtain ⟨a, ws, rfl, h1, h2⟩ := res_lst o ry hz
      obtain ⟨as, kvs, rfl, e2, e3, e4⟩ := mrg_rep (acc := []) hp h2 .nil .nil
      exact call_dictP hc pins s σ H _ us Q I r ⟨a, as, kvs, rfl, SqL.of h1, e2, fun q n => fin _ _ (o.new n) (Ext.new n) (.dK ⟨.inl upd_same, o.free n, o.nom n⟩ (Reps.ext (Ext.new n) _ _ e3) (Reps.ext (Ext.new n) _ _ e4))⟩
    · cases e
  · cases e
end
end TL

/-! TMa: programs as monadic mirrors over trees: results, stores with local cells, how an expression's reading follows from its mirror. -/
namespace TL
open PySem PySem.Spec PyProof.Rows L2

inductive Res (κ α : Type) where
  | ok (a : α) (k : κ)
  | exc (x : T) (k : κ)
  | bad
def PM (κ α : Type) := κ → Res κ α
section
variable {κ α β γ : Type}
def pu (a : α) : PM κ α := fun k => .ok a k
def bd (m : PM κ α) (f : α → PM κ β) : PM κ β := fun k => match m k with
  | .ok a k' => f a k'
  | .exc x k' => .exc x k'
  | .bad => .bad
def thr (x : T) : PM κ α := fun k => .exc x k
def stuck : PM κ α := fun _ => .bad
def ofO (o : Option α) : PM κ α := fun k => match o with
  | some a => .ok a k
  | none => .bad
def gd (b : Prop) [Decidable b] : PM κ Unit := if b then pu () else stuck
def lft (m : PM Unit α) : PM κ α := fun k => match m () with
  | .ok a _ => .ok a k
  | .exc x _ => .exc x k
  | .bad => .bad
def Sat (r : Res κ α) (P : α → κ → Prop) (X : T → κ → Prop) : Prop := match r with
  | .ok a k => P a k
  | .exc x k => X x k
  | .bad => False
theorem bd_pu (m : PM κ α) : bd m pu = m := by
  funext k
  unfold bd pu
  cases m k <;> rfl
theorem pu_bd (a : α) (f : α → PM κ β) : bd (pu a) f = f a := rfl
theorem bd_bd (m : PM κ α) (f : α → PM κ β) (g : β → PM κ γ) : bd (bd m f) g = bd m fun a => bd (f a) g := by
  funext k
  unfold bd
  cases m k <;> rfl
theorem stuck_bd (f : α → PM κ β) : bd (stuck : PM κ α) f = stuck := rfl
theorem thr_bd (x : T) (f : α → PM κ β) : bd (thr x : PM κ α) f = thr x := rfl
theorem lft_pu (a : α) : lft (κ := κ) (pu a) = pu a := rfl
theorem lft_thr (x : T) : lft (κ := κ) (thr x : PM Unit α) = thr x := rfl
theorem ofO_some (a : α) : ofO (κ := κ) (some a) = pu a := rfl
theorem gd_true {b : Prop} [Decidable b] (h : b) : gd (κ := κ) b = pu () := if_pos h
theorem Sat.bd {m : PM κ α} {f : α → PM κ β} {k : κ} {P : β → κ → Prop} {X : T → κ → Prop} : Sat (bd m f k) P X ↔ Sat (m k) (fun a k' => Sat (f a k') P X) X := by
  unfold TL.bd
  cases m k <;> exact Iff.rfl
theorem Sat.mono {r : Res κ α} {P P' : α → κ → Prop} {X X' : T → κ → Prop} (h : Sat r P X) (h1 : ∀ a k, P a k → P' a k) (h2 : ∀ x k, X x k → X' x k) : Sat r P' X' := by
  cases r with
  | ok a k => exact h1 _ _ h
  | exc x k => exact h2 _ _ h
  | bad => exact h
theorem Sat.lft {m : PM Unit α} {k : κ} {P : α → κ → Prop} {X : T → κ → Prop} : Sat (lft m k) P X ↔ Sat (m ()) (fun a _ => P a k) (fun x _ => X x k) := by
  unfold TL.lft
  cases m () <;> exact Iff.rfl
end

/-! ### stores with local cells -/
abbrev Cs := List (Addr × Cell)
def emp : Sto := fun _ => none
structure SI {κ : Type} (W : κ → Sto) (l : Cs) (k : κ) (S : Sto) : Prop where
  at_ : ∀ e ∈ l, S e.1 = some e.2
  own : ∀ e ∈ l, W k e.1 = none
  nd : (l.map (·.1)).Nodup
  base : ∀ a c, W k a = some c → S a = some c
def En : TEnv → TEnv → Prop
  | [], [] => True
  | p :: ps, t :: ts => (p = none ∨ p = t) ∧ En ps ts
  | _, _ => False
theorem En.refl : ∀ τ, En τ τ
  | [] => trivial
  | _ :: ts => ⟨.inr rfl, En.refl ts⟩
theorem En.len : ∀ {p τ : TEnv}, En p τ → p.length = τ.length
  | [], [], _ => rfl
  | _ :: _, _ :: _, h => by rw [List.length_cons, List.length_cons, En.len h.2]
  | [], _ :: _, h => h.elim
  | _ :: _, [], h => h.elim
theorem En.get : ∀ {p τ : TEnv} {i : Nat} {x : T}, En p τ → p[i]? = some (some x) → τ[i]? = some (some x)
  | [], [], _, _, _, e => by simp at e
  | _ :: _, [], _, _, h, _ => h.elim
  | [], _ :: _, _, _, h, _ => h.elim
  | p :: ps, t :: ts, 0, x, h, e => by
    rw [List.getElem?_cons_zero] at e ⊢
    cases e
    rcases h.1 with z | z
    · cases z
    · rw [← z]
  | p :: ps, t :: ts, i + 1, x, h, e => by
    rw [List.getElem?_cons_succ] at e ⊢
    exact En.get h.2 e
theorem En.set : ∀ {p τ : TEnv} {i : Nat} {x : Option T}, En p τ → En (p.set i x) (τ.set i x)
  | [], [], _, _, h => h
  | _ :: _, [], _, _, h => h.elim
  | [], _ :: _, _, _, h => h.elim
  | _ :: _, _ :: _, 0, _, h => ⟨.inr rfl, h.2⟩
  | _ :: _, _ :: _, i + 1, _, h => ⟨h.1, En.set h.2⟩
theorem En.trans : ∀ {p q τ : TEnv}, En p q → En q τ → En p τ
  | [], [], [], _, _ => trivial
  | _ :: _, _ :: _, _ :: _, h, g => ⟨h.1.elim .inl fun e => g.1.elim (fun z => .inl (e.trans z)) fun z => .inr (e.trans z), En.trans h.2 g.2⟩
  | [], _ :: _, _, h, _ => h.elim
  | _ :: _, [], _, h, _ => h.elim
  | [], [], _ :: _, _, g => g.elim
  | _ :: _, _ :: _, [], _, g => g.elim
theorem En.wipe {p τ : TEnv} (h : En p τ) (vs : List Nat) : En (wipeT p vs) (wipeT τ vs) := by
  induction vs with
  | nil => exact h
  | cons v vs ih => exact En.set ih
/-- z, seen as v -/
def Vw (l : Cs) (z v : T) : Prop := z = v ∨ (∃ a xs, z = .ref a ∧ (a, Cell.lst xs) ∈ l ∧ v = .lst xs) ∨ ∃ a n ks vs, z = .ref a ∧ (a, Cell.dct n ks vs) ∈ l ∧ v = .dct n ks vs
def VwS (S : Sto) (z v : T) : Prop := z = v ∨ (∃ a xs, z = .ref a ∧ S a = some (.lst xs) ∧ v = .lst xs) ∨ ∃ a n ks vs, z = .ref a ∧ S a = some (.dct n ks vs) ∧ v = .dct n ks vs
section
variable {κ : Type} {W : κ → Sto} {l : Cs} {k : κ} {S : Sto}
theorem Vw.at {z v : T} (i : SI W l k S) (h : Vw l z v) : VwS S z v := h.imp id (Or.imp (fun ⟨a, xs, e, m, f⟩ => ⟨a, xs, e, i.at_ _ m, f⟩) fun ⟨a, n, ks, vs, e, m, f⟩ => ⟨a, n, ks, vs, e, i.at_ _ m, f⟩)
inductive VwsS (S : Sto) : List T → List T → Prop
  | nil : VwsS S [] []
  | cons {z v : T} {zs vs : List T} : VwS S z v → VwsS S zs vs → VwsS S (z :: zs) (v :: vs)
inductive Vws (l : Cs) : List T → List T → Prop
  | nil : Vws l [] []
  | cons {z v : T} {zs vs : List T} : Vw l z v → Vws l zs vs → Vws l (z :: zs) (v :: vs)
theorem Vws.at : ∀ {zs vs : List T}, SI W l k S → Vws l zs vs → VwsS S zs vs
  | _, _, _, .nil => .nil
  | _, _, i, .cons h t => .cons (h.at i) (Vws.at i t)
theorem SI.tail {e : Addr × Cell} (i : SI W (e :: l) k S) : SI W l k S := ⟨fun x h => i.at_ x (List.mem_cons_of_mem _ h), fun x h => i.own x (List.mem_cons_of_mem _ h), (List.nodup_cons.mp i.nd).2, i.base⟩
theorem SI.nil (i : SI W l k S) : SI W [] k S := ⟨fun _ h => (nomatch h), fun _ h => (nomatch h), List.nodup_nil, i.base⟩
/-- a new cell -/
theorem SI.new {a : Addr} {c : Cell} (i : SI W l k S) (n : S a = none) : SI W ((a, c) :: l) k (ups S a c) := by
  have na : ∀ e ∈ l, e.1 ≠ a := fun e h z => by have := i.at_ e h; rw [z, n] at this; cases this
  have nw : W k a = none := by
    cases q : W k a with
    | none => rfl
    | some d => rw [i.base a d q] at n; cases n
  refine ⟨fun e h => ?_, fun e h => ?_, List.nodup_cons.mpr ⟨fun h => ?_, i.nd⟩, fun b d h => ?_⟩
  · rcases List.mem_cons.mp h with z | z
    · subst z; exact ups_same
    · rw [ups_ne (na e z)]; exact i.at_ e z
  · rcases List.mem_cons.mp h with z | z
    · subst z; exact nw
    · exact i.own e z
  · obtain ⟨e, he, q⟩ := List.mem_map.mp h
    exact na e he q
  · have : b ≠ a := fun z => by rw [z, nw] at h; cases h
    rw [ups_ne this]
    exact i.base b d h
/-- a cell written -/
theorem SI.put {a : Addr} {c d : Cell} {l1 l2 : Cs} (i : SI W (l1 ++ (a, c) :: l2) k S) : SI W (l1 ++ (a, d) :: l2) k (ups S a d) := by
  have nd := i.nd
  rw [List.map_append, List.map_cons] at nd
  have hm : ∀ e, e ∈ l1 ++ l2 → e ∈ l1 ++ (a, c) :: l2 ∧ e.1 ≠ a := fun e h => by
    obtain ⟨n1, n2, n3⟩ := List.nodup_append.mp nd
    rcases List.mem_append.mp h with z | z
    · exact ⟨List.mem_append_left _ z, fun q => n3 e.1 (List.mem_map_of_mem z) a (by simp) q⟩
    · exact ⟨List.mem_append_right _ (List.mem_cons_of_mem _ z), fun q => (List.nodup_cons.mp n2).1 (by rw [← q]; exact List.mem_map_of_mem (f := (·.1)) z)⟩
  have ow := i.own (a, c) (List.mem_append_right _ List.mem_cons_self)
  have cut : ∀ e, e ∈ l1 ++ (a, d) :: l2 → e = (a, d) ∨ e ∈ l1 ++ l2 := fun e h => by
    rcases List.mem_append.mp h with z | z
    · exact .inr (List.mem_append_left _ z)
    · rcases List.mem_cons.mp z with z | z
      · exact .inl z
      · exact .inr (List.mem_append_right _ z)
  refine ⟨fun e h => ?_, fun e h => ?_, by rw [List.map_append, List.map_cons]; exact nd, fun b e h => ?_⟩
  · rcases cut e h with z | z
    · subst z; exact ups_same
    · obtain ⟨q1, q2⟩ := hm e z
      rw [ups_ne q2]
      exact i.at_ e q1
  · rcases cut e h with z | z
    · subst z; exact ow
    · exact i.own e (hm e z).1
  · have : b ≠ a := fun z => by rw [z] at h; rw [ow] at h; cases h
    rw [ups_ne this]
    exact i.base b e h
end

/-! ### operations on views -/
def OpV (op : Sto → T → T → Option T) : Prop := ∀ S z1 v1 z2 v2 r, VwS S z1 v1 → VwS S z2 v2 → op emp v1 v2 = some r → op S z1 z2 = some r
def UnV (op : Sto → T → Option T) : Prop := ∀ S z v r, VwS S z v → op emp v = some r → op S z = some r
def FnV (f : Sto → List T → Option T) : Prop := ∀ S zs vs r, VwsS S zs vs → f emp vs = some r → f S zs = some r
def MtV (f : Sto → T → List T → Option T) : Prop := ∀ S z v zs vs r, VwS S z v → VwsS S zs vs → f emp v vs = some r → f S z zs = some r
theorem res_ref_emp (a : Addr) : res emp (.ref a) = .ref a := rfl
/-- either resolved alike, or a thing that no operation takes -/
theorem VwS.res {S : Sto} {z v : T} (h : VwS S z v) : res S z = v ∧ res emp v = v ∨ (∃ a, v = .ref a) ∨ ∃ n ks vs, v = .dct n ks vs := by
  rcases h with rfl | ⟨a, xs, rfl, h, rfl⟩ | ⟨a, n, ks, vs, rfl, h, rfl⟩
  · cases z with
    | ref a => exact .inr (.inl ⟨a, rfl⟩)
    | _ => exact .inl ⟨rfl, rfl⟩
  · exact .inl ⟨by simp only [TL.res, h], rfl⟩
  · exact .inr (.inr ⟨n, ks, vs, rfl⟩)
theorem res_dct_emp (n : Bool) (ks vs : List T) : res emp (.dct n ks vs) = .dct n ks vs := rfl
theorem opv_of {op : Sto → T → T → Option T} (g : T → T → Option T) (h : ∀ S x y, op S x y = g (res S x) (res S y)) (n1 : ∀ a y, g (.ref a) y = none) (n2 : ∀ a x, g x (.ref a) = none)
    (n3 : ∀ n ks vs y, g (.dct n ks vs) y = none) (n4 : ∀ n ks vs x, g x (.dct n ks vs) = none) : OpV op := fun S z1 v1 z2 v2 r h1 h2 e => by
  rw [h] at e ⊢
  rcases h1.res with ⟨e1, e1'⟩ | ⟨a, rfl⟩ | ⟨n, ks, vs, rfl⟩
  · rcases h2.res with ⟨e2, e2'⟩ | ⟨a, rfl⟩ | ⟨n, ks, vs, rfl⟩
    · rw [e1, e2, ← e1', ← e2']; rw [e1', e2'] at e ⊢; exact e
    · rw [res_ref_emp, n2] at e; cases e
    · rw [res_dct_emp, n4] at e; cases e
  · rw [res_ref_emp, n1] at e; cases e
  · rw [res_dct_emp, n3] at e; cases e
theorem unv_of {op : Sto → T → Option T} (g : T → Option T) (h : ∀ S x, op S x = g (res S x)) (n1 : ∀ a, g (.ref a) = none) (n3 : ∀ n ks vs, g (.dct n ks vs) = none) : UnV op := fun S z v r h1 e => by
  rw [h] at e ⊢
  rcases h1.res with ⟨e1, e1'⟩ | ⟨a, rfl⟩ | ⟨n, ks, vs, rfl⟩
  · rw [e1]; rw [e1'] at e; exact e
  · rw [res_ref_emp, n1] at e; cases e
  · rw [res_dct_emp, n3] at e; cases e
/-- the first by its resolution, the second as it is -/
theorem opv_of1 {op : Sto → T → T → Option T} (g : T → T → Option T) (h : ∀ S x y, op S x y = g (res S x) y) (n1 : ∀ a y, g (.ref a) y = none) (n3 : ∀ n ks vs y, g (.dct n ks vs) y = none) (n2 : ∀ x ts, g x (.lst ts) = none) (n4 : ∀ n ks vs x, g x (.dct n ks vs) = none) : OpV op := fun S z1 v1 z2 v2 r h1 h2 e => by
  rw [h] at e ⊢
  have e2 : z2 = v2 := by
    rcases h2 with q | ⟨a, xs, _, _, rfl⟩ | ⟨a, n, ks, vs, _, _, rfl⟩
    · exact q
    · rw [n2] at e; cases e
    · rw [n4] at e; cases e
  subst e2
  rcases h1.res with ⟨e1, e1'⟩ | ⟨a, rfl⟩ | ⟨n, ks, vs, rfl⟩
  · rw [e1]; rw [e1'] at e; exact e
  · rw [res_ref_emp, n1] at e; cases e
  · rw [res_dct_emp, n3] at e; cases e
/-- numbers alone -/
theorem opv_flat {op : Sto → T → T → Option T} (g : T → T → Option T) (h : ∀ S x y, op S x y = g x y) (n1 : ∀ ts y, g (.lst ts) y = none) (n3 : ∀ n ks vs y, g (.dct n ks vs) y = none) (n2 : ∀ x ts, g x (.lst ts) = none) (n4 : ∀ n ks vs x, g x (.dct n ks vs) = none) : OpV op := fun S z1 v1 z2 v2 r h1 h2 e => by
  rw [h] at e ⊢
  have e2 : z2 = v2 := by
    rcases h2 with q | ⟨a, xs, _, _, rfl⟩ | ⟨a, n, ks, vs, _, _, rfl⟩
    · exact q
    · rw [n2] at e; cases e
    · rw [n4] at e; cases e
  have e1 : z1 = v1 := by
    rcases h1 with q | ⟨a, xs, _, _, rfl⟩ | ⟨a, n, ks, vs, _, _, rfl⟩
    · exact q
    · rw [n1] at e; cases e
    · rw [n3] at e; cases e
  rw [e1, e2]
  exact e
theorem opv_addT : OpV addT := opv_of (fun x y => match x, y with
  | .int i, .int j => some (.int (i + j))
  | .str a, .str b => if a.length + b.length ≤ sizeLine then some (.str (a ++ b)) else none
  | .tup a, .tup b => if a.length + b.length ≤ sizeLine then some (.tup (a ++ b)) else none
  | .lst a, .lst b => if a.length + b.length ≤ sizeLine then some (.lst (a ++ b)) else none
  | _, _ => none) (fun _ _ _ => rfl) (fun _ _ => rfl) (fun _ x => by cases x <;> rfl) (fun _ _ _ _ => rfl) fun _ _ _ x => by cases x <;> rfl
theorem opv_i2 {c : Int → Int → Bool} {f : Int → Int → T} : OpV (i2 c f) := opv_flat (fun x y => i2 c f emp x y) (fun _ _ _ => rfl) (fun _ _ => rfl) (fun _ _ _ _ => rfl) (fun x _ => by cases x <;> rfl) fun _ _ _ x => by cases x <;> rfl
theorem opv_subT : OpV subT := opv_i2
theorem opv_fdivT : OpV fdivT := opv_i2
theorem opv_modT : OpV modT := opv_i2
theorem opv_powT : OpV powT := opv_i2
theorem opv_mulT2 : OpV mulT2 := opv_flat (fun x y => mulT2 emp x y) (fun _ _ _ => rfl) (fun _ _ => rfl) (fun _ _ _ _ => rfl) (fun x _ => by cases x <;> rfl) fun _ _ _ x => by cases x <;> rfl
theorem okd_refN (a : Addr) : okd (.ref a) = false := rfl
theorem okd_dctN (n : Bool) (ks vs : List T) : okd (.dct n ks vs) = false := rfl
theorem opv_eqT : OpV eqT := opv_of (fun x y => if (okd x && okd y) = true then some (.bl (eqt x y)) else none) (fun _ _ _ => rfl) (fun _ _ => rfl) (fun _ x => by rw [okd_refN, Bool.and_false]; rfl) (fun _ _ _ _ => rfl) fun _ _ _ x => by rw [okd_dctN, Bool.and_false]; rfl
theorem opv_neT : OpV neT := opv_of (fun x y => if (okd x && okd y) = true then some (.bl (!eqt x y)) else none) (fun _ _ _ => rfl) (fun _ _ => rfl) (fun _ x => by rw [okd_refN, Bool.and_false]; rfl) (fun _ _ _ _ => rfl) fun _ _ _ x => by rw [okd_dctN, Bool.and_false]; rfl
/-- as they are -/
def OpX' (op : Sto → T → T → Option T) : Prop := ∀ S v1 v2 r, op emp v1 v2 = some r → op S v1 v2 = some r
theorem opx_ltT : OpX' ltT := fun _ _ _ _ h => h
theorem opx_gtT : OpX' gtT := fun _ _ _ _ h => h
theorem opx_leT : OpX' leT := fun _ _ _ _ h => h
theorem opx_geT : OpX' geT := fun _ _ _ _ h => h
theorem opx_isT : OpX' isT := fun _ _ _ _ h => h
theorem opx_isnT : OpX' isnT := fun _ _ _ _ h => h
theorem okd_lst_ref {x : T} (a : Addr) : x = .ref a → okd x = false := fun e => by rw [e]; rfl
theorem inQ_v {S : Sto} {x y v : T} {b : Bool} (h : VwS S y v) (e : inQ emp x v = some b) : inQ S x y = some b := by
  rcases h.res with ⟨e1, e1'⟩ | ⟨a, rfl⟩ | ⟨n, ks, vs, rfl⟩
  · unfold inQ at e ⊢
    rw [e1]
    rw [e1'] at e
    exact e
  · cases e
  · cases e
theorem opv_inT : ∀ S x y v r, VwS S y v → inT emp x v = some r → inT S x y = some r := fun S x y v r h e => by
  unfold inT at e ⊢
  cases q : inQ emp x v with
  | none => rw [q] at e; cases e
  | some b => rw [inQ_v h q]; rw [q] at e; exact e
theorem opv_ninT : ∀ S x y v r, VwS S y v → ninT emp x v = some r → ninT S x y = some r := fun S x y v r h e => by
  unfold ninT at e ⊢
  cases q : inQ emp x v with
  | none => rw [q] at e; cases e
  | some b => rw [inQ_v h q]; rw [q] at e; exact e
theorem opv_ixT : OpV ixT := opv_of1 (fun x y => match x, y with
  | .lst ts, .int i => L2.atI ts i
  | .tup ts, .int i => L2.atI ts i
  | .str z, .int i => if z.length ≤ sizeLine then (L2.atI z i).map fun c => .str [c] else none
  | _, _ => none) (fun _ _ _ => rfl) (fun _ _ => rfl) (fun _ _ _ _ => rfl) (fun x _ => by cases x <;> rfl) fun _ _ _ x => by cases x <;> rfl
theorem unv_negT : UnV negT := fun S z v r h e => by
  rcases h with rfl | ⟨a, xs, _, _, rfl⟩ | ⟨a, n, ks, vs, _, _, rfl⟩
  · exact e
  · cases e
  · cases e
theorem unv_ssetT : UnV ssetT := unv_of (fun x => match x with
  | .lst ts => if (setOk ts && sortOk ts) = true then some (.lst (sortU ts)) else none
  | .tup ts => if (setOk ts && sortOk ts) = true then some (.lst (sortU ts)) else none
  | _ => none) (fun _ _ => rfl) (fun _ => rfl) fun _ _ _ => rfl
theorem unv_slenT : UnV slenT := unv_of (fun x => match x with
  | .lst ts => if setOk ts = true then some (.int (dedupT ts).length) else none
  | .tup ts => if setOk ts = true then some (.int (dedupT ts).length) else none
  | _ => none) (fun _ _ => rfl) (fun _ => rfl) fun _ _ _ => rfl
theorem kdOf_v {S : Sto} {z v : T} {k : Kd} (h : VwS S z v) (e : kdOf emp v = some k) : kdOf S z = some k := by
  rcases h with rfl | ⟨a, xs, rfl, h, rfl⟩ | ⟨a, n, ks', vs, rfl, h, rfl⟩
  · cases z with
    | ref a => cases e
    | dct n ks vs => cases n <;> exact e
    | _ => exact e
  · simp only [kdOf, h]
    exact e
  · cases n with
    | false => simp only [kdOf, h]; exact e
    | true => cases e
theorem unv_isiT {ks : List Kd} : UnV (isiT ks) := fun S z v r h e => by
  unfold isiT at e ⊢
  cases q : kdOf emp v with
  | none => rw [q] at e; cases e
  | some k => rw [kdOf_v h q]; rw [q] at e; exact e
theorem fnv_one {f : Sto → List T → Option T} (g : T → Option T) (h : ∀ S x, f S [x] = g (res S x)) (n0 : f emp [] = none) (n2 : ∀ x y zs, f emp (x :: y :: zs) = none) (n1 : ∀ a, g (.ref a) = none) (n3 : ∀ n ks vs, g (.dct n ks vs) = none) : FnV f := fun S zs vs r hv e => by
  cases hv with
  | nil => rw [n0] at e; cases e
  | cons h1 ht =>
    cases ht with
    | nil =>
      exact unv_of (op := fun S x => f S [x]) g h n1 n3 S _ _ r h1 e
    | cons h2 ht => rw [n2] at e; cases e
theorem fnv_lenF : FnV lenF := fnv_one (fun x => match x with
  | .lst ts => some (.int ts.length)
  | .tup ts => some (.int ts.length)
  | .str z => if z.length ≤ sizeLine then some (.int z.length) else none
  | _ => none) (fun _ _ => rfl) rfl (fun _ _ _ => rfl) (fun _ => rfl) fun _ _ _ => rfl
theorem fnv_tupleF : FnV tupleF := fnv_one (fun x => match x with
  | .lst ts => some (.tup ts)
  | .tup ts => some (.tup ts)
  | _ => none) (fun _ _ => rfl) rfl (fun _ _ _ => rfl) (fun _ => rfl) fun _ _ _ => rfl
theorem fnv_listF : FnV listF := fnv_one (fun x => match x with
  | .lst ts => some (.lst ts)
  | .tup ts => some (.lst ts)
  | _ => none) (fun _ _ => rfl) rfl (fun _ _ _ => rfl) (fun _ => rfl) fun _ _ _ => rfl
theorem fnv_allF : FnV allF := fnv_one (fun x => match x with
  | .lst ts => (blsOf ts).map fun bs => .bl (bs.all id)
  | _ => none) (fun _ _ => rfl) rfl (fun _ _ _ => rfl) (fun _ => rfl) fun _ _ _ => rfl
theorem fnv_sortedF : FnV sortedF := fnv_one (fun x => match x with
  | .lst ts => if (sortOk ts && decide (ts.length ≤ sizeLine)) = true then some (.lst (ts.mergeSort leT')) else none
  | .tup ts => if (sortOk ts && decide (ts.length ≤ sizeLine)) = true then some (.lst (ts.mergeSort leT')) else none
  | _ => none) (fun _ _ => rfl) rfl (fun _ _ _ => rfl) (fun _ => rfl) fun _ _ _ => rfl
/-- no views: a function of the values alone -/
def FnX' (f : Sto → List T → Option T) : Prop := ∀ S vs r, f emp vs = some r → f S vs = some r
theorem fnx_absF : FnX' absF := fun _ _ _ h => h
theorem fnx_intF : FnX' intF := fun _ _ _ h => h
theorem fnx_max2F : FnX' max2F := fun _ _ _ h => h
theorem fnx_min2F : FnX' min2F := fun _ _ _ h => h
theorem fnx_strF : FnX' strF := fun _ _ _ h => h
theorem VwsS.same {S : Sto} : ∀ (vs : List T), VwsS S vs vs
  | [] => .nil
  | _ :: vs => .cons (.inl rfl) (VwsS.same vs)
theorem mtv_joinF : MtV joinF := fun S z v zs vs r h hv e => by
  have hz : z = v := by
    rcases h with q | ⟨a, xs, _, _, rfl⟩ | ⟨a, n, ks, vs, _, _, rfl⟩
    · exact q
    · cases e
    · cases e
  subst hz
  cases hv with
  | nil => cases z <;> cases e
  | cons h1 ht =>
    cases ht with
    | cons h2 ht => cases z <;> cases e
    | nil =>
      cases z with
      | str a =>
        rcases h1.res with ⟨e1, e1'⟩ | ⟨b, rfl⟩ | ⟨n, ks, vs, rfl⟩
        · unfold joinF at e ⊢
          simp only at e ⊢
          rw [e1]
          rw [e1'] at e
          exact e
        · cases e
        · cases e
      | _ => cases e
def MtX' (f : Sto → T → List T → Option T) : Prop := ∀ S v vs r, f emp v vs = some r → f S v vs = some r
theorem mtx_sixF : MtX' sixF := fun _ _ _ _ h => h
theorem mtx_tixF : MtX' tixF := fun _ _ _ _ h => h
theorem dView_v {S : Sto} {z v : T} {p : List T × List T} (h : VwS S z v) (e : dView emp v = some p) : dView S z = some p := by
  rcases h with rfl | ⟨a, xs, rfl, h, rfl⟩ | ⟨a, n, ks, vs, rfl, h, rfl⟩
  · cases z with
    | ref a => cases e
    | dct n ks vs => cases n <;> exact e
    | _ => exact e
  · cases e
  · cases n with
    | false => simp only [dView, h]; exact e
    | true => cases e
theorem kyT_v {S : Sto} {z v : T} {k : Key} (h : VwS S z v) (e : kyT v = some k) : z = v := by
  rcases h with q | ⟨a, xs, _, _, rfl⟩ | ⟨a, n, ks, vs, _, _, rfl⟩
  · exact q
  · cases e
  · cases e
theorem opv_dgT : OpV dgT := fun S z1 v1 z2 v2 r h1 h2 e => by
  unfold dgT at e ⊢
  split at e
  · rename_i p k e1 e2
    rw [dView_v h1 e1, kyT_v h2 e2, e2]
    exact e
  · cases e
theorem dinQ_v {S : Sto} {x y v : T} {b : Bool} (h : VwS S y v) (e : dinQ emp x v = some b) : dinQ S x y = some b := by
  unfold dinQ at e ⊢
  split at e
  · rename_i p k e1 e2
    rw [dView_v h e1, e2]
    exact e
  · cases e
theorem opv_dinT : ∀ S x y v r, VwS S y v → dinT emp x v = some r → dinT S x y = some r := fun S x y v r h e => by
  unfold dinT at e ⊢
  cases q : dinQ emp x v with
  | none => rw [q] at e; cases e
  | some b => rw [dinQ_v h q]; rw [q] at e; exact e
theorem opv_dninT : ∀ S x y v r, VwS S y v → dninT emp x v = some r → dninT S x y = some r := fun S x y v r h e => by
  unfold dninT at e ⊢
  cases q : dinQ emp x v with
  | none => rw [q] at e; cases e
  | some b => rw [dinQ_v h q]; rw [q] at e; exact e
theorem dg2T_v {S : Sto} {x v y z r : T} (h : VwS S x v) (e : dg2T emp v y z = some r) : dg2T S x y z = some r := by
  unfold dg2T at e ⊢
  split at e
  · rename_i p k e1 e2
    rw [dView_v h e1, e2]
    exact e
  · cases e
theorem fnv_dictF : FnV dictF := fnv_one (fun x => match x with
  | .lst ts => (mrgT ts [] []).map fun p => .dct false p.1 p.2
  | _ => none) (fun _ _ => rfl) rfl (fun _ _ _ => rfl) (fun _ => rfl) fun _ _ _ => rfl
theorem slT_v {S : Sto} {z v r : T} {lo hi : Option Int} (h : VwS S z v) (e : slT emp v lo hi = some r) : slT S z lo hi = some r := by
  rcases h.res with ⟨e1, e1'⟩ | ⟨a, rfl⟩ | ⟨n, ks, vs, rfl⟩
  · unfold slT at e ⊢
    rw [e1]
    rw [e1'] at e
    exact e
  · cases e
  · cases e
end TL

/-! TMb: an expression's reading by its mirror. -/
namespace TL
open PySem PySem.Spec PyProof.Rows L2
section
variable {κ : Type} {α β γ : Type}
def XE (W : κ → Sto) (p : TEnv) (l : Cs) (e : TTE) (m : PM κ T) : Prop := ∀ (Q E : T → Sto → Prop) k τ S, En p τ → SI W l k S → Sat (m k) (fun v k' => ∀ S', SI W l k' S' → Q v S') (fun x k' => ∀ S', SI W [] k' S' → E x S') → e τ S Q E
def XV (W : κ → Sto) (p : TEnv) (l : Cs) (e : TTE) (m : PM κ T) : Prop := ∀ (Q E : T → Sto → Prop) k τ S, En p τ → SI W l k S → Sat (m k) (fun v k' => ∀ z S', SI W l k' S' → Vw l z v → Q z S') (fun x k' => ∀ S', SI W [] k' S' → E x S') → e τ S Q E
def XTs (W : κ → Sto) (p : TEnv) (l : Cs) (e : TTB) (m : PM κ Bool) : Prop := ∀ (Q : Bool → Sto → Prop) (E : T → Sto → Prop) k τ S, En p τ → SI W l k S → Sat (m k) (fun v k' => ∀ S', SI W l k' S' → Q v S') (fun x k' => ∀ S', SI W [] k' S' → E x S') → e τ S Q E
def XO (W : κ → Sto) (p : TEnv) (l : Cs) (e : TTO) (m : PM κ (Option Int)) : Prop := ∀ (Q : Option Int → Sto → Prop) (E : T → Sto → Prop) k τ S, En p τ → SI W l k S → Sat (m k) (fun v k' => ∀ S', SI W l k' S' → Q v S') (fun x k' => ∀ S', SI W [] k' S' → E x S') → e τ S Q E
/-- arguments, exact or seen; in continuation form -/
def XA (W : κ → Sto) (p : TEnv) (l : Cs) (n : Nat) (a : TTA) (m : (List T → PM κ β) → PM κ β) : Prop := ∀ (K : List T → PM κ β) (P : β → κ → Prop) (X : T → κ → Prop) (Q : List T → Sto → Prop) (E : T → Sto → Prop) k τ S, En p τ → SI W l k S → Sat (m K k) P X →
  (∀ zs k' S', zs.length = n → SI W l k' S' → Sat (K zs k') P X → Q zs S') → (∀ x k' S', SI W [] k' S' → X x k' → E x S') → a τ S Q E
def XAV (W : κ → Sto) (p : TEnv) (l : Cs) (a : TTA) (m : (List T → PM κ β) → PM κ β) : Prop := ∀ (K : List T → PM κ β) (P : β → κ → Prop) (X : T → κ → Prop) (Q : List T → Sto → Prop) (E : T → Sto → Prop) k τ S, En p τ → SI W l k S → Sat (m K k) P X →
  (∀ zs vs k' S', Vws l zs vs → SI W l k' S' → Sat (K vs k') P X → Q zs S') → (∀ x k' S', SI W [] k' S' → X x k' → E x S') → a τ S Q E
/-- what is walked; y: nothing hangs on the store -/
def XI (W : κ → Sto) (p : TEnv) (l : Cs) (it : TTI) (m : PM κ (List T)) : Prop := ∀ (Q : List T → (Sto → Prop) → Sto → Prop) (E : T → Sto → Prop) k τ S, En p τ → SI W l k S → Sat (m k) (fun xs k' => ∀ S' g, SI W l k' S' → (∀ k S, SI W l k S → g S) → Q xs g S') (fun x k' => ∀ S', SI W [] k' S' → E x S') → it τ S Q E
def XIy (W : κ → Sto) (p : TEnv) (l : Cs) (it : TTI) (m : PM κ (List T)) : Prop := ∀ (Q : List T → (Sto → Prop) → Sto → Prop) (E : T → Sto → Prop) k τ S, En p τ → SI W l k S → Sat (m k) (fun xs k' => ∀ S', SI W l k' S' → Q xs yes S') (fun x k' => ∀ S', SI W [] k' S' → E x S') → it τ S Q E
variable {W : κ → Sto} {p : TEnv} {l : Cs} {e a b c : TTE} {m ma mb mc : PM κ T}
theorem XE.v (h : XE W p l e m) : XV W p l e m := fun Q E k τ S hE i s => h Q E k τ S hE i (s.mono (fun v k' q S' j => q v S' j (.inl rfl)) fun _ _ q => q)
theorem XIy.i {it : TTI} {m : PM κ (List T)} (h : XIy W p l it m) : XI W p l it m := fun Q E k τ S hE i s => h Q E k τ S hE i (s.mono (fun v k' q S' j => q S' yes j fun _ _ _ => trivial) fun _ _ q => q)
theorem xe_c {t : T} : XE W p l (cC t) (pu t) := fun Q E k τ S hE i s => s S i
theorem xe_var {i : Nat} {x : T} (h : p[i]? = some (some x)) : XE W p l (cVar i) (pu x) := fun Q E k τ S hE i s => ⟨x, hE.get h, s S i⟩
theorem xv_cell {i : Nat} {a : Addr} {xs : List T} (h : p[i]? = some (some (.ref a))) (hm : (a, Cell.lst xs) ∈ l) : XV W p l (cVar i) (pu (.lst xs)) := fun Q E k τ S hE i s => ⟨.ref a, hE.get h, s (.ref a) S i (.inr (.inl ⟨a, xs, rfl, hm, rfl⟩))⟩
theorem xv_dcell {i : Nat} {a : Addr} {n : Bool} {ks vs : List T} (h : p[i]? = some (some (.ref a))) (hm : (a, Cell.dct n ks vs) ∈ l) : XV W p l (cVar i) (pu (.dct n ks vs)) := fun Q E k τ S hE i s => ⟨.ref a, hE.get h, s (.ref a) S i (.inr (.inr ⟨a, n, ks, vs, rfl, hm, rfl⟩))⟩
theorem xe_op {op : Sto → T → T → Option T} (ho : OpV op) (ha : XV W p l a ma) (hb : XV W p l b mb) : XE W p l (cOp op a b) (bd ma fun x => bd mb fun y => ofO (op emp x y)) := fun Q E k τ S hE i s => by
  refine ha _ _ k τ S hE i ((Sat.bd.mp s).mono (fun v k1 s1 z S1 i1 w1 => ?_) fun _ _ q => q)
  refine hb _ _ k1 τ S1 hE i1 ((Sat.bd.mp s1).mono (fun v2 k2 s2 z2 S2 i2 w2 => ?_) fun _ _ q => q)
  unfold ofO at s2
  cases q : op emp v v2 with
  | none => rw [q] at s2; exact s2.elim
  | some r => rw [q] at s2; exact ⟨r, ho S2 _ _ _ _ r (w1.at i2) (w2.at i2) q, s2 S2 i2⟩
theorem xe_opx {op : Sto → T → T → Option T} (ho : OpX' op) (ha : XE W p l a ma) (hb : XE W p l b mb) : XE W p l (cOp op a b) (bd ma fun x => bd mb fun y => ofO (op emp x y)) := fun Q E k τ S hE i s => by
  refine ha _ _ k τ S hE i ((Sat.bd.mp s).mono (fun v k1 s1 S1 i1 => ?_) fun _ _ q => q)
  refine hb _ _ k1 τ S1 hE i1 ((Sat.bd.mp s1).mono (fun v2 k2 s2 S2 i2 => ?_) fun _ _ q => q)
  unfold ofO at s2
  cases q : op emp v v2 with
  | none => rw [q] at s2; exact s2.elim
  | some r => rw [q] at s2; exact ⟨r, ho S2 _ _ r q, s2 S2 i2⟩
/-- the first exact, the second seen (in, not in) -/
theorem xe_opr {op : Sto → T → T → Option T} (ho : ∀ S x y v r, VwS S y v → op emp x v = some r → op S x y = some r) (ha : XE W p l a ma) (hb : XV W p l b mb) : XE W p l (cOp op a b) (bd ma fun x => bd mb fun y => ofO (op emp x y)) := fun Q E k τ S hE i s => by
  refine ha _ _ k τ S hE i ((Sat.bd.mp s).mono (fun v k1 s1 S1 i1 => ?_) fun _ _ q => q)
  refine hb _ _ k1 τ S1 hE i1 ((Sat.bd.mp s1).mono (fun v2 k2 s2 z2 S2 i2 w2 => ?_) fun _ _ q => q)
  unfold ofO at s2
  cases q : op emp v v2 with
  | none => rw [q] at s2; exact s2.elim
  | some r => rw [q] at s2; exact ⟨r, ho S2 _ _ _ r (w2.at i2) q, s2 S2 i2⟩
theorem xe_un {op : Sto → T → Option T} (ho : UnV op) (ha : XV W p l a ma) : XE W p l (cUn op a) (bd ma fun x => ofO (op emp x)) := fun Q E k τ S hE i s => by
  refine ha _ _ k τ S hE i ((Sat.bd.mp s).mono (fun v k1 s1 z S1 i1 w1 => ?_) fun _ _ q => q)
  unfold ofO at s1
  cases q : op emp v with
  | none => rw [q] at s1; exact s1.elim
  | some r => rw [q] at s1; exact ⟨r, ho S1 _ _ r (w1.at i1) q, s1 S1 i1⟩
def tb (x : T) : PM κ Bool := match x with
  | .bl b => pu b
  | _ => stuck
theorem tb_bl {b : Bool} : tb (κ := κ) (.bl b) = pu b := rfl
theorem sat_tb {x : T} {k : κ} {P : Bool → κ → Prop} {X : T → κ → Prop} (h : Sat (tb x k) P X) : ∃ b, x = .bl b ∧ P b k := by
  cases x with
  | bl b => exact ⟨b, rfl, h⟩
  | _ => exact h.elim
theorem xb_val (ha : XE W p l a ma) : XTs W p l (bVal a) (bd ma tb) := fun Q E k τ S hE i s => by
  refine ha _ _ k τ S hE i ((Sat.bd.mp s).mono (fun v k1 s1 S1 i1 => ?_) fun _ _ q => q)
  obtain ⟨b, e, q⟩ := sat_tb s1
  exact ⟨b, e, q S1 i1⟩
variable {ca cb : TTB} {na nb : PM κ Bool}
theorem xb_and (ha : XTs W p l ca na) (hb : XTs W p l cb nb) : XTs W p l (bAnd ca cb) (bd na fun t => if t = true then nb else pu false) := fun Q E k τ S hE i s => by
  refine ha _ _ k τ S hE i ((Sat.bd.mp s).mono (fun v k1 s1 S1 i1 => ?_) fun _ _ q => q)
  cases v with
  | true => exact hb _ _ k1 τ S1 hE i1 s1
  | false => exact s1 S1 i1
theorem xb_or (ha : XTs W p l ca na) (hb : XTs W p l cb nb) : XTs W p l (bOr ca cb) (bd na fun t => if t = true then pu true else nb) := fun Q E k τ S hE i s => by
  refine ha _ _ k τ S hE i ((Sat.bd.mp s).mono (fun v k1 s1 S1 i1 => ?_) fun _ _ q => q)
  cases v with
  | false => exact hb _ _ k1 τ S1 hE i1 s1
  | true => exact s1 S1 i1
theorem xb_not (ha : XTs W p l ca na) : XTs W p l (bNot ca) (bd na fun t => pu !t) := fun Q E k τ S hE i s => by
  refine ha _ _ k τ S hE i ((Sat.bd.mp s).mono (fun v k1 s1 S1 i1 => s1 S1 i1) fun _ _ q => q)
theorem xb_yes : XTs W p l bYes (pu true) := fun Q E k τ S hE i s => s S i
theorem xe_and (ha : XE W p l a ma) (hb : XE W p l b mb) : XE W p l (cAnd a b) (bd ma fun x => bd (tb x) fun t => if t = true then mb else pu (.bl false)) := fun Q E k τ S hE i s => by
  refine ha _ _ k τ S hE i ((Sat.bd.mp s).mono (fun v k1 s1 S1 i1 => ?_) fun _ _ q => q)
  obtain ⟨t, e, q⟩ := sat_tb (Sat.bd.mp s1)
  refine ⟨t, e, ?_⟩
  cases t with
  | true => exact hb _ _ k1 τ S1 hE i1 q
  | false => exact q S1 i1
theorem xe_or (ha : XE W p l a ma) (hb : XE W p l b mb) : XE W p l (cOr a b) (bd ma fun x => bd (tb x) fun t => if t = true then pu (.bl true) else mb) := fun Q E k τ S hE i s => by
  refine ha _ _ k τ S hE i ((Sat.bd.mp s).mono (fun v k1 s1 S1 i1 => ?_) fun _ _ q => q)
  obtain ⟨t, e, q⟩ := sat_tb (Sat.bd.mp s1)
  refine ⟨t, e, ?_⟩
  cases t with
  | false => exact hb _ _ k1 τ S1 hE i1 q
  | true => exact q S1 i1
theorem xe_not (ha : XE W p l a ma) : XE W p l (cNot a) (bd ma fun x => bd (tb x) fun t => pu (.bl !t)) := fun Q E k τ S hE i s => by
  refine ha _ _ k τ S hE i ((Sat.bd.mp s).mono (fun v k1 s1 S1 i1 => ?_) fun _ _ q => q)
  obtain ⟨t, e, q⟩ := sat_tb (Sat.bd.mp s1)
  exact ⟨t, e, q S1 i1⟩
theorem xe_if (hc : XTs W p l ca na) (ha : XE W p l a ma) (hb : XE W p l b mb) : XE W p l (cIf ca a b) (bd na fun t => if t = true then ma else mb) := fun Q E k τ S hE i s => by
  refine hc _ _ k τ S hE i ((Sat.bd.mp s).mono (fun v k1 s1 S1 i1 => ?_) fun _ _ q => q)
  cases v with
  | true => exact ha _ _ k1 τ S1 hE i1 s1
  | false => exact hb _ _ k1 τ S1 hE i1 s1
theorem xe_chain {f g : Sto → T → T → Option T} (hf : OpX' f) (hg : OpX' g) (ha : XE W p l a ma) (hb : XE W p l b mb) (hc : XE W p l c mc) :
    XE W p l (cChain f g a b c) (bd ma fun x => bd mb fun y => bd (ofO (f emp x y)) fun z => bd (tb z) fun t => if t = true then bd mc fun w => ofO (g emp y w) else pu (.bl false)) := fun Q E k τ S hE i s => by
  refine ha _ _ k τ S hE i ((Sat.bd.mp s).mono (fun v k1 s1 S1 i1 => ?_) fun _ _ q => q)
  refine hb _ _ k1 τ S1 hE i1 ((Sat.bd.mp s1).mono (fun v2 k2 s2 S2 i2 => ?_) fun _ _ q => q)
  have s3 := Sat.bd.mp s2
  unfold ofO at s3
  cases q : f emp v v2 with
  | none => rw [q] at s3; exact s3.elim
  | some r =>
    rw [q] at s3
    obtain ⟨t, e, s4⟩ := sat_tb (Sat.bd.mp s3)
    subst e
    refine ⟨t, hf S2 _ _ _ q, ?_⟩
    cases t with
    | false => exact s4 S2 i2
    | true =>
      refine hc _ _ k2 τ S2 hE i2 ((Sat.bd.mp s4).mono (fun v3 k3 s5 S3 i3 => ?_) fun _ _ q => q)
      unfold ofO at s5
      cases q3 : g emp v2 v3 with
      | none => rw [q3] at s5; exact s5.elim
      | some r3 => rw [q3] at s5; exact ⟨r3, hg S3 _ _ _ q3, s5 S3 i3⟩
/-! arguments -/
theorem xa_nil : XA (β := β) W p l 0 cNil (fun K => K []) := fun K P X Q E k τ S hE i s h _ => h [] k S rfl i s
theorem xa_cons {n : Nat} {r : TTA} {mr : (List T → PM κ β) → PM κ β} (ha : XE W p l a ma) (hr : XA W p l n r mr) : XA W p l (n + 1) (cCons a r) (fun K => bd ma fun x => mr fun xs => K (x :: xs)) := fun K P X Q E k τ S hE i s h hx => by
  refine ha _ _ k τ S hE i ((Sat.bd.mp s).mono (fun v k1 s1 S1 i1 => ?_) fun x k1 q S1 i1 => hx x k1 S1 i1 q)
  exact hr _ P X _ E k1 τ S1 hE i1 s1 (fun zs k2 S2 e i2 s2 => h (v :: zs) k2 S2 (by rw [List.length_cons, e]) i2 s2) hx
theorem xav_nil : XAV (β := β) W p l cNil (fun K => K []) := fun K P X Q E k τ S hE i s h _ => h [] [] k S .nil i s
theorem xav_cons {r : TTA} {mr : (List T → PM κ β) → PM κ β} (ha : XV W p l a ma) (hr : XAV W p l r mr) : XAV W p l (cCons a r) (fun K => bd ma fun x => mr fun xs => K (x :: xs)) := fun K P X Q E k τ S hE i s h hx => by
  refine ha _ _ k τ S hE i ((Sat.bd.mp s).mono (fun v k1 s1 z S1 i1 w1 => ?_) fun x k1 q S1 i1 => hx x k1 S1 i1 q)
  exact hr _ P X _ E k1 τ S1 hE i1 s1 (fun zs vs k2 S2 w2 i2 s2 => h (z :: zs) (v :: vs) k2 S2 (.cons w1 w2) i2 s2) hx
theorem small_line {n : Nat} (h : n ≤ 1000) : n ≤ sizeLine := by have := sizeLine_eq; omega
theorem xe_tup {n : Nat} {r : TTA} {mr : (List T → PM κ T) → PM κ T} (h : XA W p l n r mr) (hn : n ≤ 1000 := by decide) : XE W p l (cTup r) (mr fun xs => pu (.tup xs)) := fun Q E k τ S hE i s =>
  h _ _ _ _ E k τ S hE i s (fun zs k' S' e i' s' => ⟨by rw [e]; exact small_line hn, s' S' i'⟩) fun x k' S' i' q => q S' i'
theorem xe_lst {n : Nat} {r : TTA} {mr : (List T → PM κ T) → PM κ T} (h : XA W p l n r mr) (hn : n ≤ 1000 := by decide) : XE W p l (cLst r) (mr fun xs => pu (.lst xs)) := fun Q E k τ S hE i s =>
  h _ _ _ _ E k τ S hE i s (fun zs k' S' e i' s' => ⟨by rw [e]; exact small_line hn, s' S' i'⟩) fun x k' S' i' q => q S' i'
theorem xe_fn {g : Sto → List T → Option T} {r : TTA} {mr : (List T → PM κ T) → PM κ T} (hg : FnV g) (h : XAV W p l r mr) : XE W p l (cFn g r) (mr fun xs => ofO (g emp xs)) := fun Q E k τ S hE i s =>
  h _ _ _ _ E k τ S hE i s (fun zs vs k' S' w i' s' => by
    unfold ofO at s'
    cases q : g emp vs with
    | none => rw [q] at s'; exact s'.elim
    | some r => rw [q] at s'; exact ⟨r, hg S' _ _ r (w.at i') q, s' S' i'⟩) fun x k' S' i' q => q S' i'
theorem xe_fnx {g : Sto → List T → Option T} {r : TTA} {n : Nat} {mr : (List T → PM κ T) → PM κ T} (hg : FnX' g) (h : XA W p l n r mr) : XE W p l (cFn g r) (mr fun xs => ofO (g emp xs)) := fun Q E k τ S hE i s =>
  h _ _ _ _ E k τ S hE i s (fun zs k' S' e i' s' => by
    unfold ofO at s'
    cases q : g emp zs with
    | none => rw [q] at s'; exact s'.elim
    | some r => rw [q] at s'; exact ⟨r, hg S' _ r q, s' S' i'⟩) fun x k' S' i' q => q S' i'
/-- methods of texts and tuples -/
theorem xe_m {kk : T → Bool} {f : Sto → T → List T → Option T} {r : TTA} {mr : T → (List T → PM κ T) → PM κ T} (hf : MtV f) (ha : XE W p l a ma) (h : ∀ x, XAV W p l r (mr x)) :
    XE W p l (cM kk f a r) (bd ma fun x => bd (gd (kk x = true)) fun _ => mr x fun xs => ofO (f emp x xs)) := fun Q E k τ S hE i s => by
  refine ha _ _ k τ S hE i ((Sat.bd.mp s).mono (fun v k1 s1 S1 i1 => ?_) fun _ _ q => q)
  have s2 := Sat.bd.mp s1
  unfold gd at s2
  by_cases hk : kk v = true
  · rw [if_pos hk] at s2
    refine ⟨hk, h v _ _ _ _ E k1 τ S1 hE i1 s2 (fun zs vs k' S' w i' s' => ?_) fun x k' S' i' q => q S' i'⟩
    unfold ofO at s'
    cases q : f emp v vs with
    | none => rw [q] at s'; exact s'.elim
    | some r => rw [q] at s'; exact ⟨r, hf S' _ _ _ _ r (.inl rfl) (w.at i') q, s' S' i'⟩
  · rw [if_neg hk] at s2; exact s2.elim
theorem xe_mx {kk : T → Bool} {f : Sto → T → List T → Option T} {r : TTA} {n : Nat} {mr : T → (List T → PM κ T) → PM κ T} (hf : MtX' f) (ha : XE W p l a ma) (h : ∀ x, XA W p l n r (mr x)) :
    XE W p l (cM kk f a r) (bd ma fun x => bd (gd (kk x = true)) fun _ => mr x fun xs => ofO (f emp x xs)) := fun Q E k τ S hE i s => by
  refine ha _ _ k τ S hE i ((Sat.bd.mp s).mono (fun v k1 s1 S1 i1 => ?_) fun _ _ q => q)
  have s2 := Sat.bd.mp s1
  unfold gd at s2
  by_cases hk : kk v = true
  · rw [if_pos hk] at s2
    refine ⟨hk, h v _ _ _ _ E k1 τ S1 hE i1 s2 (fun zs k' S' e i' s' => ?_) fun x k' S' i' q => q S' i'⟩
    unfold ofO at s'
    cases q : f emp v zs with
    | none => rw [q] at s'; exact s'.elim
    | some r => rw [q] at s'; exact ⟨r, hf S' _ _ r q, s' S' i'⟩
  · rw [if_neg hk] at s2; exact s2.elim
def intO (x : T) : PM κ Int := match x with
  | .int i => pu i
  | _ => stuck
theorem intO_int {i : Int} : intO (κ := κ) (.int i) = pu i := rfl
theorem xo_no : XO W p l oNo (pu none) := fun Q E k τ S hE i s => s S i
theorem xo_some (ha : XE W p l a ma) : XO W p l (oSome a) (bd ma fun x => bd (intO x) fun i => pu (some i)) := fun Q E k τ S hE i s => by
  refine ha _ _ k τ S hE i ((Sat.bd.mp s).mono (fun v k1 s1 S1 i1 => ?_) fun _ _ q => q)
  cases v with
  | int j => exact ⟨j, rfl, s1 S1 i1⟩
  | _ => exact s1.elim
theorem xe_sl {lo hi : TTO} {ml mh : PM κ (Option Int)} (ha : XV W p l a ma) (hl : XO W p l lo ml) (hh : XO W p l hi mh) : XE W p l (cSl a lo hi) (bd ma fun x => bd ml fun i => bd mh fun j => ofO (slT emp x i j)) := fun Q E k τ S hE i s => by
  refine ha _ _ k τ S hE i ((Sat.bd.mp s).mono (fun v k1 s1 z S1 i1 w1 => ?_) fun _ _ q => q)
  refine hl _ _ k1 τ S1 hE i1 ((Sat.bd.mp s1).mono (fun v2 k2 s2 S2 i2 => ?_) fun _ _ q => q)
  refine hh _ _ k2 τ S2 hE i2 ((Sat.bd.mp s2).mono (fun v3 k3 s3 S3 i3 => ?_) fun _ _ q => q)
  unfold ofO at s3
  cases q : slT emp v v2 v3 with
  | none => rw [q] at s3; exact s3.elim
  | some r => rw [q] at s3; exact ⟨r, slT_v (w1.at i3) q, s3 S3 i3⟩
theorem xe_dnew : XE W p l cDnew (pu (.dct false [] [])) := fun Q E k τ S hE i s => s S i
theorem xe_get2 (ha : XV W p l a ma) (hb : XE W p l b mb) (hc : XE W p l c mc) : XE W p l (cGet2 a b c) (bd ma fun x => bd (gd ((dView emp x).isSome = true)) fun _ => bd mb fun y => bd mc fun z => ofO (dg2T emp x y z)) := fun Q E k τ S hE i s => by
  refine ha _ _ k τ S hE i ((Sat.bd.mp s).mono (fun v k1 s1 z S1 i1 w1 => ?_) fun _ _ q => q)
  have s1 := Sat.bd.mp s1
  unfold gd at s1
  by_cases hd : (dView emp v).isSome = true
  · rw [if_pos hd] at s1
    obtain ⟨p, hp⟩ := Option.isSome_iff_exists.mp hd
    refine ⟨⟨p, dView_v (w1.at i1) hp⟩, ?_⟩
    refine hb _ _ k1 τ S1 hE i1 ((Sat.bd.mp s1).mono (fun v2 k2 s2 S2 i2 => ?_) fun _ _ q => q)
    refine hc _ _ k2 τ S2 hE i2 ((Sat.bd.mp s2).mono (fun v3 k3 s3 S3 i3 => ?_) fun _ _ q => q)
    unfold ofO at s3
    cases q : dg2T emp v v2 v3 with
    | none => rw [q] at s3; exact s3.elim
    | some r => rw [q] at s3; exact ⟨r, dg2T_v (w1.at i3) q, s3 S3 i3⟩
  · rw [if_neg hd] at s1; exact s1.elim
/-! what is walked -/
def itemsM (v : T) : PM κ (List T) := match v with
  | .tup xs => pu xs
  | .lst xs => pu xs
  | .str x => pu (x.map fun c => .str [c])
  | _ => stuck
theorem itemsM_tup {xs : List T} : itemsM (κ := κ) (.tup xs) = pu xs := rfl
theorem itemsM_lst {xs : List T} : itemsM (κ := κ) (.lst xs) = pu xs := rfl
theorem itemsM_str {x : List Sg} : itemsM (κ := κ) (.str x) = pu (x.map fun c => .str [c]) := rfl
theorem xiy_seq (ha : XE W p l a ma) : XIy W p l (iSeq a) (bd ma itemsM) := fun Q E k τ S hE i s => by
  refine ha _ _ k τ S hE i ((Sat.bd.mp s).mono (fun v k1 s1 S1 i1 => ?_) fun _ _ q => q)
  cases v with
  | tup xs => exact ⟨_, rfl, s1 S1 i1⟩
  | lst xs => exact ⟨_, rfl, s1 S1 i1⟩
  | str xs => exact ⟨_, rfl, s1 S1 i1⟩
  | _ => exact s1.elim
theorem xi_cell {i : Nat} {a : Addr} {xs : List T} (h : p[i]? = some (some (.ref a))) (hm : (a, Cell.lst xs) ∈ l) : XI W p l (iSeq (cVar i)) (pu xs) := fun Q E k τ S hE i s => by
  refine ⟨.ref a, hE.get h, (xs, fun S' => S' a = some (.lst xs)), ?_, s S _ i fun k S' i' => i'.at_ _ hm⟩
  simp only [items, i.at_ _ hm]
def rng1 (x : T) : PM κ (List T) := match x with
  | .int j => bd (gd (-(2 ^ 62) ≤ j ∧ j < 2 ^ 62)) fun _ => pu ((List.range j.toNat).map fun i => T.int (0 + (i : Nat)))
  | _ => stuck
def rng2 (x y : T) : PM κ (List T) := match x, y with
  | .int i, .int j => bd (gd (-(2 ^ 62) ≤ i ∧ i < 2 ^ 62 ∧ -(2 ^ 62) ≤ j ∧ j < 2 ^ 62)) fun _ => pu ((List.range (j - i).toNat).map fun k => T.int (i + (k : Nat)))
  | _, _ => stuck
theorem rng1_int {j : Int} (h : -(2 ^ 62) ≤ j ∧ j < 2 ^ 62) : rng1 (κ := κ) (.int j) = pu ((List.range j.toNat).map fun i => T.int (0 + (i : Nat))) := by
  show bd (gd _) _ = _
  rw [gd_true h]; rfl
theorem rng2_int {i j : Int} (h : -(2 ^ 62) ≤ i ∧ i < 2 ^ 62 ∧ -(2 ^ 62) ≤ j ∧ j < 2 ^ 62) : rng2 (κ := κ) (.int i) (.int j) = pu ((List.range (j - i).toNat).map fun k => T.int (i + (k : Nat))) := by
  show bd (gd _) _ = _
  rw [gd_true h]; rfl
theorem sat_gd {b : Prop} [Decidable b] {k : κ} {P : Unit → κ → Prop} {X : T → κ → Prop} (h : Sat (gd b k) P X) : b ∧ P () k := by
  unfold gd at h
  split at h
  · exact ⟨by assumption, h⟩
  · exact h.elim
theorem xiy_range1 (ha : XE W p l a ma) : XIy W p l (iRange1 a) (bd ma rng1) := fun Q E k τ S hE i s => by
  refine ha _ _ k τ S hE i ((Sat.bd.mp s).mono (fun v k1 s1 S1 i1 => ?_) fun _ _ q => q)
  cases v with
  | int j =>
    obtain ⟨hb, q⟩ := sat_gd (Sat.bd.mp s1)
    exact ⟨j, rfl, hb.1, hb.2, q S1 i1⟩
  | _ => exact s1.elim
theorem xiy_range2 (ha : XE W p l a ma) (hb : XE W p l b mb) : XIy W p l (iRange2 a b) (bd ma fun x => bd mb fun y => rng2 x y) := fun Q E k τ S hE i s => by
  refine ha _ _ k τ S hE i ((Sat.bd.mp s).mono (fun v k1 s1 S1 i1 => ?_) fun _ _ q => q)
  refine hb _ _ k1 τ S1 hE i1 ((Sat.bd.mp s1).mono (fun v2 k2 s2 S2 i2 => ?_) fun _ _ q => q)
  cases v with
  | int j =>
    cases v2 with
    | int j2 =>
      obtain ⟨hb, q⟩ := sat_gd (Sat.bd.mp s2)
      exact ⟨j, j2, rfl, rfl, hb, q S2 i2⟩
    | _ => exact s2.elim
  | _ => exact s2.elim
def enumM (v : T) : PM κ (List T) := match rowOf v with
  | some ts => pu (enumL ts)
  | none => stuck
def zipM (x y : T) : PM κ (List T) := match rowOf x, rowOf y with
  | some ts, some us => pu (zipL ts us)
  | _, _ => stuck
theorem xiy_enum (ha : XE W p l a ma) : XIy W p l (iEnum a) (bd ma enumM) := fun Q E k τ S hE i s => by
  refine ha _ _ k τ S hE i ((Sat.bd.mp s).mono (fun v k1 s1 S1 i1 => ?_) fun _ _ q => q)
  unfold enumM at s1
  cases q : rowOf v with
  | none => simp only [q] at s1; exact s1.elim
  | some ts => simp only [q] at s1; exact ⟨ts, rfl, s1 S1 i1⟩
theorem xiy_zip (ha : XE W p l a ma) (hb : XE W p l b mb) : XIy W p l (iZip a b) (bd ma fun x => bd mb fun y => zipM x y) := fun Q E k τ S hE i s => by
  refine ha _ _ k τ S hE i ((Sat.bd.mp s).mono (fun v k1 s1 S1 i1 => ?_) fun _ _ q => q)
  refine hb _ _ k1 τ S1 hE i1 ((Sat.bd.mp s1).mono (fun v2 k2 s2 S2 i2 => ?_) fun _ _ q => q)
  unfold zipM at s2
  cases q : rowOf v with
  | none => simp only [q] at s2; exact s2.elim
  | some ts =>
    cases q2 : rowOf v2 with
    | none => simp only [q, q2] at s2; exact s2.elim
    | some us => simp only [q, q2] at s2; exact ⟨ts, us, rfl, rfl, s2 S2 i2⟩
theorem enumM_tup {xs : List T} : enumM (κ := κ) (.tup xs) = pu (enumL xs) := rfl
theorem enumM_lst {xs : List T} : enumM (κ := κ) (.lst xs) = pu (enumL xs) := rfl
theorem zipM_tt {xs ys : List T} : zipM (κ := κ) (.tup xs) (.tup ys) = pu (zipL xs ys) := rfl
theorem zipM_ll {xs ys : List T} : zipM (κ := κ) (.lst xs) (.lst ys) = pu (zipL xs ys) := rfl
theorem zipM_tl {xs ys : List T} : zipM (κ := κ) (.tup xs) (.lst ys) = pu (zipL xs ys) := rfl
theorem zipM_lt {xs ys : List T} : zipM (κ := κ) (.lst xs) (.tup ys) = pu (zipL xs ys) := rfl
/-! calls -/
def spU (f : List T → PM Unit T) : SpT := fun ts S Q E => Sat (f ts ()) (fun v _ => Q v S) (fun x _ => E x S)
def spP (f : List T → PM Cell T) : SpT := fun ts S Q E => ∃ p rest c, ts = .ref p :: rest ∧ S p = some c ∧ Sat (f rest c) (fun v c' => Q v (ups S p c')) (fun x c' => E x (ups S p c'))
theorem xe_call {n : Nat} {f : List T → PM Unit T} {r : TTA} {mr : (List T → PM κ T) → PM κ T} (h : XA W p l n r mr) : XE W p l (cCall (spU f) r) (mr fun xs => lft (f xs)) := fun Q E k τ S hE i s =>
  h _ _ _ _ E k τ S hE i s (fun zs k' S' e i' s' => (Sat.lft.mp s').mono (fun v _ q => q S' i') fun x _ q => q S' i'.nil) fun x k' S' i' q => q S' i'
/-- by the pen -/
abbrev penW (S0 : Sto) (a : Addr) : Cell → Sto := fun c => ups S0 a c
theorem SI.pen {S0 : Sto} {a : Addr} {c d : Cell} {S : Sto} (i : SI (penW S0 a) l c S) : SI (penW S0 a) l d (ups S a d) := by
  have ne : ∀ e ∈ l, e.1 ≠ a := fun e h z => by
    have := i.own e h
    rw [z] at this
    rw [show penW S0 a c a = some c from ups_same] at this
    cases this
  refine ⟨fun e h => by rw [ups_ne (ne e h)]; exact i.at_ e h, fun e h => ?_, i.nd, fun b q h => ?_⟩
  · have := i.own e h
    rw [show penW S0 a c e.1 = S0 e.1 from ups_ne (ne e h)] at this
    rw [show penW S0 a d e.1 = S0 e.1 from ups_ne (ne e h)]
    exact this
  · by_cases hb : b = a
    · subst hb
      rw [show penW S0 b d b = some d from ups_same] at h
      cases h
      exact ups_same
    · rw [show penW S0 a d b = S0 b from ups_ne hb] at h
      rw [ups_ne hb]
      exact i.base b q (by rw [show penW S0 a c b = S0 b from ups_ne hb]; exact h)
end
section
variable {S0 : Sto} {pa : Addr} {p : TEnv} {l : Cs}
theorem xe_callP {n : Nat} {f : List T → PM Cell T} {i : Nat} {r : TTA} {mr : (List T → PM Cell T) → PM Cell T} (hp : p[i]? = some (some (.ref pa))) (h : XA (penW S0 pa) p l n r mr) : XE (penW S0 pa) p l (cCall (spP f) (cCons (cVar i) r)) (mr f) := fun Q E k τ S hE i s => by
  refine ⟨.ref pa, hE.get hp, ?_⟩
  refine h _ _ _ _ E k τ S hE i s (fun zs k' S' e i' s' => ?_) fun x k' S' i' q => q S' i'
  exact ⟨pa, zs, k', rfl, i'.base pa k' ups_same, s'.mono (fun v c' q => q _ i'.pen) fun x c' q => q _ i'.pen.nil⟩
end
end TL

/-! TMc: a statement's reading by its mirror; defs. -/
namespace TL
open PySem PySem.Spec PyProof.Rows L2

/-! ### a cell is given up, what it holds stands in its slot -/
def FzE (S S2 : Sto) (τ τ2 : TEnv) : Prop := τ.length = τ2.length ∧ ∀ (i : Nat) (u : T), τ2[i]? = some (some u) → ∃ t, τ[i]? = some (some t) ∧ Fz S S2 t u
def cDrop (t : TTS) : TTS := fun D τ S E => ∃ τ2 S2, Sub S2 S ∧ FzE S S2 τ τ2 ∧ t D τ2 S2 E
theorem tss_drop {X : Cx} {rest : List Stmt} {t : TTS} (h : TSs X rest t) : TSs X rest (cDrop t) := fun M S0 H0 E tk =>
  (h M S0 H0 E tk).weak fun D σ H ⟨τ, S, B, rel, ⟨τ2, S2, sub, fz, q⟩, k1, k2, k3, k4⟩ =>
    have x := sub.ext (H := H)
    ⟨τ2, S2, B, ⟨⟨rel.env.1.trans fz.1, fun i u e => by
      obtain ⟨t, e1, f⟩ := fz.2 i u e
      obtain ⟨v, h1, h2⟩ := rel.env.2 i t e1
      exact ⟨v, h1, Fz.rep rel.sto sub f h2⟩⟩, rel.sto.drop sub, rel.ext.trans x⟩, q, fun σ' H' τ' S' r x' => k1 σ' H' τ' S' r (x.trans x'), fun z S' v H' o x' => k2 z S' v H' o (x.trans x'),
      fun σ' H' τ' S' r x' => k3 σ' H' τ' S' r (x.trans x'), fun σ' H' τ' S' r x' => k4 σ' H' τ' S' r (x.trans x')⟩

/-! ### where a block's mirror ends -/
inductive Dest where
  | nx (p : TEnv) (l : Cs)
  | rt (v : T)
  | bk (p : TEnv) (l : Cs)
  | ct (p : TEnv) (l : Cs)
  | fin
section
variable {κ : Type} {α β γ σ : Type}
def DOk (W : κ → Sto) (D : TD) (k : κ) : Dest → Prop
  | .nx p l => ∀ τ S, En p τ → SI W l k S → D.nx τ S
  | .rt v => ∀ l z S, SI W l k S → Vw l z v → D.rt z S
  | .bk p l => ∀ τ S, En p τ → SI W l k S → D.bk τ S
  | .ct p l => ∀ τ S, En p τ → SI W l k S → D.ct τ S
  | .fin => ∀ τ l S, SI W l k S → D.nx τ S
def XS (W : κ → Sto) (p : TEnv) (l : Cs) (t : TTS) (m : PM κ β) (post : β → Dest) : Prop := ∀ (D : TD) (E : T → TEnv → Sto → Prop) k τ S, En p τ → SI W l k S →
  Sat (m k) (fun b k' => DOk W D k' (post b)) (fun x k' => ∀ τ' S', SI W [] k' S' → E x τ' S') → t D τ S E
/-- a target, a body -/
def XF (W : κ → Sto) (p : TEnv) (l : Cs) (g : TTG) (t : TTS) (m : PM κ β) (post : β → Dest) (z : T) : Prop := ∀ (D : TD) (E : T → TEnv → Sto → Prop) k τ S, En p τ → SI W l k S →
  Sat (m k) (fun b k' => DOk W D k' (post b)) (fun x k' => ∀ τ' S', SI W [] k' S' → E x τ' S') → g z τ S fun τ1 S1 => t D τ1 S1 E
/-- a comprehension's turn -/
def XCi (W : κ → Sto) (p : TEnv) (l : Cs) (g : TTG) (c : TTB) (e : TTE) (m : PM κ (Option T)) (z : T) : Prop := ∀ (R : T → Sto → Prop) (N : Sto → Prop) k τ S, En p τ → SI W l k S →
  Sat (m k) (fun o k' => ∀ S', SI W l k' S' → match o with | some y => R y S' | none => N S') (fun _ _ => False) → g z τ S fun τ1 S1 => c τ1 S1 (fun b S2 => if b = true then e τ1 S2 R (fun _ _ => False) else N S2) fun _ _ => False
def XGt (g : TTG) (p : TEnv) (u : T → Option β) (pf : β → TEnv) : Prop := ∀ z b τ S Q, u z = some b → En p τ → (∀ τ', En (pf b) τ' → Q τ' S) → g z τ S Q
def un2 : T → Option (T × T)
  | .tup [a, b] => some (a, b)
  | _ => none
def un3 : T → Option (T × T × T)
  | .tup [a, b, c] => some (a, b, c)
  | _ => none
def un4 : T → Option (T × T × T × T)
  | .tup [a, b, c, d] => some (a, b, c, d)
  | _ => none
theorem un2_tup {a b : T} : un2 (.tup [a, b]) = some (a, b) := rfl
theorem un3_tup {a b c : T} : un3 (.tup [a, b, c]) = some (a, b, c) := rfl
theorem un4_tup {a b c d : T} : un4 (.tup [a, b, c, d]) = some (a, b, c, d) := rfl
theorem un2_is {z : T} {b : T × T} (h : un2 z = some b) : z = .tup [b.1, b.2] := by
  unfold un2 at h
  split at h
  · cases h; rfl
  · cases h
theorem un3_is {z : T} {b : T × T × T} (h : un3 z = some b) : z = .tup [b.1, b.2.1, b.2.2] := by
  unfold un3 at h
  split at h
  · cases h; rfl
  · cases h
theorem un4_is {z : T} {b : T × T × T × T} (h : un4 z = some b) : z = .tup [b.1, b.2.1, b.2.2.1, b.2.2.2] := by
  unfold un4 at h
  split at h
  · cases h; rfl
  · cases h
variable {W : κ → Sto} {p : TEnv} {l : Cs}
theorem xg_2 {i j : Nat} : XGt (gT (gC (gN i) (gC (gN j) gZ))) p un2 (fun b => (p.set i (some b.1)).set j (some b.2)) := fun z b τ S Q e h q => by
  rw [un2_is e]
  exact ⟨_, rfl, _, _, rfl, _, _, rfl, rfl, q _ h.set.set⟩
theorem xg_3 {i j k : Nat} : XGt (gT (gC (gN i) (gC (gN j) (gC (gN k) gZ)))) p un3 (fun b => ((p.set i (some b.1)).set j (some b.2.1)).set k (some b.2.2)) := fun z b τ S Q e h q => by
  rw [un3_is e]
  exact ⟨_, rfl, _, _, rfl, _, _, rfl, _, _, rfl, rfl, q _ h.set.set.set⟩
theorem xg_4 {i j k n : Nat} : XGt (gT (gC (gN i) (gC (gN j) (gC (gN k) (gC (gN n) gZ))))) p un4 (fun b => (((p.set i (some b.1)).set j (some b.2.1)).set k (some b.2.2.1)).set n (some b.2.2.2)) := fun z b τ S Q e h q => by
  rw [un4_is e]
  exact ⟨_, rfl, _, _, rfl, _, _, rfl, _, _, rfl, _, _, rfl, rfl, q _ h.set.set.set.set⟩
theorem sat_ofO {o : Option α} {k : κ} {P : α → κ → Prop} {X : T → κ → Prop} (h : Sat (ofO o k) P X) : ∃ a, o = some a ∧ P a k := by
  cases o with
  | none => exact h.elim
  | some a => exact ⟨a, rfl, h⟩
theorem xf_name {i : Nat} {t : TTS} {m : PM κ β} {post : β → Dest} {z : T} (h : XS W (p.set i (some z)) l t m post) : XF W p l (gN i) t m post z := fun D E k τ S hE i s => h D E k _ S hE.set i s
theorem xf_un {δ : Type} {g : TTG} {t : TTS} {u : T → Option δ} {pf : δ → TEnv} {f : δ → PM κ β} {post : β → Dest} {z : T} (hg : XGt g p u pf) (h : ∀ b, XS W (pf b) l t (f b) post) : XF W p l g t (bd (ofO (u z)) f) post z := fun D E k τ S hE i s => by
  obtain ⟨b, e, s1⟩ := sat_ofO (Sat.bd.mp s)
  exact hg z b τ S _ e hE fun τ' hE' => h b D E k τ' S hE' i s1
/-! comprehensions -/
/-- nothing is raised -/
def nox (m : PM κ α) : PM κ α := fun k => match m k with
  | .ok a k' => .ok a k'
  | _ => .bad
theorem nox_pu {a : α} : nox (κ := κ) (pu a) = pu a := rfl
theorem sat_nox {m : PM κ α} {k : κ} {P : α → κ → Prop} {X : T → κ → Prop} (h : Sat (nox m k) P X) : Sat (m k) P (fun _ _ => False) := by
  unfold nox at h
  cases q : m k with
  | ok a k' => rw [q] at h; exact h
  | exc x k' => rw [q] at h; exact h
  | bad => rw [q] at h; exact h
def compM (f : T → PM κ (Option T)) : List T → PM κ (List T)
  | [] => pu []
  | x :: xs => bd (nox (f x)) fun o => bd (compM f xs) fun ys => pu (o.toList ++ ys)
def compG (f : T → PM κ (Option T)) (xs : List T) : PM κ (List T) := bd (gd (xs.length ≤ sizeLine)) fun _ => compM f xs
section
variable {g : TTG} {c : TTB} {e : TTE} {own : List Nat} {it : TTI} {mi : PM κ (List T)} {f : T → PM κ (Option T)}
theorem comp_run {gd : Sto → Prop} (hgd : ∀ k S, SI W l k S → gd S) (hf : ∀ x, XCi W (wipeT p own) l g c e (f x) x) {K : List T → Sto → Prop} {X : T → κ → Prop} {τ : TEnv} (hE : En p τ) : ∀ (xs acc : List T) (k : κ) (S : Sto), SI W l k S → acc.length + xs.length ≤ sizeLine →
    Sat (compM f xs k) (fun ys k' => ∀ S', SI W l k' S' → K (acc ++ ys) S') X → compT g c e own gd τ K xs acc S
  | [], acc, k, S, i, _, s => ⟨hgd _ _ i, by simpa using s S i⟩
  | x :: xs, acc, k, S, i, hl, s => by
    rw [List.length_cons] at hl
    refine ⟨hgd _ _ i, hf x _ _ k _ S (hE.wipe own) i ((sat_nox (Sat.bd.mp s)).mono (fun o k1 s1 S1 i1 => ?_) fun _ _ q => q)⟩
    have s2 := Sat.bd.mp s1
    cases o with
    | none => exact comp_run hgd hf hE xs acc k1 S1 i1 (by omega) (X := X) (s2.mono (fun ys k2 q S' i' => q S' i') fun _ _ q => q)
    | some y => exact ⟨by omega, comp_run hgd hf hE xs (acc ++ [y]) k1 S1 i1 (by simp; omega) (X := X) (s2.mono (fun ys k2 q S' i' => by
        have q := q S' i'
        simpa using q) fun _ _ q => q)⟩
theorem xe_comp (hi : XI W p l it mi) (hf : ∀ x, XCi W (wipeT p own) l g c e (f x) x) : XE W p l (cComp it g c e own) (bd mi fun xs => bd (compG f xs) fun ys => pu (.lst ys)) := fun Q E k τ S hE i s => by
  refine hi _ _ k τ S hE i ((Sat.bd.mp s).mono (fun xs k1 s1 S1 gd i1 hgd => ?_) fun _ _ q => q)
  have s2 := Sat.bd.mp s1
  obtain ⟨hl, s3⟩ := sat_gd (Sat.bd.mp s2)
  exact comp_run hgd hf hE xs [] k1 S1 i1 (by simpa using hl) s3
theorem xc_name {i : Nat} {mc : PM κ Bool} {me : PM κ T} {z : T} (hc : XTs W (p.set i (some z)) l c mc) (he : XE W (p.set i (some z)) l e me) : XCi W p l (gN i) c e (bd mc fun t => if t = true then bd me fun y => pu (some y) else pu none) z := fun R N k τ S hE i s => by
  refine hc _ _ k _ S hE.set i ((Sat.bd.mp s).mono (fun b k1 s1 S1 i1 => ?_) fun _ _ q => q.elim)
  cases b with
  | true => exact he _ _ k1 _ S1 hE.set i1 ((Sat.bd.mp s1).mono (fun v k2 s2 S2 i2 => s2 S2 i2) fun _ _ q => q.elim)
  | false => exact s1 S1 i1
theorem xc_nameY {i : Nat} {me : PM κ T} {z : T} (he : XE W (p.set i (some z)) l e me) : XCi W p l (gN i) bYes e (bd me fun y => pu (some y)) z := fun R N k τ S hE i s =>
  he _ _ k _ S hE.set i ((Sat.bd.mp s).mono (fun v k2 s2 S2 i2 => s2 S2 i2) fun _ _ q => q.elim)
theorem xc_un {δ : Type} {u : T → Option δ} {pf : δ → TEnv} {mc : δ → PM κ Bool} {me : δ → PM κ T} {z : T} (hg : XGt g p u pf) (hc : ∀ b, XTs W (pf b) l c (mc b)) (he : ∀ b, XE W (pf b) l e (me b)) : XCi W p l g c e (bd (ofO (u z)) fun b => bd (mc b) fun t => if t = true then bd (me b) fun y => pu (some y) else pu none) z := fun R N k τ S hE i s => by
  obtain ⟨b, e, s⟩ := sat_ofO (Sat.bd.mp s)
  refine hg z b τ S _ e hE fun τ' hE' => ?_
  refine hc b _ _ k _ S hE' i ((Sat.bd.mp s).mono (fun d k1 s1 S1 i1 => ?_) fun _ _ q => q.elim)
  cases d with
  | true => exact he b _ _ k1 _ S1 hE' i1 ((Sat.bd.mp s1).mono (fun v k2 s2 S2 i2 => s2 S2 i2) fun _ _ q => q.elim)
  | false => exact s1 S1 i1
theorem xc_unY {δ : Type} {u : T → Option δ} {pf : δ → TEnv} {me : δ → PM κ T} {z : T} (hg : XGt g p u pf) (he : ∀ b, XE W (pf b) l e (me b)) : XCi W p l g bYes e (bd (ofO (u z)) fun b => bd (me b) fun y => pu (some y)) z := fun R N k τ S hE i s => by
  obtain ⟨b, e, s⟩ := sat_ofO (Sat.bd.mp s)
  refine hg z b τ S _ e hE fun τ' hE' => ?_
  exact he b _ _ k _ S hE' i ((Sat.bd.mp s).mono (fun v k2 s2 S2 i2 => s2 S2 i2) fun _ _ q => q.elim)
end
/-! a value or a new cell -/
def XN (W : κ → Sto) (p : TEnv) (l : Cs) (e : TTE) (m : PM κ α) (z : α → Addr → T) (cc : α → Addr → Cs) : Prop := ∀ (Q E : T → Sto → Prop) k τ S, En p τ → SI W l k S → Sat (m k) (fun v k' => ∀ S' a, SI W (cc v a ++ l) k' S' → Q (z v a) S') (fun x k' => ∀ S', SI W [] k' S' → E x S') → e τ S Q E
theorem xn_e {e : TTE} {m : PM κ T} (h : XE W p l e m) : XN W p l e m (fun v _ => v) (fun _ _ => []) := fun Q E k τ S hE i s => h Q E k τ S hE i (s.mono (fun v k' q S' i' => q S' 0 i') fun _ _ q => q)
theorem xn_lst {n : Nat} {r : TTA} {mr : (List T → PM κ (List T)) → PM κ (List T)} (h : XA W p l n r mr) (hn : n ≤ 1000 := by decide) : XN W p l (cLstM r) (mr fun xs => pu xs) (fun _ a => .ref a) (fun xs a => [(a, .lst xs)]) := fun Q E k τ S hE i s =>
  h _ _ _ _ E k τ S hE i s (fun zs k' S' e i' s' => ⟨by rw [e]; exact small_line hn, fun a na => s' _ a (i'.new na)⟩) fun x k' S' i' q => q S' i'
theorem xn_comp {g : TTG} {c : TTB} {e : TTE} {own : List Nat} {it : TTI} {mi : PM κ (List T)} {f : T → PM κ (Option T)} (hi : XI W p l it mi) (hf : ∀ x, XCi W (wipeT p own) l g c e (f x) x) :
    XN W p l (cCompM it g c e own) (bd mi fun xs => compG f xs) (fun _ a => .ref a) (fun xs a => [(a, .lst xs)]) := fun Q E k τ S hE i s => by
  refine hi _ _ k τ S hE i ((Sat.bd.mp s).mono (fun xs k1 s1 S1 gd i1 hgd => ?_) fun _ _ q => q)
  obtain ⟨hl, s3⟩ := sat_gd (Sat.bd.mp s1)
  exact comp_run hgd hf hE xs [] k1 S1 i1 (by simpa using hl) (s3.mono (fun ys k2 q S' i' a na => q _ a (i'.new na)) fun _ _ q => q)
theorem xn_dnew : XN W p l cDnewM (pu (([], []) : List T × List T)) (fun _ a => .ref a) (fun r a => [(a, .dct false r.1 r.2)]) := fun Q E k τ S hE i s => fun q n => s _ q (i.new n)
/-! statements -/
variable {t u : TTS} {post : β → Dest} {e : TTE} {m : PM κ T}
theorem xs_assoc {t1 t2 : TTS} {m : PM κ β} (h : XS W p l (cSeq t1 (cSeq t2 u)) m post) : XS W p l (cSeq (cSeq t1 t2) u) m post := h
theorem xs_skipseq {m : PM κ β} (h : XS W p l u m post) : XS W p l (cSeq cSkip u) m post := h
theorem xs_forget {a : Addr × Cell} {m : PM κ β} (h : XS W p l t m post) : XS W p (a :: l) t m post := fun D E k τ S hE i s => h D E k τ S hE i.tail s
theorem xs_skip {b : β} {p' : TEnv} (hp : post b = .nx p' l) (h : En p' p) : XS W p l cSkip (pu b) post := fun D E k τ S hE i s => by
  have s : DOk W D k (post b) := s
  rw [hp] at s
  exact s τ S (h.trans hE) i
theorem xs_end {b : β} (hp : post b = .fin) : XS W p l cSkip (pu b) post := fun D E k τ S hE i s => by
  have s : DOk W D k (post b) := s
  rw [hp] at s
  exact s τ l S i
theorem xs_cont {b : β} {p' : TEnv} (hp : post b = .ct p' l) (h : En p' p) : XS W p l (cSeq cCont u) (pu b) post := fun D E k τ S hE i s => by
  have s : DOk W D k (post b) := s
  rw [hp] at s
  exact s τ S (h.trans hE) i
theorem xs_brk {b : β} {p' : TEnv} (hp : post b = .bk p' l) (h : En p' p) : XS W p l (cSeq cBrk u) (pu b) post := fun D E k τ S hE i s => by
  have s : DOk W D k (post b) := s
  rw [hp] at s
  exact s τ S (h.trans hE) i
theorem xs_ret {g : T → β} (hp : ∀ v, post (g v) = .rt v) (h : XV W p l e m) : XS W p l (cSeq (cRet e) u) (bd m fun v => pu (g v)) post := fun D E k τ S hE i s =>
  h _ _ k τ S hE i ((Sat.bd.mp s).mono (fun v k1 s1 z S1 i1 w1 => by
    have s1 : DOk W D k1 (post (g v)) := s1
    rw [hp] at s1
    exact s1 l z S1 i1 w1) fun x k1 q S1 i1 => q τ S1 i1)
theorem xs_retN {b : β} (hp : post b = .rt .non) : XS W p l (cSeq cRetN u) (pu b) post := fun D E k τ S hE i s => by
  have s : DOk W D k (post b) := s
  rw [hp] at s
  exact s l .non S i (.inl rfl)
theorem xs_set {i : Nat} {f : T → PM κ β} (he : XE W p l e m) (h : ∀ v, XS W (p.set i (some v)) l u (f v) post) : XS W p l (cSeq (cSet i e) u) (bd m f) post := fun D E k τ S hE j s =>
  he _ _ k τ S hE j ((Sat.bd.mp s).mono (fun v k1 s1 S1 i1 => h v D E k1 _ S1 hE.set i1 s1) fun x k1 q S1 i1 => q τ S1 i1)
theorem xs_new {i : Nat} {m : PM κ α} {z : α → Addr → T} {cc : α → Addr → Cs} {f : α → PM κ β} (he : XN W p l e m z cc) (h : ∀ v a, XS W (p.set i (some (z v a))) (cc v a ++ l) u (f v) post) : XS W p l (cSeq (cSet i e) u) (bd m f) post := fun D E k τ S hE j s =>
  he _ _ k τ S hE j ((Sat.bd.mp s).mono (fun v k1 s1 S1 a i1 => h v a D E k1 _ S1 hE.set i1 s1) fun x k1 q S1 i1 => q τ S1 i1)
theorem xs_asg {δ : Type} {g : TTG} {un : T → Option δ} {pf : δ → TEnv} {f : δ → PM κ β} (he : XE W p l e m) (hg : XGt g p un pf) (h : ∀ b, XS W (pf b) l u (f b) post) : XS W p l (cSeq (cAsg e g) u) (bd m fun z => bd (ofO (un z)) f) post := fun D E k τ S hE j s =>
  he _ _ k τ S hE j ((Sat.bd.mp s).mono (fun v k1 s1 S1 i1 => by
    obtain ⟨b, e1, s2⟩ := sat_ofO (Sat.bd.mp s1)
    exact hg v b τ S1 _ e1 hE fun τ' hE' => h b D E k1 τ' S1 hE' i1 s2) fun x k1 q S1 i1 => q τ S1 i1)
theorem xs_par2 {α1 α2 : Type} {i j : Nat} {ea eb : TTE} {ma : PM κ α1} {mb : PM κ α2} {z1 : α1 → Addr → T} {c1 : α1 → Addr → Cs} {z2 : α2 → Addr → T} {c2 : α2 → Addr → Cs} {f : α1 → α2 → PM κ β} (ha : XN W p l ea ma z1 c1) (hb : ∀ v a, XN W p (c1 v a ++ l) eb mb z2 c2)
    (h : ∀ v a w b, XS W ((p.set i (some (z1 v a))).set j (some (z2 w b))) (c2 w b ++ (c1 v a ++ l)) u (f v w) post) : XS W p l (cSeq (cPar2 i j ea eb) u) (bd ma fun x => bd mb fun y => f x y) post := fun D E k τ S hE _ s => by
  refine ha _ _ k τ S hE (by assumption) ((Sat.bd.mp s).mono (fun v k1 s1 S1 a i1 => ?_) fun x k1 q S1 i1 => q τ S1 i1)
  refine hb v a _ _ k1 τ S1 hE i1 ((Sat.bd.mp s1).mono (fun w k2 s2 S2 b i2 => ?_) fun x k1 q S1 i1 => q τ S1 i1)
  exact h v a w b D E k2 _ S2 hE.set.set i2 s2
theorem xs_par3 {α1 α2 α3 : Type} {i j n : Nat} {ea eb ec : TTE} {ma : PM κ α1} {mb : PM κ α2} {mc : PM κ α3} {z1 : α1 → Addr → T} {c1 : α1 → Addr → Cs} {z2 : α2 → Addr → T} {c2 : α2 → Addr → Cs} {z3 : α3 → Addr → T} {c3 : α3 → Addr → Cs} {f : α1 → α2 → α3 → PM κ β}
    (ha : XN W p l ea ma z1 c1) (hb : ∀ v a, XN W p (c1 v a ++ l) eb mb z2 c2) (hc : ∀ v a w b, XN W p (c2 w b ++ (c1 v a ++ l)) ec mc z3 c3)
    (h : ∀ v a w b x d, XS W (((p.set i (some (z1 v a))).set j (some (z2 w b))).set n (some (z3 x d))) (c3 x d ++ (c2 w b ++ (c1 v a ++ l))) u (f v w x) post) : XS W p l (cSeq (cPar3 i j n ea eb ec) u) (bd ma fun x => bd mb fun y => bd mc fun z => f x y z) post := fun D E k τ S hE _ s => by
  refine ha _ _ k τ S hE (by assumption) ((Sat.bd.mp s).mono (fun v k1 s1 S1 a i1 => ?_) fun x k1 q S1 i1 => q τ S1 i1)
  refine hb v a _ _ k1 τ S1 hE i1 ((Sat.bd.mp s1).mono (fun w k2 s2 S2 b i2 => ?_) fun x k1 q S1 i1 => q τ S1 i1)
  refine hc v a w b _ _ k2 τ S2 hE i2 ((Sat.bd.mp s2).mono (fun x k3 s3 S3 d i3 => ?_) fun x k1 q S1 i1 => q τ S1 i1)
  exact h v a w b x d D E k3 _ S3 hE.set.set.set i3 s3
theorem xs_do {f : PM κ β} (he : XE W p l e m) (h : XS W p l u f post) : XS W p l (cSeq (cDo e) u) (bd m fun _ => f) post := fun D E k τ S hE j s =>
  he _ _ k τ S hE j ((Sat.bd.mp s).mono (fun v k1 s1 S1 i1 => h D E k1 _ S1 hE i1 s1) fun x k1 q S1 i1 => q τ S1 i1)
def appM (xs : List T) (y : T) : PM κ (List T) := bd (gd (xs.length < sizeLine)) fun _ => pu (xs ++ [y])
def extM (xs : List T) (y : T) : PM κ (List T) := match y with
  | .lst zs => bd (gd (xs.length + zs.length ≤ sizeLine)) fun _ => pu (xs ++ zs)
  | _ => stuck
def popM (xs : List T) : PM κ (T × List T) := match xs.getLast? with
  | some y => pu (y, xs.dropLast)
  | none => stuck
def insM (xs : List T) (k y : T) : PM κ (List T) := match k with
  | .int n => bd (gd (xs.length < sizeLine ∧ 0 ≤ n ∧ n < 2 ^ 63)) fun _ => pu (xs.take n.toNat ++ [y] ++ xs.drop n.toNat)
  | _ => stuck
def setM (xs : List T) (k z : T) : PM κ (List T) := match k with
  | .int n => match ixN xs.length n with
    | some j => pu (xs.set j z)
    | none => stuck
  | _ => stuck
theorem xs_app {i : Nat} {a : Addr} {xs : List T} {l1 l2 : Cs} {f : List T → PM κ β} (hp : p[i]? = some (some (.ref a))) (he : XE W p (l1 ++ (a, .lst xs) :: l2) e m) (h : ∀ ys, XS W p (l1 ++ (a, .lst ys) :: l2) u (f ys) post) :
    XS W p (l1 ++ (a, .lst xs) :: l2) (cSeq (cDo (cApp (cVar i) e)) u) (bd m fun y => bd (appM xs y) f) post := fun D E k τ S hE j s => by
  refine ⟨.ref a, hE.get hp, a, xs, rfl, j.at_ (a, .lst xs) (by simp), ?_⟩
  refine he _ _ k τ S hE j ((Sat.bd.mp s).mono (fun v k1 s1 S1 i1 => ?_) fun x k1 q S1 i1 => q τ S1 i1)
  obtain ⟨hl, s2⟩ := sat_gd (Sat.bd.mp (Sat.bd.mp s1))
  exact ⟨xs, i1.at_ (a, .lst xs) (by simp), hl, h _ D E k1 τ _ hE i1.put s2⟩
theorem xs_ext {i : Nat} {a : Addr} {xs : List T} {l1 l2 : Cs} {f : List T → PM κ β} (hp : p[i]? = some (some (.ref a))) (he : XV W p (l1 ++ (a, .lst xs) :: l2) e m) (h : ∀ ys, XS W p (l1 ++ (a, .lst ys) :: l2) u (f ys) post) :
    XS W p (l1 ++ (a, .lst xs) :: l2) (cSeq (cDo (cExt (cVar i) e)) u) (bd m fun y => bd (extM xs y) f) post := fun D E k τ S hE j s => by
  refine ⟨.ref a, hE.get hp, a, xs, rfl, j.at_ (a, .lst xs) (by simp), ?_⟩
  refine he _ _ k τ S hE j ((Sat.bd.mp s).mono (fun v k1 s1 z S1 i1 w1 => ?_) fun x k1 q S1 i1 => q τ S1 i1)
  have s2 := Sat.bd.mp s1
  cases v with
  | lst zs =>
    obtain ⟨hl, s2⟩ := sat_gd (Sat.bd.mp s2)
    have hz : res S1 z = .lst zs := by
      rcases (w1.at i1).res with ⟨e1, _⟩ | ⟨b, e1⟩ | ⟨n, ks, vs, e1⟩
      · exact e1
      · cases e1
      · cases e1
    exact ⟨xs, zs, i1.at_ (a, .lst xs) (by simp), hz, hl, h _ D E k1 τ _ hE i1.put s2⟩
  | _ => exact s2.elim
theorem xs_ins {i : Nat} {a : Addr} {xs : List T} {l1 l2 : Cs} {ei : TTE} {mi : PM κ T} {f : List T → PM κ β} (hp : p[i]? = some (some (.ref a))) (hi : XE W p (l1 ++ (a, .lst xs) :: l2) ei mi) (he : XE W p (l1 ++ (a, .lst xs) :: l2) e m) (h : ∀ ys, XS W p (l1 ++ (a, .lst ys) :: l2) u (f ys) post) :
    XS W p (l1 ++ (a, .lst xs) :: l2) (cSeq (cDo (cIns (cVar i) ei e)) u) (bd mi fun n => bd m fun y => bd (insM xs n y) f) post := fun D E k τ S hE j s => by
  refine ⟨.ref a, hE.get hp, a, xs, rfl, j.at_ (a, .lst xs) (by simp), ?_⟩
  refine hi _ _ k τ S hE j ((Sat.bd.mp s).mono (fun n k1 s1 S1 i1 => ?_) fun x k1 q S1 i1 => q τ S1 i1)
  refine he _ _ k1 τ S1 hE i1 ((Sat.bd.mp s1).mono (fun v k2 s2 S2 i2 => ?_) fun x k1 q S1 i1 => q τ S1 i1)
  have s3 := Sat.bd.mp s2
  cases n with
  | int n =>
    obtain ⟨hl, s3⟩ := sat_gd (Sat.bd.mp s3)
    exact ⟨xs, n, i2.at_ (a, .lst xs) (by simp), rfl, hl.1, hl.2.1, hl.2.2, h _ D E k2 τ _ hE i2.put s3⟩
  | _ => exact s3.elim
theorem xs_clr {i : Nat} {a : Addr} {xs : List T} {l1 l2 : Cs} {f : List T → PM κ β} (hp : p[i]? = some (some (.ref a))) (h : ∀ ys, XS W p (l1 ++ (a, .lst ys) :: l2) u (f ys) post) :
    XS W p (l1 ++ (a, .lst xs) :: l2) (cSeq (cDo (cClr (cVar i))) u) (f []) post := fun D E k τ S hE j s =>
  ⟨.ref a, hE.get hp, a, xs, rfl, j.at_ (a, .lst xs) (by simp), h _ D E k τ _ hE j.put s⟩
theorem xs_pop {i n : Nat} {a : Addr} {xs : List T} {l1 l2 : Cs} {f : T × List T → PM κ β} (hp : p[i]? = some (some (.ref a))) (h : ∀ b, XS W (p.set n (some b.1)) (l1 ++ (a, .lst b.2) :: l2) u (f b) post) :
    XS W p (l1 ++ (a, .lst xs) :: l2) (cSeq (cSet n (cPop (cVar i))) u) (bd (popM xs) f) post := fun D E k τ S hE j s => by
  have s2 := Sat.bd.mp s
  unfold popM at s2
  cases q : xs.getLast? with
  | none => rw [q] at s2; exact s2.elim
  | some y =>
    rw [q] at s2
    exact ⟨.ref a, hE.get hp, a, xs, y, rfl, j.at_ (a, .lst xs) (by simp), q, h (y, xs.dropLast) D E k _ _ hE.set j.put s2⟩
theorem xs_popD {i : Nat} {a : Addr} {xs : List T} {l1 l2 : Cs} {f : T × List T → PM κ β} (hp : p[i]? = some (some (.ref a))) (h : ∀ b, XS W p (l1 ++ (a, .lst b.2) :: l2) u (f b) post) :
    XS W p (l1 ++ (a, .lst xs) :: l2) (cSeq (cDo (cPop (cVar i))) u) (bd (popM xs) f) post := fun D E k τ S hE j s => by
  have s2 := Sat.bd.mp s
  unfold popM at s2
  cases q : xs.getLast? with
  | none => rw [q] at s2; exact s2.elim
  | some y =>
    rw [q] at s2
    exact ⟨.ref a, hE.get hp, a, xs, y, rfl, j.at_ (a, .lst xs) (by simp), q, h (y, xs.dropLast) D E k _ _ hE j.put s2⟩
theorem xs_setIx {i : Nat} {a : Addr} {xs : List T} {l1 l2 : Cs} {ei : TTE} {mi : PM κ T} {f : List T → PM κ β} (hp : p[i]? = some (some (.ref a))) (he : XE W p (l1 ++ (a, .lst xs) :: l2) e m) (hi : XE W p (l1 ++ (a, .lst xs) :: l2) ei mi) (h : ∀ ys, XS W p (l1 ++ (a, .lst ys) :: l2) u (f ys) post) :
    XS W p (l1 ++ (a, .lst xs) :: l2) (cSeq (cAsg e (gIx (cVar i) ei)) u) (bd m fun y => bd (nox mi) fun n => bd (setM xs n y) f) post := fun D E k τ S hE j s => by
  refine he _ _ k τ S hE j ((Sat.bd.mp s).mono (fun v k1 s1 S1 i1 => ?_) fun x k1 q S1 i1 => q τ S1 i1)
  refine ⟨.ref a, hE.get hp, ?_⟩
  refine hi _ _ k1 τ S1 hE i1 ((sat_nox (Sat.bd.mp s1)).mono (fun n k2 s2 S2 i2 => ?_) fun x k1 q S1 i1 => q)
  have s3 := Sat.bd.mp s2
  cases n with
  | int n =>
    unfold setM at s3
    cases q : ixN xs.length n with
    | none => simp only [q] at s3; exact s3.elim
    | some jj =>
      simp only [q] at s3
      exact ⟨a, xs, n, jj, rfl, i2.at_ (a, .lst xs) (by simp), rfl, q, h _ D E k2 τ _ hE i2.put s3⟩
  | _ => exact s3.elim
def dputM (r : List T × List T) (y z : T) : PM κ (List T × List T) := match kyT y with
  | some k => bd (gd (r.1.length < sizeLine)) fun _ => pu (dPk r.1 k y, dPv r.1 r.2 k z)
  | none => stuck
theorem xs_dput {i : Nat} {a : Addr} {r : List T × List T} {l1 l2 : Cs} {ei : TTE} {mi : PM κ T} {f : List T × List T → PM κ β} (hp : p[i]? = some (some (.ref a))) (he : XE W p (l1 ++ (a, .dct false r.1 r.2) :: l2) e m) (hi : XE W p (l1 ++ (a, .dct false r.1 r.2) :: l2) ei mi) (h : ∀ ys, XS W p (l1 ++ (a, .dct false ys.1 ys.2) :: l2) u (f ys) post) :
    XS W p (l1 ++ (a, .dct false r.1 r.2) :: l2) (cSeq (cDput (cVar i) ei e) u) (bd m fun z => bd mi fun y => bd (dputM r y z) f) post := fun D E k τ S hE j s => by
  refine he _ _ k τ S hE j ((Sat.bd.mp s).mono (fun v k1 s1 S1 i1 => ?_) fun x k1 q S1 i1 => q τ S1 i1)
  refine ⟨.ref a, hE.get hp, ?_⟩
  refine hi _ _ k1 τ S1 hE i1 ((Sat.bd.mp s1).mono (fun y k2 s2 S2 i2 => ?_) fun x k1 q S1 i1 => q τ S1 i1)
  have s3 := Sat.bd.mp s2
  unfold dputM at s3
  cases q : kyT y with
  | none => simp only [q] at s3; exact s3.elim
  | some kk =>
    simp only [q] at s3
    obtain ⟨hl, s3⟩ := sat_gd (Sat.bd.mp s3)
    exact ⟨a, r.1, r.2, kk, rfl, i2.at_ (a, .dct false r.1 r.2) (by simp), rfl, hl, h _ D E k2 τ _ hE i2.put s3⟩
/-- the pen's own cell -/
theorem xs_if {c : TTB} {mc : PM κ Bool} {A B : TTS} {mA mB : PM κ β} (hc : XTs W p l c mc) (hA : XS W p l A mA post) (hB : XS W p l B mB post) : XS W p l (cIfS c A B) (bd mc fun t => if t = true then mA else mB) post := fun D E k τ S hE i s => by
  refine hc _ _ k τ S hE i ((Sat.bd.mp s).mono (fun b k1 s1 S1 i1 => ?_) fun x k1 q S1 i1 => q τ S1 i1)
  cases b with
  | true => exact hA D E k1 τ S1 hE i1 s1
  | false => exact hB D E k1 τ S1 hE i1 s1
theorem xs_ifE {c : TTB} {mc : PM κ Bool} {A B : TTS} {mA mB : PM κ β} (hc : XTs W p l c mc) (hA : XS W p l (cSeq A u) mA post) (hB : XS W p l (cSeq B u) mB post) : XS W p l (cSeq (cIfS c A B) u) (bd mc fun t => if t = true then mA else mB) post := fun D E k τ S hE i s => by
  refine hc _ _ k τ S hE i ((Sat.bd.mp s).mono (fun b k1 s1 S1 i1 => ?_) fun x k1 q S1 i1 => q τ S1 i1)
  cases b with
  | true => exact hA D E k1 τ S1 hE i1 s1
  | false => exact hB D E k1 τ S1 hE i1 s1
theorem xs_seq {P : σ → TEnv} {C : σ → Cs} {m : PM κ σ} {f : σ → PM κ β} (h1 : XS W p l t m fun s => .nx (P s) (C s)) (h2 : ∀ s, XS W (P s) (C s) u (f s) post) : XS W p l (cSeq t u) (bd m f) post := fun D E k τ S hE i s =>
  h1 _ E k τ S hE i ((Sat.bd.mp s).mono (fun b k1 s1 τ1 S1 hE1 i1 => h2 b D E k1 τ1 S1 hE1 i1 s1) fun _ _ q => q)
def sumD (P : σ → TEnv) (C : σ → Cs) : σ ⊕ T → Dest
  | .inl s => .nx (P s) (C s)
  | .inr v => .rt v
theorem xs_seqR {P : σ → TEnv} {C : σ → Cs} {m : PM κ (σ ⊕ T)} {f : σ → PM κ β} {g : T → β} (hg : ∀ v, post (g v) = .rt v) (h1 : XS W p l t m (sumD P C)) (h2 : ∀ s, XS W (P s) (C s) u (f s) post) : XS W p l (cSeq t u) (bd m fun r => Sum.elim f (fun v => pu (g v)) r) post := fun D E k τ S hE i s =>
  h1 _ E k τ S hE i ((Sat.bd.mp s).mono (fun b k1 s1 => by
    cases b with
    | inl b => exact fun τ1 S1 hE1 i1 => h2 b D E k1 τ1 S1 hE1 i1 s1
    | inr v =>
      have s1 : DOk W D k1 (post (g v)) := s1
      rw [hg] at s1
      exact s1) fun _ _ q => q)
/-! loops -/
inductive Fl (σ : Type) where
  | nx (s : σ)
  | rt (v : T)
  | bk (s : σ)
  | ct (s : σ)
def flD (P : σ → TEnv) (C : σ → Cs) : Fl σ → Dest
  | .nx s => .nx (P s) (C s)
  | .rt v => .rt v
  | .bk s => .bk (P s) (C s)
  | .ct s => .ct (P s) (C s)
def forM (f : T → σ → PM κ σ) : List T → σ → PM κ σ
  | [], s => pu s
  | x :: xs, s => bd (f x s) (forM f xs)
def forR (f : T → σ → PM κ (Fl σ)) : List T → σ → PM κ (σ ⊕ T)
  | [], s => pu (.inl s)
  | x :: xs, s => bd (f x s) fun r => match r with
    | .nx s => forR f xs s
    | .ct s => forR f xs s
    | .bk s => pu (.inl s)
    | .rt v => pu (.inr v)
def whM (c : σ → PM κ Bool) (b : σ → PM κ σ) : Nat → σ → PM κ σ
  | 0, _ => stuck
  | n + 1, s => bd (c s) fun t => if t = true then bd (b s) (whM c b n) else pu s
def whR (c : σ → PM κ Bool) (b : σ → PM κ (Fl σ)) : Nat → σ → PM κ (σ ⊕ T)
  | 0, _ => stuck
  | n + 1, s => bd (c s) fun t => if t = true then bd (b s) fun r => (match r with
    | .nx s => whR c b n s
    | .ct s => whR c b n s
    | .bk s => pu (.inl s)
    | .rt v => pu (.inr v)) else pu (.inl s)
section
variable {P : σ → TEnv} {C : σ → Cs} {s0 : σ} {it : TTI} {g : TTG} {mi : PM κ (List T)}
theorem for_run {f : T → σ → PM κ σ} {gd : Sto → Prop} (hgd : ∀ s k S, SI W (C s) k S → gd S) (hb : ∀ x s, XF W (P s) (C s) g t (f x s) (fun s' => .nx (P s') (C s')) x) {D : TD} {E : T → TEnv → Sto → Prop} : ∀ (xs : List T) (s : σ) k τ S, En (P s) τ → SI W (C s) k S →
    Sat (forM f xs s k) (fun s' k' => DOk W D k' (.nx (P s') (C s'))) (fun x k' => ∀ τ' S', SI W [] k' S' → E x τ' S') → forT g t gd D E xs τ S
  | [], s, k, τ, S, hE, i, h => ⟨hgd _ _ _ i, h τ S hE i⟩
  | x :: xs, s, k, τ, S, hE, i, h => ⟨hgd _ _ _ i, hb x s _ E k τ S hE i ((Sat.bd.mp h).mono (fun s' k' h' τ' S' hE' i' => for_run hgd hb xs s' k' τ' S' hE' i' h') fun _ _ q => q)⟩
theorem xs_for {f : T → σ → PM κ σ} (hi : XIy W p l it mi) (hs : En (P s0) p) (hl : l = C s0) (hb : ∀ x s, XF W (P s) (C s) g t (f x s) (fun s' => .nx (P s') (C s')) x) : XS W p l (cFor it g t) (bd mi fun xs => forM f xs s0) (fun s => .nx (P s) (C s)) := fun D E k τ S hE i s =>
  hi _ _ k τ S hE i ((Sat.bd.mp s).mono (fun xs k1 s1 S1 i1 => for_run (fun _ _ _ _ => trivial) hb xs s0 k1 τ S1 (hs.trans hE) (hl ▸ i1) s1) fun x k1 q S1 i1 => q τ S1 i1)
/-- over a cell: no cell is changed -/
theorem xs_forC {f : T → σ → PM κ σ} (hi : XI W p l it mi) (hs : En (P s0) p) (hb : ∀ x s, XF W (P s) l g t (f x s) (fun s' => .nx (P s') l) x) : XS W p l (cFor it g t) (bd mi fun xs => forM f xs s0) (fun s => .nx (P s) l) := fun D E k τ S hE i s =>
  hi _ _ k τ S hE i ((Sat.bd.mp s).mono (fun xs k1 s1 S1 gd i1 hgd => for_run (C := fun _ => l) (fun _ => hgd) hb xs s0 k1 τ S1 (hs.trans hE) i1 s1) fun x k1 q S1 i1 => q τ S1 i1)
theorem forR_run {f : T → σ → PM κ (Fl σ)} {gd : Sto → Prop} (hgd : ∀ s k S, SI W (C s) k S → gd S) (hb : ∀ x s, XF W (P s) (C s) g t (f x s) (flD P C) x) {D : TD} {E : T → TEnv → Sto → Prop} : ∀ (xs : List T) (s : σ) k τ S, En (P s) τ → SI W (C s) k S →
    Sat (forR f xs s k) (fun s' k' => DOk W D k' (sumD P C s')) (fun x k' => ∀ τ' S', SI W [] k' S' → E x τ' S') → forT g t gd D E xs τ S
  | [], s, k, τ, S, hE, i, h => ⟨hgd _ _ _ i, h τ S hE i⟩
  | x :: xs, s, k, τ, S, hE, i, h => ⟨hgd _ _ _ i, hb x s _ E k τ S hE i ((Sat.bd.mp h).mono (fun r k' h' => match r, h' with
    | .nx s', h' => fun τ' S' hE' i' => forR_run hgd hb xs s' k' τ' S' hE' i' h'
    | .ct s', h' => fun τ' S' hE' i' => forR_run hgd hb xs s' k' τ' S' hE' i' h'
    | .bk s', h' => h'
    | .rt v, h' => h') fun _ _ q => q)⟩
theorem xs_forR {f : T → σ → PM κ (Fl σ)} (hi : XIy W p l it mi) (hs : En (P s0) p) (hl : l = C s0) (hb : ∀ x s, XF W (P s) (C s) g t (f x s) (flD P C) x) : XS W p l (cFor it g t) (bd mi fun xs => forR f xs s0) (sumD P C) := fun D E k τ S hE i s =>
  hi _ _ k τ S hE i ((Sat.bd.mp s).mono (fun xs k1 s1 S1 i1 => forR_run (fun _ _ _ _ => trivial) hb xs s0 k1 τ S1 (hs.trans hE) (hl ▸ i1) s1) fun x k1 q S1 i1 => q τ S1 i1)
theorem xs_forRC {f : T → σ → PM κ (Fl σ)} (hi : XI W p l it mi) (hs : En (P s0) p) (hb : ∀ x s, XF W (P s) l g t (f x s) (flD P fun _ => l) x) : XS W p l (cFor it g t) (bd mi fun xs => forR f xs s0) (sumD P fun _ => l) := fun D E k τ S hE i s =>
  hi _ _ k τ S hE i ((Sat.bd.mp s).mono (fun xs k1 s1 S1 gd i1 hgd => forR_run (C := fun _ => l) (fun _ => hgd) hb xs s0 k1 τ S1 (hs.trans hE) i1 s1) fun x k1 q S1 i1 => q τ S1 i1)
theorem xs_wh {c : TTB} {mc : σ → PM κ Bool} {mb : σ → PM κ σ} {n : Nat} (hs : En (P s0) p) (hl : l = C s0) (hc : ∀ s, XTs W (P s) (C s) c (mc s)) (hb : ∀ s, XS W (P s) (C s) t (mb s) (fun s' => .nx (P s') (C s'))) : XS W p l (cWhile c t) (whM mc mb n s0) (fun s => .nx (P s) (C s)) := fun D E k τ S hE i s => by
  refine ⟨fun m τ' S' => ∃ k' s', En (P s') τ' ∧ SI W (C s') k' S' ∧ Sat (whM mc mb m s' k') (fun b k' => DOk W D k' (.nx (P b) (C b))) (fun x k' => ∀ τ' S', SI W [] k' S' → E x τ' S'), ⟨n, k, s0, hs.trans hE, hl ▸ i, s⟩, ?_⟩
  rintro m τ1 S1 ⟨k1, s1, hE1, i1, h1⟩
  cases m with
  | zero => exact h1.elim
  | succ m =>
    refine hc s1 _ _ k1 τ1 S1 hE1 i1 ((Sat.bd.mp h1).mono (fun b k2 h2 S2 i2 => ?_) fun x k1 q S1 i1 => q τ1 S1 i1)
    cases b with
    | false => exact h2 τ1 S2 hE1 i2
    | true => exact hb s1 _ E k2 τ1 S2 hE1 i2 ((Sat.bd.mp h2).mono (fun s' k' h' τ' S' hE' i' => ⟨m, Nat.lt_succ_self m, k', s', hE', i', h'⟩) fun _ _ q => q)
theorem xs_whR {c : TTB} {mc : σ → PM κ Bool} {mb : σ → PM κ (Fl σ)} {n : Nat} (hs : En (P s0) p) (hl : l = C s0) (hc : ∀ s, XTs W (P s) (C s) c (mc s)) (hb : ∀ s, XS W (P s) (C s) t (mb s) (flD P C)) : XS W p l (cWhile c t) (whR mc mb n s0) (sumD P C) := fun D E k τ S hE i s => by
  refine ⟨fun m τ' S' => ∃ k' s', En (P s') τ' ∧ SI W (C s') k' S' ∧ Sat (whR mc mb m s' k') (fun b k' => DOk W D k' (sumD P C b)) (fun x k' => ∀ τ' S', SI W [] k' S' → E x τ' S'), ⟨n, k, s0, hs.trans hE, hl ▸ i, s⟩, ?_⟩
  rintro m τ1 S1 ⟨k1, s1, hE1, i1, h1⟩
  cases m with
  | zero => exact h1.elim
  | succ m =>
    refine hc s1 _ _ k1 τ1 S1 hE1 i1 ((Sat.bd.mp h1).mono (fun b k2 h2 S2 i2 => ?_) fun x k1 q S1 i1 => q τ1 S1 i1)
    cases b with
    | false => exact h2 τ1 S2 hE1 i2
    | true => exact hb s1 _ E k2 τ1 S2 hE1 i2 ((Sat.bd.mp h2).mono (fun r k' h' => match r, h' with
        | .nx s', h' => fun τ' S' hE' i' => ⟨m, Nat.lt_succ_self m, k', s', hE', i', h'⟩
        | .ct s', h' => fun τ' S' hE' i' => ⟨m, Nat.lt_succ_self m, k', s', hE', i', h'⟩
        | .bk s', h' => h'
        | .rt v, h' => h') fun _ _ q => q)
end
/-! a cell is given up -/
theorem fzs_id {S S2 : Sto} : ∀ ts : List T, Fzs S S2 ts ts
  | [] => .nil
  | t :: ts => .cons (.same t) (fzs_id ts)
theorem SI.sub {l1 l2 : Cs} {a : Addr} {c : Cell} {k : κ} {S : Sto} (i : SI W (l1 ++ (a, c) :: l2) k S) : SI W (l1 ++ l2) k (offs S a) := by
  have nd := i.nd
  rw [List.map_append, List.map_cons] at nd
  obtain ⟨n1, n2, n3⟩ := List.nodup_append.mp nd
  have hm : ∀ e, e ∈ l1 ++ l2 → e ∈ l1 ++ (a, c) :: l2 ∧ e.1 ≠ a := fun e h => by
    rcases List.mem_append.mp h with z | z
    · exact ⟨List.mem_append_left _ z, fun q => n3 e.1 (List.mem_map_of_mem z) a (by simp) q⟩
    · exact ⟨List.mem_append_right _ (List.mem_cons_of_mem _ z), fun q => (List.nodup_cons.mp n2).1 (by rw [← q]; exact List.mem_map_of_mem (f := (·.1)) z)⟩
  refine ⟨fun e h => by rw [offs_ne (hm e h).2]; exact i.at_ e (hm e h).1, fun e h => i.own e (hm e h).1, ?_, fun b d h => ?_⟩
  · rw [List.map_append]
    exact List.nodup_append.mpr ⟨n1, (List.nodup_cons.mp n2).2, fun x hx y hy => n3 x hx y (List.mem_cons_of_mem _ hy)⟩
  · have ow := i.own (a, c) (List.mem_append_right _ List.mem_cons_self)
    have : b ≠ a := fun z => by rw [z] at h; rw [show W k a = none from ow] at h; cases h
    rw [offs_ne this]
    exact i.base b d h
theorem xs_drop {i : Nat} {a : Addr} {xs : List T} {l1 l2 : Cs} {m : PM κ β} (hp : p[i]? = some (some (.ref a))) (h : XS W (p.set i (some (.lst xs))) (l1 ++ l2) t m post) : XS W p (l1 ++ (a, .lst xs) :: l2) (cDrop t) m post := fun D E k τ S hE j s => by
  have hg := hE.get hp
  have hi := (List.getElem?_eq_some_iff.mp hg).1
  refine ⟨τ.set i (some (.lst xs)), offs S a, sub_offs, ⟨by rw [List.length_set], fun n u e => ?_⟩, h D E k _ _ hE.set j.sub s⟩
  by_cases q : i = n
  · subst q
    rw [List.getElem?_set_self hi] at e
    cases e
    exact ⟨_, hg, .lstc (j.at_ (a, .lst xs) (by simp)) offs_same (fzs_id xs)⟩
  · rw [List.getElem?_set_ne q] at e
    exact ⟨u, e, .same u⟩
theorem xs_dropD {i : Nat} {a : Addr} {n : Bool} {ks vs : List T} {l1 l2 : Cs} {m : PM κ β} (hp : p[i]? = some (some (.ref a))) (h : XS W (p.set i (some (.dct n ks vs))) (l1 ++ l2) t m post) : XS W p (l1 ++ (a, .dct n ks vs) :: l2) (cDrop t) m post := fun D E k τ S hE j s => by
  have hg := hE.get hp
  have hi := (List.getElem?_eq_some_iff.mp hg).1
  refine ⟨τ.set i (some (.dct n ks vs)), offs S a, sub_offs, ⟨by rw [List.length_set], fun n u e => ?_⟩, h D E k _ _ hE.set j.sub s⟩
  by_cases q : i = n
  · subst q
    rw [List.getElem?_set_self hi] at e
    cases e
    exact ⟨_, hg, .dctc (j.at_ (a, .dct _ ks vs) (by simp)) offs_same (fzs_id vs)⟩
  · rw [List.getElem?_set_ne q] at e
    exact ⟨u, e, .same u⟩
end
/-! ### defs -/
theorem fin_of {κ : Type} {W : κ → Sto} {l : Cs} {k : κ} {S : Sto} {z v : T} {Q : T → Sto → Prop} (i : SI W l k S) (w : Vw l z v) (q : Q v (W k)) : Fin Q z S := by
  refine ⟨W k, v, i.base, ?_, q⟩
  rcases w with rfl | ⟨a, xs, rfl, h, rfl⟩ | ⟨a, n, ks, vs, rfl, h, rfl⟩
  · exact .same _
  · exact .lstc (i.at_ _ h) (i.own _ h) (fzs_id _)
  · exact .dctc (i.at_ _ h) (i.own _ h) (fzs_id _)
theorem si_start {κ : Type} {W : κ → Sto} {k : κ} : SI W [] k (W k) := ⟨fun _ h => (nomatch h), fun _ h => (nomatch h), List.nodup_nil, fun _ _ h => h⟩
section
variable {κ α : Type}
def u0 (f : PM κ α) : List T → PM κ α
  | [] => f
  | _ => stuck
def u1 (f : T → PM κ α) : List T → PM κ α
  | [a] => f a
  | _ => stuck
def u2 (f : T → T → PM κ α) : List T → PM κ α
  | [a, b] => f a b
  | _ => stuck
def u3 (f : T → T → T → PM κ α) : List T → PM κ α
  | [a, b, c] => f a b c
  | _ => stuck
def u4 (f : T → T → T → T → PM κ α) : List T → PM κ α
  | [a, b, c, d] => f a b c d
  | _ => stuck
def u5 (f : T → T → T → T → T → PM κ α) : List T → PM κ α
  | [a, b, c, d, e] => f a b c d e
  | _ => stuck
def u6 (f : T → T → T → T → T → T → PM κ α) : List T → PM κ α
  | [a, b, c, d, e, g] => f a b c d e g
  | _ => stuck
def u7 (f : T → T → T → T → T → T → T → PM κ α) : List T → PM κ α
  | [a, b, c, d, e, g, h] => f a b c d e g h
  | _ => stuck
end
/-- a def's mirror takes so many -/
def Ar {κ α : Type} (n : Nat) (f : List T → PM κ α) : Prop := ∀ ts k, f ts k ≠ .bad → ts.length = n
theorem ar0 {κ α : Type} {f : PM κ α} : Ar 0 (u0 f) := fun ts k h => match ts, h with
  | [], _ => rfl
  | _ :: _, h => (h rfl).elim
theorem ar1 {κ α : Type} {f : T → PM κ α} : Ar 1 (u1 f) := fun ts k h => match ts, h with
  | [], h => (h rfl).elim
  | [a], _ => rfl
  | _ :: _ :: _, h => (h rfl).elim
theorem ar2 {κ α : Type} {f : T → T → PM κ α} : Ar 2 (u2 f) := fun ts k h => match ts, h with
  | [], h => (h rfl).elim
  | [_], h => (h rfl).elim
  | [a, b], _ => rfl
  | _ :: _ :: _ :: _, h => (h rfl).elim
theorem ar3 {κ α : Type} {f : T → T → T → PM κ α} : Ar 3 (u3 f) := fun ts k h => match ts, h with
  | [], h => (h rfl).elim
  | [_], h => (h rfl).elim
  | [_, _], h => (h rfl).elim
  | [a, b, c], _ => rfl
  | _ :: _ :: _ :: _ :: _, h => (h rfl).elim
theorem ar4 {κ α : Type} {f : T → T → T → T → PM κ α} : Ar 4 (u4 f) := fun ts k h => match ts, h with
  | [], h => (h rfl).elim
  | [_], h => (h rfl).elim
  | [_, _], h => (h rfl).elim
  | [_, _, _], h => (h rfl).elim
  | [a, b, c, d], _ => rfl
  | _ :: _ :: _ :: _ :: _ :: _, h => (h rfl).elim
theorem ar5 {κ α : Type} {f : T → T → T → T → T → PM κ α} : Ar 5 (u5 f) := fun ts k h => match ts, h with
  | [], h => (h rfl).elim
  | [_], h => (h rfl).elim
  | [_, _], h => (h rfl).elim
  | [_, _, _], h => (h rfl).elim
  | [_, _, _, _], h => (h rfl).elim
  | [a, b, c, d, e], _ => rfl
  | _ :: _ :: _ :: _ :: _ :: _ :: _, h => (h rfl).elim
theorem ar6 {κ α : Type} {f : T → T → T → T → T → T → PM κ α} : Ar 6 (u6 f) := fun ts k h => match ts, h with
  | [], h => (h rfl).elim
  | [_], h => (h rfl).elim
  | [_, _], h => (h rfl).elim
  | [_, _, _], h => (h rfl).elim
  | [_, _, _, _], h => (h rfl).elim
  | [_, _, _, _, _], h => (h rfl).elim
  | [a, b, c, d, e, g], _ => rfl
  | _ :: _ :: _ :: _ :: _ :: _ :: _ :: _, h => (h rfl).elim
theorem ar7 {κ α : Type} {f : T → T → T → T → T → T → T → PM κ α} : Ar 7 (u7 f) := fun ts k h => match ts, h with
  | [], h => (h rfl).elim
  | [_], h => (h rfl).elim
  | [_, _], h => (h rfl).elim
  | [_, _, _], h => (h rfl).elim
  | [_, _, _, _], h => (h rfl).elim
  | [_, _, _, _, _], h => (h rfl).elim
  | [_, _, _, _, _, _], h => (h rfl).elim
  | [a, b, c, d, e, g, h], _ => rfl
  | _ :: _ :: _ :: _ :: _ :: _ :: _ :: _ :: _, h => (h rfl).elim
theorem sat_nb {κ α : Type} {r : Res κ α} {P : α → κ → Prop} {X : T → κ → Prop} (h : Sat r P X) : r ≠ .bad := fun e => by rw [e] at h; exact h
theorem spU_len {n : Nat} {f : List T → PM Unit T} (ha : Ar n f) : ∀ ts S Q E, spU f ts S Q E → ts.length = n := fun ts S Q E h => ha ts () (sat_nb h)
theorem spP_len {n : Nat} {f : List T → PM Cell T} (ha : Ar n f) : ∀ ts S Q E, spP f ts S Q E → ts.length = n + 1 := fun ts S Q E ⟨p, rest, c, e, _, h⟩ => by
  subst e
  rw [List.length_cons, ha rest c (sat_nb h)]
/-- how the value is told: by return, or none at all -/
def endD : T → Dest := fun _ => .fin
def DestV (post : T → Dest) (v : T) : Prop := post v = .rt v ∨ post v = .fin
theorem vc_u {N : List Str} {f : List T → PM Unit T} {c : TTS} (h : ∀ S ts, XS (fun _ : Unit => S) (startT N ts) [] c (f ts) .rt) : VC N (spU f) c := fun ts S Q E q =>
  h S ts _ _ () _ S (En.refl _) si_start (Sat.mono q (fun v k' q l z S' i w => fin_of i w q) fun x k' q τ' S' i => ⟨S, i.base, q⟩)
/-- nothing is handed back -/
theorem vc_un {N : List Str} {f : List T → PM Unit Unit} {c : TTS} (h : ∀ S ts, XS (fun _ : Unit => S) (startT N ts) [] c (f ts) fun _ => .fin) : VC N (spU fun ts => bd (f ts) fun _ => pu .non) c := fun ts S Q E q =>
  h S ts _ _ () _ S (En.refl _) si_start (Sat.mono (Sat.bd.mp q) (fun v k' q τ l S' i => fin_of i (.inl rfl) q) fun x k' q τ' S' i => ⟨S, i.base, q⟩)
theorem ups_self {S : Sto} {p : Addr} {c : Cell} (h : S p = some c) : ups S p c = S := ups_eq h
theorem vc_p {N : List Str} {f : List T → PM Cell T} {c : TTS} (h : ∀ S pa ts, XS (penW S pa) (startT N (.ref pa :: ts)) [] c (f ts) .rt) : VC N (spP f) c := fun ts S Q E ⟨pa, rest, k, e, hs, q⟩ => by
  subst e
  have i0 : SI (penW S pa) [] k S := by
    have := si_start (W := penW S pa) (k := k)
    rwa [show penW S pa k = S from ups_self hs] at this
  exact h S pa rest _ _ k _ S (En.refl _) i0 (q.mono (fun v k' q l z S' i w => fin_of i w q) fun x k' q τ' S' i => ⟨_, i.base, q⟩)
theorem vc_pn {N : List Str} {f : List T → PM Cell Unit} {c : TTS} (h : ∀ S pa ts, XS (penW S pa) (startT N (.ref pa :: ts)) [] c (f ts) fun _ => .fin) : VC N (spP fun ts => bd (f ts) fun _ => pu .non) c := fun ts S Q E ⟨pa, rest, k, e, hs, q⟩ => by
  subst e
  have i0 : SI (penW S pa) [] k S := by
    have := si_start (W := penW S pa) (k := k)
    rwa [show penW S pa k = S from ups_self hs] at this
  exact h S pa rest _ _ k _ S (En.refl _) i0 ((Sat.bd.mp q).mono (fun v k' q τ l S' i => fin_of i (.inl rfl) q) fun x k' q τ' S' i => ⟨_, i.base, q⟩)
theorem xs_stuck {κ β : Type} {W : κ → Sto} {p : TEnv} {l : Cs} {t : TTS} {post : β → Dest} : XS W p l t stuck post := fun D E k τ S hE i s => s.elim
theorem Ar.bd {κ α β : Type} {n : Nat} {f : List T → PM κ α} {g : α → PM κ β} (h : Ar n f) : Ar n (fun ts => bd (f ts) g) := fun ts k e => h ts k fun z => e (by simp only [TL.bd, z])
theorem vc_u0 {N : List Str} {c : TTS} {f : PM Unit T} (h : ∀ S, XS (fun _ : Unit => S) (startT N []) [] c (f ) .rt) : VC N (spU (u0 f)) c := vc_u fun S ts => match ts with
  | [] => h S 
  | _ :: _ => xs_stuck
theorem vc_un0 {N : List Str} {c : TTS} {f : PM Unit Unit} (h : ∀ S, XS (fun _ : Unit => S) (startT N []) [] c (f ) fun _ => .fin) : VC N (spU fun ts => bd (u0 f ts) fun _ => pu .non) c := vc_un fun S ts => match ts with
  | [] => h S 
  | _ :: _ => xs_stuck
theorem vc_p0 {N : List Str} {c : TTS} {f : PM Cell T} (h : ∀ S pa, XS (penW S pa) (startT N (.ref pa :: [])) [] c (f ) .rt) : VC N (spP (u0 f)) c := vc_p fun S pa ts => match ts with
  | [] => h S pa 
  | _ :: _ => xs_stuck
theorem vc_pn0 {N : List Str} {c : TTS} {f : PM Cell Unit} (h : ∀ S pa, XS (penW S pa) (startT N (.ref pa :: [])) [] c (f ) fun _ => .fin) : VC N (spP fun ts => bd (u0 f ts) fun _ => pu .non) c := vc_pn fun S pa ts => match ts with
  | [] => h S pa 
  | _ :: _ => xs_stuck
theorem vc_u1 {N : List Str} {c : TTS} {f : T → PM Unit T} (h : ∀ S y1, XS (fun _ : Unit => S) (startT N [y1]) [] c (f y1) .rt) : VC N (spU (u1 f)) c := vc_u fun S ts => match ts with
  | [] => xs_stuck
  | [y1] => h S y1
  | _ :: _ :: _ => xs_stuck
theorem vc_un1 {N : List Str} {c : TTS} {f : T → PM Unit Unit} (h : ∀ S y1, XS (fun _ : Unit => S) (startT N [y1]) [] c (f y1) fun _ => .fin) : VC N (spU fun ts => bd (u1 f ts) fun _ => pu .non) c := vc_un fun S ts => match ts with
  | [] => xs_stuck
  | [y1] => h S y1
  | _ :: _ :: _ => xs_stuck
theorem vc_p1 {N : List Str} {c : TTS} {f : T → PM Cell T} (h : ∀ S pa y1, XS (penW S pa) (startT N (.ref pa :: [y1])) [] c (f y1) .rt) : VC N (spP (u1 f)) c := vc_p fun S pa ts => match ts with
  | [] => xs_stuck
  | [y1] => h S pa y1
  | _ :: _ :: _ => xs_stuck
theorem vc_pn1 {N : List Str} {c : TTS} {f : T → PM Cell Unit} (h : ∀ S pa y1, XS (penW S pa) (startT N (.ref pa :: [y1])) [] c (f y1) fun _ => .fin) : VC N (spP fun ts => bd (u1 f ts) fun _ => pu .non) c := vc_pn fun S pa ts => match ts with
  | [] => xs_stuck
  | [y1] => h S pa y1
  | _ :: _ :: _ => xs_stuck
theorem vc_u2 {N : List Str} {c : TTS} {f : T → T → PM Unit T} (h : ∀ S y1 y2, XS (fun _ : Unit => S) (startT N [y1, y2]) [] c (f y1 y2) .rt) : VC N (spU (u2 f)) c := vc_u fun S ts => match ts with
  | [] => xs_stuck
  | [_] => xs_stuck
  | [y1, y2] => h S y1 y2
  | _ :: _ :: _ :: _ => xs_stuck
theorem vc_un2 {N : List Str} {c : TTS} {f : T → T → PM Unit Unit} (h : ∀ S y1 y2, XS (fun _ : Unit => S) (startT N [y1, y2]) [] c (f y1 y2) fun _ => .fin) : VC N (spU fun ts => bd (u2 f ts) fun _ => pu .non) c := vc_un fun S ts => match ts with
  | [] => xs_stuck
  | [_] => xs_stuck
  | [y1, y2] => h S y1 y2
  | _ :: _ :: _ :: _ => xs_stuck
theorem vc_p2 {N : List Str} {c : TTS} {f : T → T → PM Cell T} (h : ∀ S pa y1 y2, XS (penW S pa) (startT N (.ref pa :: [y1, y2])) [] c (f y1 y2) .rt) : VC N (spP (u2 f)) c := vc_p fun S pa ts => match ts with
  | [] => xs_stuck
  | [_] => xs_stuck
  | [y1, y2] => h S pa y1 y2
  | _ :: _ :: _ :: _ => xs_stuck
theorem vc_pn2 {N : List Str} {c : TTS} {f : T → T → PM Cell Unit} (h : ∀ S pa y1 y2, XS (penW S pa) (startT N (.ref pa :: [y1, y2])) [] c (f y1 y2) fun _ => .fin) : VC N (spP fun ts => bd (u2 f ts) fun _ => pu .non) c := vc_pn fun S pa ts => match ts with
  | [] => xs_stuck
  | [_] => xs_stuck
  | [y1, y2] => h S pa y1 y2
  | _ :: _ :: _ :: _ => xs_stuck
theorem vc_u3 {N : List Str} {c : TTS} {f : T → T → T → PM Unit T} (h : ∀ S y1 y2 y3, XS (fun _ : Unit => S) (startT N [y1, y2, y3]) [] c (f y1 y2 y3) .rt) : VC N (spU (u3 f)) c := vc_u fun S ts => match ts with
  | [] => xs_stuck
  | [_] => xs_stuck
  | [_, _] => xs_stuck
  | [y1, y2, y3] => h S y1 y2 y3
  | _ :: _ :: _ :: _ :: _ => xs_stuck
theorem vc_un3 {N : List Str} {c : TTS} {f : T → T → T → PM Unit Unit} (h : ∀ S y1 y2 y3, XS (fun _ : Unit => S) (startT N [y1, y2, y3]) [] c (f y1 y2 y3) fun _ => .fin) : VC N (spU fun ts => bd (u3 f ts) fun _ => pu .non) c := vc_un fun S ts => match ts with
  | [] => xs_stuck
  | [_] => xs_stuck
  | [_, _] => xs_stuck
  | [y1, y2, y3] => h S y1 y2 y3
  | _ :: _ :: _ :: _ :: _ => xs_stuck
theorem vc_p3 {N : List Str} {c : TTS} {f : T → T → T → PM Cell T} (h : ∀ S pa y1 y2 y3, XS (penW S pa) (startT N (.ref pa :: [y1, y2, y3])) [] c (f y1 y2 y3) .rt) : VC N (spP (u3 f)) c := vc_p fun S pa ts => match ts with
  | [] => xs_stuck
  | [_] => xs_stuck
  | [_, _] => xs_stuck
  | [y1, y2, y3] => h S pa y1 y2 y3
  | _ :: _ :: _ :: _ :: _ => xs_stuck
theorem vc_pn3 {N : List Str} {c : TTS} {f : T → T → T → PM Cell Unit} (h : ∀ S pa y1 y2 y3, XS (penW S pa) (startT N (.ref pa :: [y1, y2, y3])) [] c (f y1 y2 y3) fun _ => .fin) : VC N (spP fun ts => bd (u3 f ts) fun _ => pu .non) c := vc_pn fun S pa ts => match ts with
  | [] => xs_stuck
  | [_] => xs_stuck
  | [_, _] => xs_stuck
  | [y1, y2, y3] => h S pa y1 y2 y3
  | _ :: _ :: _ :: _ :: _ => xs_stuck
theorem vc_u4 {N : List Str} {c : TTS} {f : T → T → T → T → PM Unit T} (h : ∀ S y1 y2 y3 y4, XS (fun _ : Unit => S) (startT N [y1, y2, y3, y4]) [] c (f y1 y2 y3 y4) .rt) : VC N (spU (u4 f)) c := vc_u fun S ts => match ts with
  | [] => xs_stuck
  | [_] => xs_stuck
  | [_, _] => xs_stuck
  | [_, _, _] => xs_stuck
  | [y1, y2, y3, y4] => h S y1 y2 y3 y4
  | _ :: _ :: _ :: _ :: _ :: _ => xs_stuck
theorem vc_un4 {N : List Str} {c : TTS} {f : T → T → T → T → PM Unit Unit} (h : ∀ S y1 y2 y3 y4, XS (fun _ : Unit => S) (startT N [y1, y2, y3, y4]) [] c (f y1 y2 y3 y4) fun _ => .fin) : VC N (spU fun ts => bd (u4 f ts) fun _ => pu .non) c := vc_un fun S ts => match ts with
  | [] => xs_stuck
  | [_] => xs_stuck
  | [_, _] => xs_stuck
  | [_, _, _] => xs_stuck
  | [y1, y2, y3, y4] => h S y1 y2 y3 y4
  | _ :: _ :: _ :: _ :: _ :: _ => xs_stuck
theorem vc_p4 {N : List Str} {c : TTS} {f : T → T → T → T → PM Cell T} (h : ∀ S pa y1 y2 y3 y4, XS (penW S pa) (startT N (.ref pa :: [y1, y2, y3, y4])) [] c (f y1 y2 y3 y4) .rt) : VC N (spP (u4 f)) c := vc_p fun S pa ts => match ts with
  | [] => xs_stuck
  | [_] => xs_stuck
  | [_, _] => xs_stuck
  | [_, _, _] => xs_stuck
  | [y1, y2, y3, y4] => h S pa y1 y2 y3 y4
  | _ :: _ :: _ :: _ :: _ :: _ => xs_stuck
theorem vc_pn4 {N : List Str} {c : TTS} {f : T → T → T → T → PM Cell Unit} (h : ∀ S pa y1 y2 y3 y4, XS (penW S pa) (startT N (.ref pa :: [y1, y2, y3, y4])) [] c (f y1 y2 y3 y4) fun _ => .fin) : VC N (spP fun ts => bd (u4 f ts) fun _ => pu .non) c := vc_pn fun S pa ts => match ts with
  | [] => xs_stuck
  | [_] => xs_stuck
  | [_, _] => xs_stuck
  | [_, _, _] => xs_stuck
  | [y1, y2, y3, y4] => h S pa y1 y2 y3 y4
  | _ :: _ :: _ :: _ :: _ :: _ => xs_stuck
theorem vc_u5 {N : List Str} {c : TTS} {f : T → T → T → T → T → PM Unit T} (h : ∀ S y1 y2 y3 y4 y5, XS (fun _ : Unit => S) (startT N [y1, y2, y3, y4, y5]) [] c (f y1 y2 y3 y4 y5) .rt) : VC N (spU (u5 f)) c := vc_u fun S ts => match ts with
  | [] => xs_stuck
  | [_] => xs_stuck
  | [_, _] => xs_stuck
  | [_, _, _] => xs_stuck
  | [_, _, _, _] => xs_stuck
  | [y1, y2, y3, y4, y5] => h S y1 y2 y3 y4 y5
  | _ :: _ :: _ :: _ :: _ :: _ :: _ => xs_stuck
theorem vc_un5 {N : List Str} {c : TTS} {f : T → T → T → T → T → PM Unit Unit} (h : ∀ S y1 y2 y3 y4 y5, XS (fun _ : Unit => S) (startT N [y1, y2, y3, y4, y5]) [] c (f y1 y2 y3 y4 y5) fun _ => .fin) : VC N (spU fun ts => bd (u5 f ts) fun _ => pu .non) c := vc_un fun S ts => match ts with
  | [] => xs_stuck
  | [_] => xs_stuck
  | [_, _] => xs_stuck
  | [_, _, _] => xs_stuck
  | [_, _, _, _] => xs_stuck
  | [y1, y2, y3, y4, y5] => h S y1 y2 y3 y4 y5
  | _ :: _ :: _ :: _ :: _ :: _ :: _ => xs_stuck
theorem vc_p5 {N : List Str} {c : TTS} {f : T → T → T → T → T → PM Cell T} (h : ∀ S pa y1 y2 y3 y4 y5, XS (penW S pa) (startT N (.ref pa :: [y1, y2, y3, y4, y5])) [] c (f y1 y2 y3 y4 y5) .rt) : VC N (spP (u5 f)) c := vc_p fun S pa ts => match ts with
  | [] => xs_stuck
  | [_] => xs_stuck
  | [_, _] => xs_stuck
  | [_, _, _] => xs_stuck
  | [_, _, _, _] => xs_stuck
  | [y1, y2, y3, y4, y5] => h S pa y1 y2 y3 y4 y5
  | _ :: _ :: _ :: _ :: _ :: _ :: _ => xs_stuck
theorem vc_pn5 {N : List Str} {c : TTS} {f : T → T → T → T → T → PM Cell Unit} (h : ∀ S pa y1 y2 y3 y4 y5, XS (penW S pa) (startT N (.ref pa :: [y1, y2, y3, y4, y5])) [] c (f y1 y2 y3 y4 y5) fun _ => .fin) : VC N (spP fun ts => bd (u5 f ts) fun _ => pu .non) c := vc_pn fun S pa ts => match ts with
  | [] => xs_stuck
  | [_] => xs_stuck
  | [_, _] => xs_stuck
  | [_, _, _] => xs_stuck
  | [_, _, _, _] => xs_stuck
  | [y1, y2, y3, y4, y5] => h S pa y1 y2 y3 y4 y5
  | _ :: _ :: _ :: _ :: _ :: _ :: _ => xs_stuck
theorem vc_u6 {N : List Str} {c : TTS} {f : T → T → T → T → T → T → PM Unit T} (h : ∀ S y1 y2 y3 y4 y5 y6, XS (fun _ : Unit => S) (startT N [y1, y2, y3, y4, y5, y6]) [] c (f y1 y2 y3 y4 y5 y6) .rt) : VC N (spU (u6 f)) c := vc_u fun S ts => match ts with
  | [] => xs_stuck
  | [_] => xs_stuck
  | [_, _] => xs_stuck
  | [_, _, _] => xs_stuck
  | [_, _, _, _] => xs_stuck
  | [_, _, _, _, _] => xs_stuck
  | [y1, y2, y3, y4, y5, y6] => h S y1 y2 y3 y4 y5 y6
  | _ :: _ :: _ :: _ :: _ :: _ :: _ :: _ => xs_stuck
theorem vc_un6 {N : List Str} {c : TTS} {f : T → T → T → T → T → T → PM Unit Unit} (h : ∀ S y1 y2 y3 y4 y5 y6, XS (fun _ : Unit => S) (startT N [y1, y2, y3, y4, y5, y6]) [] c (f y1 y2 y3 y4 y5 y6) fun _ => .fin) : VC N (spU fun ts => bd (u6 f ts) fun _ => pu .non) c := vc_un fun S ts => match ts with
  | [] => xs_stuck
  | [_] => xs_stuck
  | [_, _] => xs_stuck
  | [_, _, _] => xs_stuck
  | [_, _, _, _] => xs_stuck
  | [_, _, _, _, _] => xs_stuck
  | [y1, y2, y3, y4, y5, y6] => h S y1 y2 y3 y4 y5 y6
  | _ :: _ :: _ :: _ :: _ :: _ :: _ :: _ => xs_stuck
theorem vc_p6 {N : List Str} {c : TTS} {f : T → T → T → T → T → T → PM Cell T} (h : ∀ S pa y1 y2 y3 y4 y5 y6, XS (penW S pa) (startT N (.ref pa :: [y1, y2, y3, y4, y5, y6])) [] c (f y1 y2 y3 y4 y5 y6) .rt) : VC N (spP (u6 f)) c := vc_p fun S pa ts => match ts with
  | [] => xs_stuck
  | [_] => xs_stuck
  | [_, _] => xs_stuck
  | [_, _, _] => xs_stuck
  | [_, _, _, _] => xs_stuck
  | [_, _, _, _, _] => xs_stuck
  | [y1, y2, y3, y4, y5, y6] => h S pa y1 y2 y3 y4 y5 y6
  | _ :: _ :: _ :: _ :: _ :: _ :: _ :: _ => xs_stuck
theorem vc_pn6 {N : List Str} {c : TTS} {f : T → T → T → T → T → T → PM Cell Unit} (h : ∀ S pa y1 y2 y3 y4 y5 y6, XS (penW S pa) (startT N (.ref pa :: [y1, y2, y3, y4, y5, y6])) [] c (f y1 y2 y3 y4 y5 y6) fun _ => .fin) : VC N (spP fun ts => bd (u6 f ts) fun _ => pu .non) c := vc_pn fun S pa ts => match ts with
  | [] => xs_stuck
  | [_] => xs_stuck
  | [_, _] => xs_stuck
  | [_, _, _] => xs_stuck
  | [_, _, _, _] => xs_stuck
  | [_, _, _, _, _] => xs_stuck
  | [y1, y2, y3, y4, y5, y6] => h S pa y1 y2 y3 y4 y5 y6
  | _ :: _ :: _ :: _ :: _ :: _ :: _ :: _ => xs_stuck
theorem vc_u7 {N : List Str} {c : TTS} {f : T → T → T → T → T → T → T → PM Unit T} (h : ∀ S y1 y2 y3 y4 y5 y6 y7, XS (fun _ : Unit => S) (startT N [y1, y2, y3, y4, y5, y6, y7]) [] c (f y1 y2 y3 y4 y5 y6 y7) .rt) : VC N (spU (u7 f)) c := vc_u fun S ts => match ts with
  | [] => xs_stuck
  | [_] => xs_stuck
  | [_, _] => xs_stuck
  | [_, _, _] => xs_stuck
  | [_, _, _, _] => xs_stuck
  | [_, _, _, _, _] => xs_stuck
  | [_, _, _, _, _, _] => xs_stuck
  | [y1, y2, y3, y4, y5, y6, y7] => h S y1 y2 y3 y4 y5 y6 y7
  | _ :: _ :: _ :: _ :: _ :: _ :: _ :: _ :: _ => xs_stuck
theorem vc_un7 {N : List Str} {c : TTS} {f : T → T → T → T → T → T → T → PM Unit Unit} (h : ∀ S y1 y2 y3 y4 y5 y6 y7, XS (fun _ : Unit => S) (startT N [y1, y2, y3, y4, y5, y6, y7]) [] c (f y1 y2 y3 y4 y5 y6 y7) fun _ => .fin) : VC N (spU fun ts => bd (u7 f ts) fun _ => pu .non) c := vc_un fun S ts => match ts with
  | [] => xs_stuck
  | [_] => xs_stuck
  | [_, _] => xs_stuck
  | [_, _, _] => xs_stuck
  | [_, _, _, _] => xs_stuck
  | [_, _, _, _, _] => xs_stuck
  | [_, _, _, _, _, _] => xs_stuck
  | [y1, y2, y3, y4, y5, y6, y7] => h S y1 y2 y3 y4 y5 y6 y7
  | _ :: _ :: _ :: _ :: _ :: _ :: _ :: _ :: _ => xs_stuck
theorem vc_p7 {N : List Str} {c : TTS} {f : T → T → T → T → T → T → T → PM Cell T} (h : ∀ S pa y1 y2 y3 y4 y5 y6 y7, XS (penW S pa) (startT N (.ref pa :: [y1, y2, y3, y4, y5, y6, y7])) [] c (f y1 y2 y3 y4 y5 y6 y7) .rt) : VC N (spP (u7 f)) c := vc_p fun S pa ts => match ts with
  | [] => xs_stuck
  | [_] => xs_stuck
  | [_, _] => xs_stuck
  | [_, _, _] => xs_stuck
  | [_, _, _, _] => xs_stuck
  | [_, _, _, _, _] => xs_stuck
  | [_, _, _, _, _, _] => xs_stuck
  | [y1, y2, y3, y4, y5, y6, y7] => h S pa y1 y2 y3 y4 y5 y6 y7
  | _ :: _ :: _ :: _ :: _ :: _ :: _ :: _ :: _ => xs_stuck
theorem vc_pn7 {N : List Str} {c : TTS} {f : T → T → T → T → T → T → T → PM Cell Unit} (h : ∀ S pa y1 y2 y3 y4 y5 y6 y7, XS (penW S pa) (startT N (.ref pa :: [y1, y2, y3, y4, y5, y6, y7])) [] c (f y1 y2 y3 y4 y5 y6 y7) fun _ => .fin) : VC N (spP fun ts => bd (u7 f ts) fun _ => pu .non) c := vc_pn fun S pa ts => match ts with
  | [] => xs_stuck
  | [_] => xs_stuck
  | [_, _] => xs_stuck
  | [_, _, _] => xs_stuck
  | [_, _, _, _] => xs_stuck
  | [_, _, _, _, _] => xs_stuck
  | [_, _, _, _, _, _] => xs_stuck
  | [y1, y2, y3, y4, y5, y6, y7] => h S pa y1 y2 y3 y4 y5 y6 y7
  | _ :: _ :: _ :: _ :: _ :: _ :: _ :: _ :: _ => xs_stuck
/-! recursion: nothing at all -/
theorem us0 {κ α : Type} {f : PM κ α} (h : ∀ (_ : Unit), f  = stuck) : ∀ ts, u0 f ts = stuck
  | [] => h ()
  | _ :: _ => rfl
theorem us1 {κ α : Type} {f : T → PM κ α} (h : ∀ y1, f y1 = stuck) : ∀ ts, u1 f ts = stuck
  | [] => rfl
  | [y1] => h y1
  | _ :: _ :: _ => rfl
theorem us2 {κ α : Type} {f : T → T → PM κ α} (h : ∀ y1 y2, f y1 y2 = stuck) : ∀ ts, u2 f ts = stuck
  | [] => rfl
  | [_] => rfl
  | [y1, y2] => h y1 y2
  | _ :: _ :: _ :: _ => rfl
theorem us3 {κ α : Type} {f : T → T → T → PM κ α} (h : ∀ y1 y2 y3, f y1 y2 y3 = stuck) : ∀ ts, u3 f ts = stuck
  | [] => rfl
  | [_] => rfl
  | [_, _] => rfl
  | [y1, y2, y3] => h y1 y2 y3
  | _ :: _ :: _ :: _ :: _ => rfl
theorem us4 {κ α : Type} {f : T → T → T → T → PM κ α} (h : ∀ y1 y2 y3 y4, f y1 y2 y3 y4 = stuck) : ∀ ts, u4 f ts = stuck
  | [] => rfl
  | [_] => rfl
  | [_, _] => rfl
  | [_, _, _] => rfl
  | [y1, y2, y3, y4] => h y1 y2 y3 y4
  | _ :: _ :: _ :: _ :: _ :: _ => rfl
theorem us5 {κ α : Type} {f : T → T → T → T → T → PM κ α} (h : ∀ y1 y2 y3 y4 y5, f y1 y2 y3 y4 y5 = stuck) : ∀ ts, u5 f ts = stuck
  | [] => rfl
  | [_] => rfl
  | [_, _] => rfl
  | [_, _, _] => rfl
  | [_, _, _, _] => rfl
  | [y1, y2, y3, y4, y5] => h y1 y2 y3 y4 y5
  | _ :: _ :: _ :: _ :: _ :: _ :: _ => rfl
theorem fn_none {P : Program} {w : World} {K : PySem.W.Frag} {mg : Str → Option Value} {base : Heap} {k : Nat} {f : Addr} {fd : FuncData} {ps : List Str} {g : List T → PM Unit T} (h : ∀ ts, g ts = stuck) : FnOk P w K mg base (L2.CX P w) k f fd ps (liftSp P K w (spU g)) :=
  have no : ∀ vs H Q E, liftSp P K w (spU g) vs H Q E → False := fun vs H Q E ⟨M, ts, S, Qt, Et, _, _, q, _⟩ => by
    unfold spU at q
    rw [h] at q
    exact q
  ⟨fun vs H Q E q => (no _ _ _ _ q).elim, fun A outer s H args us vs Q E hr he hb hv hs => (no _ _ _ _ hs).elim⟩
def fuel : Nat := 1000000000
theorem xs_dropassoc {κ β : Type} {W : κ → Sto} {p : TEnv} {l : Cs} {t u : TTS} {m : PM κ β} {post : β → Dest} (h : XS W p l (cDrop (cSeq t u)) m post) : XS W p l (cSeq (cDrop t) u) m post := h
/-- the law: the pen first -/
def sp_pen_of : SpT := sp1 fun a S Q _ => ∃ ns : List Int, a = .scr ns ∧ ∀ p c, S p = none → PenC 0 c → Q (.ref p) (ups S p c)
def sp_law1 : SpT := sp1 fun a S Q _ => ∃ ns, a = .scr ns ∧ ∀ S', Q (.bl true) S'
theorem law1_sp (ns : List Int) (_ : ns.length ≤ 63) : sp_law1 [.scr ns] (fun _ => none) (fun z _ => z = .bl true) fun _ _ => False := ⟨_, rfl, ns, rfl, fun _ => rfl⟩
theorem vc_law {N : List Str} {m : PM Cell T} {u : TTS} (h : ∀ S0 pa a, XS (penW S0 pa) ((startT N [a]).set 1 (some (.ref pa))) [] u m .rt) (hm : ∀ c, PenC 0 c → ∃ k, m c = .ok (.bl true) k) (h0 : (startT N [T.non])[0]? = some (some T.non) := by rfl) :
    VC N sp_law1 (cSeq (cSet 1 (cCall sp_pen_of (cCons (cVar 0) cNil))) u) := by
  rintro ts S Q E ⟨a, rfl, ns, rfl, hq⟩
  refine ⟨.scr ns, rfl, _, rfl, ns, rfl, fun p c hp hc => ?_⟩
  obtain ⟨k, hk⟩ := hm c hc
  refine h S p (.scr ns) _ _ c _ _ (En.refl _) (si_start (W := penW S p)) ?_
  rw [hk]
  exact fun l z S' i w => fin_of i w (hq _)
end TL

/-! TMd: draws; plain rules for mirrors. -/
namespace TL
open PySem PySem.Spec PyProof.Rows L2

def intsOf : List T → Option (List Int)
  | [] => some []
  | .int i :: ts => (intsOf ts).map (i :: ·)
  | _ :: _ => none
theorem intsOf_is : ∀ {ts : List T} {ns : List Int}, intsOf ts = some ns → ts = ns.map T.int
  | [], ns, e => by obtain rfl := Option.some.inj e; rfl
  | .int i :: ts, ns, e => by
    unfold intsOf at e
    cases q : intsOf ts with
    | none => rw [q] at e; cases e
    | some ms =>
      rw [q] at e
      obtain rfl := Option.some.inj e
      rw [intsOf_is q]
      rfl
  | .non :: _, _, e | .bl _ :: _, _, e | .str _ :: _, _, e | .tup _ :: _, _, e | .lst _ :: _, _, e | .ref _ :: _, _, e | .exc _ _ _ :: _, _, e | .dct _ _ _ :: _, _, e | .obj _ _ _ :: _, _, e | .fn _ :: _, _, e | .scr _ :: _, _, e => by cases e
theorem intsOf_map : ∀ ns : List Int, intsOf (ns.map T.int) = some ns
  | [] => rfl
  | i :: ns => by rw [List.map_cons]; unfold intsOf; rw [intsOf_map ns]; rfl
def penCell (ns : List Int) (at_ rest : Int) : Cell := .lst [.lst (ns.map T.int), .int at_, .int rest]
def absI (z : Int) : Int := if z < 0 then -z else z
def drawNum (z at_ many : Int) : Int := (((((z.fmod 2147483647 + 69621 * at_ + 13) * 48271).fmod 2147483629 * ((z.fmod 2147483647 + 69621 * at_ + 13) * 48271).fmod 2147483629).fmod 2147483587 * ((((z.fmod 2147483647 + 69621 * at_ + 13) * 48271).fmod 2147483629).fmod 65521 + 7 * at_ + 1)).fmod 2147483563).fdiv 32 |>.fmod many
def cellAt (ns : List Int) (at_ : Int) : Int := if 0 < ns.length then ns.getD (at_.fmod ns.length).toNat 0 else 11
def drawStep (ns : List Int) (at_ rest many : Int) : Int × Cell :=
  if 0 < rest then (rest.fmod many, penCell ns at_ (rest.fdiv many))
  else if at_ < ns.length then (if 10 ^ 18 ≤ absI (cellAt ns at_) then ((absI (cellAt ns at_)).fmod many, penCell ns (at_ + 1) ((absI (cellAt ns at_)).fdiv many)) else (drawNum (cellAt ns at_) at_ many, penCell ns (at_ + 1) rest))
  else (drawNum (cellAt ns at_) at_ many, penCell ns (at_ + 1) rest)
def m_draw (t : T) : PM Cell T := fun c => match c, t with
  | .lst [.lst xs, .int at_, .int rest], .int many => match intsOf xs with
    | some ns => if 0 < many ∧ many < 1000000000 ∧ 0 ≤ at_ ∧ at_ ≤ big ∧ 0 ≤ rest ∧ ns.length ≤ 63 then .ok (.int (drawStep ns at_ rest many).1) (drawStep ns at_ rest many).2 else .bad
    | none => .bad
  | _, _ => .bad
theorem sat_draw {t : T} {c : Cell} {P : T → Cell → Prop} {X : T → Cell → Prop} (h : Sat (m_draw t c) P X) : ∃ ns at_ rest many, c = penCell ns at_ rest ∧ t = .int many ∧ (0 < many ∧ many < 1000000000 ∧ 0 ≤ at_ ∧ at_ ≤ big ∧ 0 ≤ rest ∧ ns.length ≤ 63) ∧ P (.int (drawStep ns at_ rest many).1) (drawStep ns at_ rest many).2 := by
  unfold m_draw at h
  split at h
  · rename_i xs at_ rest many
    split at h
    · rename_i ns e
      split at h
      · rename_i k
        exact ⟨ns, at_, rest, many, by rw [intsOf_is e]; rfl, rfl, k, h⟩
      · exact h.elim
    · exact h.elim
  · exact h.elim
theorem pen_cell {n : Nat} {c : Cell} (h : PenC n c) : ∃ ns at_ rest, c = penCell ns at_ rest ∧ 0 ≤ at_ ∧ at_ ≤ n ∧ 0 ≤ rest ∧ ns.length ≤ 63 := h
theorem draw_ok {n : Nat} {c : Cell} {many : Int} (h : PenC n c) (hn : n ≤ big) (h1 : 0 < many) (h2 : many < 1000000000) : ∃ d c', m_draw (.int many) c = .ok (.int d) c' ∧ 0 ≤ d ∧ d < many ∧ PenC (n + 1) c' := by
  obtain ⟨ns, at_, rest, rfl, a0, a1, a2, a3⟩ := h
  have hb : (n : Int) ≤ big := by exact_mod_cast hn
  have e : m_draw (.int many) (.lst [.lst (ns.map T.int), .int at_, .int rest]) = .ok (.int (drawStep ns at_ rest many).1) (drawStep ns at_ rest many).2 := by
    unfold m_draw
    simp only [intsOf_map]
    rw [if_pos ⟨h1, h2, a0, by omega, a2, a3⟩]
  refine ⟨_, _, e, ?_⟩
  have w : 0 ≤ absI (cellAt ns at_) := by unfold absI; split <;> omega
  unfold drawStep
  split
  · exact ⟨fmod_lo h1, fmod_hi h1, ns, at_, _, rfl, a0, by omega, fdiv_lo a2 h1, a3⟩
  split
  · split
    · exact ⟨fmod_lo h1, fmod_hi h1, ns, at_ + 1, _, rfl, by omega, by omega, fdiv_lo w h1, a3⟩
    · exact ⟨fmod_lo h1, fmod_hi h1, ns, at_ + 1, _, rfl, by omega, by omega, a2, a3⟩
  · exact ⟨fmod_lo h1, fmod_hi h1, ns, at_ + 1, _, rfl, by omega, by omega, a2, a3⟩
theorem draw_core {S : Sto} {p : Addr} {ns : List Int} {at_ rest many : Int} {Q : T → Sto → Prop} (h : Q (.int (drawStep ns at_ rest many).1) (ups S p (drawStep ns at_ rest many).2)) : Q (.int (drawStep ns at_ rest many).1) (ups S p (drawStep ns at_ rest many).2) := h
end TL

/-! TMe: plain rules: conditions drawn ahead, comprehensions, loops, draws. -/
namespace TL
open PySem PySem.Spec PyProof.Rows L2
section
variable {κ α β γ σ : Type}
/-- a condition -/
noncomputable def gdc (b : Prop) : PM κ Unit := @gd κ b (Classical.propDecidable b)
theorem gd_c {b : Prop} [d : Decidable b] : gd (κ := κ) b = gdc b := by
  unfold gdc
  congr
theorem gdc_t {b : Prop} (h : b) : gdc (κ := κ) b = pu () := @gd_true κ b (Classical.propDecidable b) h
theorem gdc_f {b : Prop} (h : ¬ b) : gdc (κ := κ) b = stuck := @if_neg b (Classical.propDecidable b) h _ _ _
theorem gdc_b {b : Prop} (h : b) (f : Unit → PM κ α) : bd (gdc b) f = f () := by rw [gdc_t h]; rfl
theorem ofO_none : ofO (κ := κ) (none : Option α) = stuck := rfl
theorem ofO_ite {c : Prop} [Decidable c] {v : α} : ofO (κ := κ) (if c then some v else none) = bd (gdc c) fun _ => pu v := by
  by_cases h : c
  · rw [if_pos h, gdc_t h]; rfl
  · rw [if_neg h, gdc_f h]; rfl
theorem ite_bd {c : Prop} [Decidable c] {x y : PM κ α} {f : α → PM κ β} : bd (if c then x else y) f = if c then bd x f else bd y f := by split <;> rfl
theorem ite_pu {c : Prop} [Decidable c] {x y : α} : (if c then pu (κ := κ) x else pu y) = pu (if c then x else y) := by split <;> rfl
theorem lft_bd (m : PM Unit α) (f : α → PM Unit β) : lft (κ := κ) (bd m f) = bd (lft m) fun a => lft (f a) := by
  funext k
  unfold lft bd
  cases m () <;> rfl
theorem lft_gdc {b : Prop} : lft (κ := κ) (gdc b) = gdc b := by
  by_cases h : b
  · rw [gdc_t h, gdc_t h]; rfl
  · rw [gdc_f h, gdc_f h]; rfl
theorem lft_ite {c : Prop} [Decidable c] {x y : PM Unit α} : lft (κ := κ) (if c then x else y) = if c then lft x else lft y := by split <;> rfl
theorem lft_stuck : lft (κ := κ) (stuck : PM Unit α) = stuck := rfl
theorem lft_lft (m : PM Unit α) : lft (κ := Unit) m = m := by
  funext k
  unfold lft
  cases m () <;> rfl
/-! comprehensions -/
def compA (f : α → PM κ (Option T)) : List α → PM κ (List T)
  | [] => pu []
  | x :: xs => bd (nox (f x)) fun o => bd (compA f xs) fun ys => pu (o.toList ++ ys)
theorem compA_cons {f : α → PM κ (Option T)} {x : α} {xs : List α} : compA f (x :: xs) = bd (nox (f x)) fun o => bd (compA f xs) fun ys => pu (o.toList ++ ys) := rfl
theorem compM_map {e : α → T} {f : T → PM κ (Option T)} : ∀ xs : List α, compM f (xs.map e) = compA (fun a => f (e a)) xs
  | [] => rfl
  | x :: xs => by
    rw [List.map_cons, compA_cons, ← compM_map xs]
    rfl
theorem compM_A {f : T → PM κ (Option T)} (xs : List T) : compM f xs = compA f xs := by
  have := compM_map (e := id) (f := f) xs
  rwa [List.map_id] at this
theorem compG_map {e : α → T} {f : T → PM κ (Option T)} {xs : List α} : compG f (xs.map e) = bd (gdc (xs.length ≤ sizeLine)) fun _ => compA (fun a => f (e a)) xs := by
  unfold compG
  rw [gd_c, compM_map, List.length_map]
theorem nox_stuck : nox (stuck : PM κ α) = stuck := rfl
theorem compA_pu {g : α → T} : ∀ xs : List α, compA (κ := κ) (fun a => pu (some (g a))) xs = pu (xs.map g)
  | [] => rfl
  | x :: xs => by
    rw [compA_cons, compA_pu xs]
    rfl
theorem compA_if {p : α → Prop} [DecidablePred p] {g : α → T} : ∀ xs : List α, compA (κ := κ) (fun a => if p a then pu (some (g a)) else pu none) xs = pu ((xs.filter fun a => decide (p a)).map g)
  | [] => rfl
  | x :: xs => by
    rw [compA_cons, compA_if xs]
    by_cases h : p x
    · rw [if_pos h, List.filter_cons_of_pos (by simpa using h)]; rfl
    · rw [if_neg h, List.filter_cons_of_neg (by simpa using h)]; rfl
theorem bd_stuck (m : PM κ α) (h : ∀ k, ∃ a k', m k = .ok a k' ∨ m k = .bad) : bd m (fun _ => (stuck : PM κ β)) = stuck := by
  funext k
  obtain ⟨a, k', e | e⟩ := h k <;> (unfold bd; rw [e]; rfl)
theorem nox_cases (m : PM κ α) [Inhabited α] (k : κ) : ∃ a k', nox m k = .ok a k' ∨ nox m k = .bad := by
  unfold nox
  cases e : m k with
  | ok a k' => exact ⟨a, k', .inl rfl⟩
  | exc x k' => exact ⟨default, k, .inr rfl⟩
  | bad => exact ⟨default, k, .inr rfl⟩
theorem compA_gd {c : α → Prop} {h : α → PM κ (Option T)} : ∀ xs : List α, compA (fun a => bd (gdc (c a)) fun _ => h a) xs = bd (gdc (∀ a ∈ xs, c a)) fun _ => compA h xs
  | [] => by rw [gdc_t (fun _ h => nomatch h)]; rfl
  | x :: xs => by
    have ih := compA_gd (c := c) (h := h) xs
    by_cases hx : c x
    · by_cases hs : ∀ a ∈ xs, c a
      · rw [gdc_t hs, pu_bd] at ih
        rw [gdc_t (List.forall_mem_cons.mpr ⟨hx, hs⟩), pu_bd, compA_cons, gdc_t hx, ih]
        rfl
      · rw [gdc_f hs, stuck_bd] at ih
        rw [gdc_f fun z => hs (List.forall_mem_cons.mp z).2, compA_cons, ih]
        exact bd_stuck _ (nox_cases _)
    · rw [gdc_f fun z => hx (List.forall_mem_cons.mp z).1, compA_cons, gdc_f hx]
      rfl
theorem compA_gdif {p c : α → Prop} [DecidablePred p] {h : α → PM κ (Option T)} (xs : List α) : compA (fun a => if p a then bd (gdc (c a)) fun _ => h a else pu none) xs = bd (gdc (∀ a ∈ xs, p a → c a)) fun _ => compA (fun a => if p a then h a else pu none) xs := by
  rw [← compA_gd]
  congr
  funext a
  by_cases hp : p a
  · rw [if_pos hp]
    by_cases hc : c a
    · rw [gdc_t hc, gdc_t (fun _ => hc), if_pos hp]
    · rw [gdc_f hc, gdc_f (fun z => hc (z hp))]; rfl
  · rw [if_neg hp, gdc_t (fun z => absurd z hp), if_neg hp]; rfl
theorem compA_congr {f g : α → PM κ (Option T)} : ∀ {xs : List α}, (∀ a ∈ xs, f a = g a) → compA f xs = compA g xs
  | [], _ => rfl
  | x :: xs, h => by
    rw [compA_cons, compA_cons, h x List.mem_cons_self, compA_congr fun a ha => h a (List.mem_cons_of_mem _ ha)]
/-! loops -/
def forA (f : α → σ → PM κ σ) : List α → σ → PM κ σ
  | [], s => pu s
  | x :: xs, s => bd (f x s) (forA f xs)
theorem forM_map {e : α → T} {f : T → σ → PM κ σ} : ∀ (xs : List α) (s : σ), forM f (xs.map e) s = forA (fun a => f (e a)) xs s
  | [], _ => rfl
  | x :: xs, s => by
    rw [List.map_cons]
    show bd (f (e x) s) (forM f (xs.map e)) = bd (f (e x) s) (forA (fun a => f (e a)) xs)
    congr
    funext s
    exact forM_map xs s
theorem forM_A {f : T → σ → PM κ σ} (xs : List T) (s : σ) : forM f xs s = forA f xs s := by
  have := forM_map (e := id) (f := f) xs s
  rwa [List.map_id] at this
/-- a pure loop over states of a kind -/
theorem forA_pure {τ : Type} {f : α → σ → PM κ σ} {E : τ → σ} {g : α → τ → τ} (I : List α → τ → Prop) : ∀ (xs : List α) (s : τ), I xs s → (∀ x xs s, I (x :: xs) s → f x (E s) = pu (E (g x s)) ∧ I xs (g x s)) → forA f xs (E s) = pu (E (xs.foldl (fun s x => g x s) s))
  | [], _, _, _ => rfl
  | x :: xs, s, hi, h => by
    obtain ⟨h1, h2⟩ := h x xs s hi
    show bd (f x (E s)) (forA f xs) = _
    rw [h1, pu_bd]
    exact forA_pure I xs (g x s) h2 h
def forRA (f : α → σ → PM κ (Fl σ)) : List α → σ → PM κ (σ ⊕ T)
  | [], s => pu (.inl s)
  | x :: xs, s => bd (f x s) fun r => match r with
    | .nx s => forRA f xs s
    | .ct s => forRA f xs s
    | .bk s => pu (.inl s)
    | .rt v => pu (.inr v)
theorem forR_map {e : α → T} {f : T → σ → PM κ (Fl σ)} : ∀ (xs : List α) (s : σ), forR f (xs.map e) s = forRA (fun a => f (e a)) xs s
  | [], _ => rfl
  | x :: xs, s => by
    rw [List.map_cons]
    show bd (f (e x) s) _ = bd (f (e x) s) _
    congr
    funext r
    cases r with
    | nx s => exact forR_map xs s
    | ct s => exact forR_map xs s
    | _ => rfl
theorem forR_A {f : T → σ → PM κ (Fl σ)} (xs : List T) (s : σ) : forR f xs s = forRA f xs s := by
  have := forR_map (e := id) (f := f) xs s
  rwa [List.map_id] at this
/-- a loop that goes through: a state kept -/
theorem forRA_all {f : α → σ → PM κ (Fl σ)} : ∀ (xs : List α) (s : σ), (∀ x ∈ xs, f x s = pu (.nx s)) → forRA f xs s = pu (.inl s)
  | [], _, _ => rfl
  | x :: xs, s, h => by
    show bd (f x s) _ = _
    rw [h x List.mem_cons_self, pu_bd]
    exact forRA_all xs s fun y hy => h y (List.mem_cons_of_mem _ hy)
theorem sum_inl {f : σ → γ} {g : T → γ} {s : σ} : Sum.elim f g (.inl s) = f s := rfl
theorem sum_inr {f : σ → γ} {g : T → γ} {v : T} : Sum.elim f g (.inr v) = g v := rfl
end
/-! ### by the pen: at most d draws, an end, what holds of it -/
def Pen (r : Nat) (c : Cell) : Prop := ∃ n, n + r ≤ big ∧ PenC n c
def HT {α : Type} (d : Nat) (m : PM Cell α) (P : α → Prop) : Prop := ∀ r c, Pen (r + d) c → ∃ a c', m c = .ok a c' ∧ Pen r c' ∧ P a
section
variable {α β γ σ : Type}
theorem HT.le {d d' : Nat} {m : PM Cell α} {P : α → Prop} (h : HT d m P) (hd : d ≤ d') : HT d' m P := fun r c ⟨n, h1, h2⟩ => by
  obtain ⟨a, c', e, ⟨n', k1, k2⟩, p⟩ := h (r + (d' - d)) c ⟨n, by omega, h2⟩
  exact ⟨a, c', e, ⟨n', by omega, k2⟩, p⟩
theorem HT.mono {d : Nat} {m : PM Cell α} {P Q : α → Prop} (h : HT d m P) (hq : ∀ a, P a → Q a) : HT d m Q := fun r c hc => by
  obtain ⟨a, c', e, k, p⟩ := h r c hc
  exact ⟨a, c', e, k, hq a p⟩
theorem HT.pu {d : Nat} {a : α} {P : α → Prop} (h : P a) : HT d (TL.pu a) P := fun r c ⟨n, h1, h2⟩ => ⟨a, c, rfl, ⟨n, by omega, h2⟩, h⟩
theorem HT.bd {d1 d2 : Nat} {m : PM Cell α} {f : α → PM Cell β} {P : α → Prop} {Q : β → Prop} (h1 : HT d1 m P) (h2 : ∀ a, P a → HT d2 (f a) Q) : HT (d2 + d1) (TL.bd m f) Q := fun r c hc => by
  obtain ⟨a, c1, e1, k1, p1⟩ := h1 (r + d2) c (by rw [Nat.add_assoc]; exact hc)
  obtain ⟨b, c2, e2, k2, p2⟩ := h2 a p1 r c1 k1
  exact ⟨b, c2, by unfold TL.bd; rw [e1]; exact e2, k2, p2⟩
theorem HT.draw {many : Int} {P : T → Prop} (h1 : 0 < many) (h2 : many < 1000000000) (h : ∀ d : Int, 0 ≤ d → d < many → P (.int d)) : HT 1 (m_draw (.int many)) P := fun r c ⟨n, k1, k2⟩ => by
  obtain ⟨d, c', e, d0, d1, k⟩ := draw_ok k2 (by omega) h1 h2
  exact ⟨_, c', e, ⟨n + 1, by omega, k⟩, h d d0 d1⟩
/-- a draw, then on -/
theorem HT.drawB {many : Int} {d : Nat} {f : T → PM Cell β} {Q : β → Prop} (h1 : 0 < many) (h2 : many < 1000000000) (h : ∀ i : Int, 0 ≤ i → i < many → HT d (f (.int i)) Q) : HT (d + 1) (TL.bd (m_draw (.int many)) f) Q :=
  HT.bd (P := fun v => ∃ i : Int, 0 ≤ i ∧ i < many ∧ v = .int i) (HT.draw h1 h2 fun i a b => ⟨i, a, b, rfl⟩) fun v ⟨i, a, b, e⟩ => e ▸ h i a b
theorem HT.gdc {b : Prop} {d : Nat} {f : Unit → PM Cell β} {Q : β → Prop} (hb : b) (h : HT d (f ()) Q) : HT d (TL.bd (TL.gdc b) f) Q := by rw [gdc_b hb]; exact h
theorem HT.ite {c : Prop} [Decidable c] {d : Nat} {x y : PM Cell α} {P : α → Prop} (h1 : c → HT d x P) (h2 : ¬ c → HT d y P) : HT d (if c then x else y) P := by
  by_cases h : c
  · rw [if_pos h]; exact h1 h
  · rw [if_neg h]; exact h2 h
theorem HT.forA {d : Nat} {f : α → σ → PM Cell σ} (I : List α → σ → Prop) : ∀ (xs : List α) (s : σ), I xs s → (∀ x xs s, I (x :: xs) s → HT d (f x s) fun s' => I xs s') → HT (xs.length * d) (TL.forA f xs s) fun s' => I [] s'
  | [], s, hi, _ => by
    rw [List.length_nil, Nat.zero_mul]
    exact HT.pu hi
  | x :: xs, s, hi, h => by
    rw [List.length_cons, Nat.succ_mul]
    exact HT.bd (h x xs s hi) fun s' hs' => HT.forA I xs s' hs' h
/-- at most so many turns -/
theorem HT.forN (d n : Nat) {f : α → σ → PM Cell σ} (I : List α → σ → Prop) {xs : List α} {s : σ} (hn : xs.length ≤ n) (hi : I xs s) (h : ∀ x xs s, I (x :: xs) s → HT d (f x s) fun s' => I xs s') : HT (n * d) (TL.forA f xs s) fun s' => I [] s' :=
  (HT.forA I xs s hi h).le (Nat.mul_le_mul_right d hn)
theorem HT.compA {d : Nat} {f : α → PM Cell (Option T)} (I : List α → List T → Prop) : ∀ (xs : List α) (acc : List T), I xs acc → (∀ x xs acc, I (x :: xs) acc → HT d (f x) fun o => I xs (acc ++ o.toList)) → HT (xs.length * d) (TL.compA f xs) fun ys => I [] (acc ++ ys)
  | [], acc, hi, _ => by
    rw [List.length_nil, Nat.zero_mul]
    exact HT.pu (by simpa using hi)
  | x :: xs, acc, hi, h => by
    rw [List.length_cons, Nat.succ_mul]
    rw [compA_cons]
    refine HT.bd (P := fun o => I xs (acc ++ o.toList)) (fun r c hc => ?_) fun o ho => ?_
    · obtain ⟨a, c', e1, k1, p1⟩ := h x xs acc hi r c hc
      exact ⟨a, c', by unfold nox; rw [e1], k1, p1⟩
    · have := HT.compA I xs (acc ++ o.toList) ho h
      refine (HT.bd (d2 := 0) this fun ys hy => HT.pu ?_).le (Nat.le_of_eq (Nat.zero_add _))
      rw [← List.append_assoc]
      exact hy
theorem HT.compN (d n : Nat) {f : α → PM Cell (Option T)} (I : List α → List T → Prop) {xs : List α} (hn : xs.length ≤ n) (hi : I xs []) (h : ∀ x xs acc, I (x :: xs) acc → HT d (f x) fun o => I xs (acc ++ o.toList)) : HT (n * d) (TL.compA f xs) fun ys => I [] ys :=
  (HT.compA I xs [] hi h).le (Nat.mul_le_mul_right d hn)
/-- the law at its end -/
theorem HT.law {d : Nat} {m : PM Cell T} (h : HT d m fun v => v = .bl true) (hd : d ≤ 1000000000000) : ∀ c, PenC 0 c → ∃ k, m c = .ok (.bl true) k := fun c hc => by
  obtain ⟨a, c', e, _, rfl⟩ := h 0 c ⟨0, by unfold big; omega, hc⟩
  exact ⟨c', e⟩
end
end TL

/-! TMf: things of a kind as trees: sorted, asked for, alike; books. -/
namespace TL
open PySem PySem.Spec PyProof.Rows L2

abbrev Nm := List Sg
def fkT (x : Nm × Nm) : T := .tup [.str x.1, .str x.2]
/-- a kind of keys -/
structure KE {α : Type} (e : α → T) : Prop where
  inj : ∀ a b, e a = e b → a = b
  kx : ∀ a, kx (e a) = true
  dp : ∀ a, dep (e a) ≤ 8
  alk : ∀ a b, alk (e a) (e b) = true
theorem KE.okd {α : Type} {e : α → T} (h : KE e) (a : α) : okd (e a) = true := by
  have := h.dp a
  unfold TL.okd
  rw [kx_plain _ (h.kx a), decide_eq_true (by omega)]
  rfl
theorem ke_str : KE T.str := ⟨fun _ _ => str_inj, fun _ => rfl, fun _ => Nat.zero_le _, fun _ _ => rfl⟩
theorem famT_inj {f g : List Nm} (h : famT f = famT g) : f = g := by
  injection h with h
  exact (List.map_inj_right (fun _ _ => str_inj)).mp h
theorem ke_fam : KE famT := ⟨fun _ _ => famT_inj, fun f => (fam_facts f).1, fun f => by rw [(fam_facts f).2.2]; omega, fam_alk⟩
theorem ke_fk : KE fkT := ⟨fun a b h => by
  injection h with h
  injection h with h1 h2
  injection h2 with h2 _
  exact Prod.ext (str_inj h1) (str_inj h2), fun _ => rfl, fun _ => by show 1 ≤ 8; omega, fun _ _ => rfl⟩
theorem ke_kin : KE kinT := ⟨fun a b h => by
  injection h with h
  injection h with h1 h2
  injection h2 with h2 _
  exact Prod.ext (str_inj h1) (famT_inj h2), fun b => (kin_facts b).1, fun b => by rw [(kin_facts b).2.2]; omega, kin_alk⟩
section
variable {α : Type} {e : α → T} {S : Sto}
theorem KE.eqt (h : KE e) [DecidableEq α] (a b : α) : eqt (e a) (e b) = decide (a = b) := by
  have z := eqt_kx (e a) (e b) (h.kx a) (h.kx b)
  by_cases q : a = b
  · subst q; rw [decide_eq_true rfl]; exact z.mpr rfl
  · rw [decide_eq_false q]
    cases w : TL.eqt (e a) (e b) with
    | false => rfl
    | true => exact absurd (h.inj _ _ (z.mp w)) q
theorem KE.eqT (h : KE e) [DecidableEq α] (a b : α) : eqT emp (e a) (e b) = some (.bl (decide (a = b))) := by
  have r : ∀ a, res emp (e a) = e a := fun a => by
    have := h.kx a
    cases q : e a with
    | ref x => rw [q] at this; cases this
    | _ => rfl
  unfold TL.eqT
  rw [r, r, h.okd, h.okd, h.eqt]
  rfl
theorem KE.neT (h : KE e) [DecidableEq α] (a b : α) : neT emp (e a) (e b) = some (.bl (!decide (a = b))) := by
  have r : ∀ a, res emp (e a) = e a := fun a => by
    have := h.kx a
    cases q : e a with
    | ref x => rw [q] at this; cases this
    | _ => rfl
  unfold TL.neT
  rw [r, r, h.okd, h.okd, h.eqt]
  rfl
theorem KE.any (h : KE e) [DecidableEq α] (a : α) : ∀ xs : List α, ((xs.map e).any fun z => TL.eqt z (e a)) = decide (a ∈ xs)
  | [] => rfl
  | x :: xs => by
    rw [List.map_cons, List.any_cons, KE.any h a xs, h.eqt]
    by_cases q : x = a
    · subst q; simp
    · have q' : a ≠ x := fun z => q z.symm
      simp [q, q']
theorem KE.okds (h : KE e) (xs : List α) : TL.okd (.lst (xs.map e)) = true ∧ TL.okd (.tup (xs.map e)) = true := okd_map fun x _ => ⟨h.okd x, by have := h.dp x; omega⟩
theorem KE.inT (h : KE e) [DecidableEq α] (a : α) (xs : List α) : inT emp (e a) (.tup (xs.map e)) = some (.bl (decide (a ∈ xs))) ∧ inT emp (e a) (.lst (xs.map e)) = some (.bl (decide (a ∈ xs))) := by
  constructor
  · unfold TL.inT inQ
    show Option.map _ (if (TL.okd (e a) && TL.okd (.tup (xs.map e))) = true then _ else none) = _
    rw [h.okd, (h.okds xs).2, Bool.and_self, if_pos rfl, h.any]; rfl
  · unfold TL.inT inQ
    show Option.map _ (if (TL.okd (e a) && TL.okd (.lst (xs.map e))) = true then _ else none) = _
    rw [h.okd, (h.okds xs).1, Bool.and_self, if_pos rfl, h.any]; rfl
theorem KE.ninT (h : KE e) [DecidableEq α] (a : α) (xs : List α) : ninT emp (e a) (.tup (xs.map e)) = some (.bl (!decide (a ∈ xs))) ∧ ninT emp (e a) (.lst (xs.map e)) = some (.bl (!decide (a ∈ xs))) := by
  constructor
  · unfold TL.ninT inQ
    show Option.map _ (if (TL.okd (e a) && TL.okd (.tup (xs.map e))) = true then _ else none) = _
    rw [h.okd, (h.okds xs).2, Bool.and_self, if_pos rfl, h.any]; rfl
  · unfold TL.ninT inQ
    show Option.map _ (if (TL.okd (e a) && TL.okd (.lst (xs.map e))) = true then _ else none) = _
    rw [h.okd, (h.okds xs).1, Bool.and_self, if_pos rfl, h.any]; rfl
theorem KE.kxs (h : KE e) (xs : List α) : TL.kxs (xs.map e) = true := kxs_map fun x _ => h.kx x
theorem KE.eqts (h : KE e) [DecidableEq α] (xs ys : List α) : TL.eqts (xs.map e) (ys.map e) = decide (xs = ys) := by
  have z := eqts_kx (xs.map e) (ys.map e) (h.kxs xs) (h.kxs ys)
  by_cases q : xs = ys
  · subst q; rw [decide_eq_true rfl]; exact z.mpr rfl
  · rw [decide_eq_false q]
    cases w : TL.eqts (xs.map e) (ys.map e) with
    | false => rfl
    | true => exact absurd ((List.map_inj_right h.inj).mp (z.mp w)) q
/-- lists, tuples of a kind -/
theorem KE.eqL (h : KE e) [DecidableEq α] (xs ys : List α) : TL.eqT emp (.lst (xs.map e)) (.lst (ys.map e)) = some (.bl (decide (xs = ys))) ∧ TL.eqT emp (.tup (xs.map e)) (.tup (ys.map e)) = some (.bl (decide (xs = ys))) := by
  constructor
  · show (if (TL.okd (.lst (xs.map e)) && TL.okd (.lst (ys.map e))) = true then some (T.bl (TL.eqt (.lst (xs.map e)) (.lst (ys.map e)))) else none) = _
    rw [(h.okds xs).1, (h.okds ys).1, Bool.and_self, if_pos rfl]
    show some (T.bl (TL.eqts (xs.map e) (ys.map e))) = _
    rw [h.eqts]
  · show (if (TL.okd (.tup (xs.map e)) && TL.okd (.tup (ys.map e))) = true then some (T.bl (TL.eqt (.tup (xs.map e)) (.tup (ys.map e)))) else none) = _
    rw [(h.okds xs).2, (h.okds ys).2, Bool.and_self, if_pos rfl]
    show some (T.bl (TL.eqts (xs.map e) (ys.map e))) = _
    rw [h.eqts]
theorem KE.neL (h : KE e) [DecidableEq α] (xs ys : List α) : TL.neT emp (.lst (xs.map e)) (.lst (ys.map e)) = some (.bl (!decide (xs = ys))) ∧ TL.neT emp (.tup (xs.map e)) (.tup (ys.map e)) = some (.bl (!decide (xs = ys))) := by
  constructor
  · show (if (TL.okd (.lst (xs.map e)) && TL.okd (.lst (ys.map e))) = true then some (T.bl (!TL.eqt (.lst (xs.map e)) (.lst (ys.map e)))) else none) = _
    rw [(h.okds xs).1, (h.okds ys).1, Bool.and_self, if_pos rfl]
    show some (T.bl (!TL.eqts (xs.map e) (ys.map e))) = _
    rw [h.eqts]
  · show (if (TL.okd (.tup (xs.map e)) && TL.okd (.tup (ys.map e))) = true then some (T.bl (!TL.eqt (.tup (xs.map e)) (.tup (ys.map e)))) else none) = _
    rw [(h.okds xs).2, (h.okds ys).2, Bool.and_self, if_pos rfl]
    show some (T.bl (!TL.eqts (xs.map e) (ys.map e))) = _
    rw [h.eqts]
/-- sorted -/
def srt (e : α → T) (xs : List α) : List α := xs.mergeSort fun a b => leT' (e a) (e b)
def ddup (e : α → T) : List α → List α
  | [] => []
  | t :: ts => if ((ddup e ts).any fun u => TL.eqt (e t) (e u)) = true then ddup e ts else t :: ddup e ts
def srtU (e : α → T) (xs : List α) : List α := srt e (ddup e xs)
theorem srt_map (xs : List α) : (xs.map e).mergeSort leT' = (srt e xs).map e := (List.map_mergeSort (r := fun a b => leT' (e a) (e b)) (s := leT') (f := e) (l := xs) fun a _ b _ => rfl).symm
theorem ddup_map : ∀ xs : List α, dedupT (xs.map e) = (ddup e xs).map e
  | [] => rfl
  | x :: xs => by
    rw [List.map_cons]
    unfold dedupT ddup
    rw [ddup_map xs, List.any_map, show (eqt (e x) ∘ e) = fun u => eqt (e x) (e u) from rfl]
    by_cases h : ((ddup e xs).any fun u => TL.eqt (e x) (e u)) = true
    · rw [if_pos h, if_pos h]
    · rw [if_neg h, if_neg h]; rfl
theorem srtU_map (xs : List α) : sortU (xs.map e) = (srtU e xs).map e := by
  unfold sortU srtU
  rw [ddup_map, srt_map]
theorem srt_perm (xs : List α) : (srt e xs).Perm xs := List.mergeSort_perm xs _
theorem srt_len (xs : List α) : (srt e xs).length = xs.length := (srt_perm xs).length_eq
theorem srt_mem {xs : List α} {a : α} : a ∈ srt e xs ↔ a ∈ xs := (srt_perm xs).mem_iff
theorem KE.ddup_mem (h : KE e) : ∀ {xs : List α} {a : α}, a ∈ ddup e xs ↔ a ∈ xs
  | [], _ => Iff.rfl
  | x :: xs, a => by
    have ih : ∀ {a : α}, a ∈ ddup e xs ↔ a ∈ xs := KE.ddup_mem h (xs := xs)
    unfold ddup
    by_cases q : ((ddup e xs).any fun u => TL.eqt (e x) (e u)) = true
    · rw [if_pos q, ih, List.mem_cons]
      refine ⟨.inr, fun z => z.elim (fun z => ?_) id⟩
      obtain ⟨u, hu, w⟩ := List.any_eq_true.mp q
      have := h.inj _ _ ((eqt_kx _ _ (h.kx x) (h.kx u)).mp w)
      subst z; subst this
      exact ih.mp hu
    · rw [if_neg q, List.mem_cons, List.mem_cons, ih]
theorem KE.ddup_nodup (h : KE e) : ∀ xs : List α, (ddup e xs).Nodup
  | [] => List.nodup_nil
  | x :: xs => by
    have ih := KE.ddup_nodup h xs
    unfold ddup
    by_cases q : ((ddup e xs).any fun u => TL.eqt (e x) (e u)) = true
    · rw [if_pos q]; exact ih
    · rw [if_neg q]
      refine List.nodup_cons.mpr ⟨fun z => q (List.any_eq_true.mpr ⟨x, z, ?_⟩), ih⟩
      exact (eqt_kx _ _ (h.kx x) (h.kx x)).mpr rfl
theorem ddup_len : ∀ xs : List α, (ddup e xs).length ≤ xs.length
  | [] => Nat.le_refl _
  | x :: xs => by
    have := ddup_len xs
    unfold ddup
    split
    · rw [List.length_cons]; omega
    · rw [List.length_cons, List.length_cons]; omega
theorem KE.ddup_self (h : KE e) : ∀ {xs : List α}, xs.Nodup → ddup e xs = xs
  | [], _ => rfl
  | x :: xs, nd => by
    obtain ⟨n1, n2⟩ := List.nodup_cons.mp nd
    unfold ddup
    rw [if_neg, KE.ddup_self h n2]
    intro q
    obtain ⟨u, hu, w⟩ := List.any_eq_true.mp q
    have := h.inj _ _ ((eqt_kx _ _ (h.kx x) (h.kx u)).mp w)
    subst this
    exact n1 (h.ddup_mem.mp hu)
theorem KE.srtU_mem (h : KE e) {xs : List α} {a : α} : a ∈ srtU e xs ↔ a ∈ xs := srt_mem.trans h.ddup_mem
theorem KE.srtU_nodup (h : KE e) (xs : List α) : (srtU e xs).Nodup := (srt_perm _).nodup_iff.mpr (h.ddup_nodup xs)
theorem srtU_len (xs : List α) : (srtU e xs).length ≤ xs.length := by
  unfold srtU
  rw [srt_len]
  exact ddup_len xs
/-- can be sorted -/
structure SE (e : α → T) (P : α → Prop) : Prop where
  ke : KE e
  srt : ∀ xs : List α, (∀ x ∈ xs, P x) → sortOk (xs.map e) = true
theorem se_str : SE T.str fun _ => True := ⟨ke_str, fun xs _ => sortOk_strs xs⟩
theorem se_fam : SE famT fun f => f ≠ [] := ⟨ke_fam, fun xs h => sortOk_of_tups (fun f _ => ke_fam.okd f) (fun f _ g _ => fam_alk f g) fun f hf => by
  cases q : f with
  | nil => exact absurd q (h f hf)
  | cons a b => exact ⟨_, _, rfl⟩⟩
theorem se_fk : SE fkT fun _ => True := ⟨ke_fk, fun xs _ => sortOk_of_tups (fun f _ => ke_fk.okd f) (fun f _ g _ => rfl) fun f _ => ⟨_, _, rfl⟩⟩
theorem se_kin : SE kinT fun _ => True := ⟨ke_kin, fun xs _ => sortOk_of_tups (fun f _ => ke_kin.okd f) (fun f _ g _ => kin_alk f g) fun f _ => ⟨_, _, rfl⟩⟩
variable {P : α → Prop}
theorem SE.sorted (h : SE e P) {xs : List α} (hp : ∀ x ∈ xs, P x) (hl : xs.length ≤ sizeLine) : sortedF emp [.lst (xs.map e)] = some (.lst ((TL.srt e xs).map e)) ∧ sortedF emp [.tup (xs.map e)] = some (.lst ((TL.srt e xs).map e)) := by
  constructor
  · rw [sortedF_lst, h.srt xs hp, List.length_map, decide_eq_true hl, Bool.and_self, if_pos rfl, srt_map]
  · rw [sortedF_tup, h.srt xs hp, List.length_map, decide_eq_true hl, Bool.and_self, if_pos rfl, srt_map]
theorem SE.rise (h : SE e P) {xs : List α} (hp : ∀ x ∈ xs, P x) (nd : xs.Nodup) : Rise ((TL.srt e xs).map e) := by
  rw [← srt_map]
  exact rise_sort (h.ke.kxs xs) (h.srt xs hp) (nodup_map h.ke.inj nd)
theorem SE.riseU (h : SE e P) {xs : List α} (hp : ∀ x ∈ xs, P x) : Rise ((srtU e xs).map e) := h.rise (fun x hx => hp x (h.ke.ddup_mem.mp hx)) (h.ke.ddup_nodup xs)
theorem SE.sset (h : SE e P) {xs : List α} (hp : ∀ x ∈ xs, P x) (ht : ∀ x, isTup (e x) = true) (hl : xs.length ≤ 62) : ssetT emp (.lst (xs.map e)) = some (.lst ((srtU e xs).map e)) ∧ ssetT emp (.tup (xs.map e)) = some (.lst ((srtU e xs).map e)) := by
  have so := setOk_tups (f := e) (xs := xs) (fun x _ => h.ke.kx x) (fun x _ => ht x) (fun x _ => h.ke.dp x) hl
  have st := h.srt xs hp
  constructor
  · rw [ssetT_lst, so, st, Bool.and_self, if_pos rfl, srtU_map]
  · rw [ssetT_tup, so, st, Bool.and_self, if_pos rfl, srtU_map]
theorem SE.slen (h : SE e P) {xs : List α} (ht : ∀ x, isTup (e x) = true) (hl : xs.length ≤ 62) : slenT emp (.lst (xs.map e)) = some (.int (ddup e xs).length) ∧ slenT emp (.tup (xs.map e)) = some (.int (ddup e xs).length) := by
  have so := setOk_tups (f := e) (xs := xs) (fun x _ => h.ke.kx x) (fun x _ => ht x) (fun x _ => h.ke.dp x) hl
  constructor
  · rw [slenT_lst, so, if_pos rfl, ddup_map, List.length_map]
  · rw [slenT_tup, so, if_pos rfl, ddup_map, List.length_map]
theorem SE.slenD (h : SE e P) {xs : List α} (ht : ∀ x, isTup (e x) = true) (hl : (ddup e xs).length ≤ 62) : slenT emp (.lst (xs.map e)) = some (.int (ddup e xs).length) ∧ slenT emp (.tup (xs.map e)) = some (.int (ddup e xs).length) := by
  have so : setOk (xs.map e) = true := by
    unfold setOk
    simp only [Bool.and_eq_true, Bool.or_eq_true, decide_eq_true_eq]
    refine ⟨h.ke.kxs xs, .inl ⟨List.all_eq_true.mpr fun t ht' => ?_, deps_le fun t ht' => ?_, by rw [ddup_map, List.length_map]; exact hl⟩⟩
    · obtain ⟨a, ha, rfl⟩ := List.mem_map.mp ht'
      exact ht a
    · obtain ⟨a, ha, rfl⟩ := List.mem_map.mp ht'
      exact h.ke.dp a
  constructor
  · rw [slenT_lst, so, if_pos rfl, ddup_map, List.length_map]
  · rw [slenT_tup, so, if_pos rfl, ddup_map, List.length_map]
theorem SE.ssetD (h : SE e P) {xs : List α} (hp : ∀ x ∈ xs, P x) (ht : ∀ x, isTup (e x) = true) (hl : (ddup e xs).length ≤ 62) : ssetT emp (.lst (xs.map e)) = some (.lst ((srtU e xs).map e)) ∧ ssetT emp (.tup (xs.map e)) = some (.lst ((srtU e xs).map e)) := by
  have so : setOk (xs.map e) = true := by
    unfold setOk
    simp only [Bool.and_eq_true, Bool.or_eq_true, decide_eq_true_eq]
    refine ⟨h.ke.kxs xs, .inl ⟨List.all_eq_true.mpr fun t ht' => ?_, deps_le fun t ht' => ?_, by rw [ddup_map, List.length_map]; exact hl⟩⟩
    · obtain ⟨a, ha, rfl⟩ := List.mem_map.mp ht'
      exact ht a
    · obtain ⟨a, ha, rfl⟩ := List.mem_map.mp ht'
      exact h.ke.dp a
  have st := h.srt xs hp
  constructor
  · rw [ssetT_lst, so, st, Bool.and_self, if_pos rfl, srtU_map]
  · rw [ssetT_tup, so, st, Bool.and_self, if_pos rfl, srtU_map]
theorem KE.ddup_app (h : KE e) (xs : List α) (x : α) : (ddup e (xs ++ [x])).length ≤ (ddup e xs).length + 1 := by
  have := nodup_le (h.ddup_nodup (xs ++ [x])) (m := ddup e xs ++ [x]) fun y hy => by
    rcases List.mem_append.mp (h.ddup_mem.mp hy) with z | z
    · exact List.mem_append_left _ (h.ddup_mem.mpr z)
    · exact List.mem_append_right _ z
  rw [List.length_append] at this
  exact this
theorem setOk_strs {xs : List Nm} (hl : xs.length + 2 < scanBound) : setOk (xs.map T.str) = true := by
  unfold setOk
  rw [kxs_strs, show (xs.map T.str).all isScan = true from List.all_eq_true.mpr fun t ht => by obtain ⟨x, _, rfl⟩ := List.mem_map.mp ht; rfl, List.length_map, decide_eq_true hl]
  simp
theorem sset_strs {xs : List Nm} (hl : xs.length + 2 < scanBound) : ssetT emp (.lst (xs.map T.str)) = some (.lst ((srtU T.str xs).map T.str)) ∧ ssetT emp (.tup (xs.map T.str)) = some (.lst ((srtU T.str xs).map T.str)) := by
  constructor
  · rw [ssetT_lst, setOk_strs hl, sortOk_strs, Bool.and_self, if_pos rfl, srtU_map]
  · rw [ssetT_tup, setOk_strs hl, sortOk_strs, Bool.and_self, if_pos rfl, srtU_map]
/-- two rising rows of the same things are one -/
theorem rise_ext : ∀ {xs ys : List T}, Rise xs → Rise ys → (∀ a, a ∈ xs ↔ a ∈ ys) → (∀ a ∈ xs, ∀ b ∈ xs, ltt a b = true → ltt b a = false) → xs = ys
  | [], [], _, _, _, _ => rfl
  | [], y :: ys, _, _, h, _ => by have := (h y).mpr List.mem_cons_self; cases this
  | x :: xs, [], _, _, h, _ => by have := (h x).mp List.mem_cons_self; cases this
  | x :: xs, y :: ys, h1, h2, h, as => by
    obtain ⟨a1, a2⟩ := List.pairwise_cons.mp h1
    obtain ⟨b1, b2⟩ := List.pairwise_cons.mp h2
    have e : x = y := by
      rcases List.mem_cons.mp ((h x).mp List.mem_cons_self) with z | z
      · exact z
      rcases List.mem_cons.mp ((h y).mpr List.mem_cons_self) with w | w
      · exact w.symm
      have p := a1 y w
      have q := b1 x z
      have := as x List.mem_cons_self y (List.mem_cons_of_mem _ w) p
      rw [q] at this
      cases this
    subst e
    have irr : ∀ a ∈ x :: xs, ltt a a = false := fun a ha => by
      cases q : ltt a a with
      | false => rfl
      | true =>
        have := as a ha a ha q
        rw [q] at this
        exact this
    rw [rise_ext a2 b2 (fun a => ⟨fun ha => ?_, fun ha => ?_⟩) fun a ha b hb => as a (List.mem_cons_of_mem _ ha) b (List.mem_cons_of_mem _ hb)]
    · rcases List.mem_cons.mp ((h a).mp (List.mem_cons_of_mem _ ha)) with z | z
      · subst z
        have := a1 a ha
        rw [irr a List.mem_cons_self] at this
        cases this
      · exact z
    · rcases List.mem_cons.mp ((h a).mpr (List.mem_cons_of_mem _ ha)) with z | z
      · subst z
        have := b1 a ha
        rw [irr a List.mem_cons_self] at this
        cases this
      · exact z
theorem ltt_asym {x y : T} (kx1 : TL.kx x = true) (ky : TL.kx y = true) (al : TL.alk x y = true) (nx : x ≠ .non) (ny : y ≠ .non) (h : ltt x y = true) : ltt y x = false := by
  have d1 := ltt_dat x y (kx_plain _ kx1) (kx_plain _ ky) al nx
  have d2 := ltt_dat y x (kx_plain _ ky) (kx_plain _ kx1) (by rw [alk_symm]; exact al) ny
  cases q : ltt y x with
  | false => rfl
  | true =>
    rw [h] at d1
    rw [q] at d2
    have := lex_trans _ _ _ d1 d2
    rw [lex_irrefl] at this
    cases this
theorem KE.rise_ext (h : KE e) (hn : ∀ a, e a ≠ .non) {xs ys : List α} (h1 : Rise (xs.map e)) (h2 : Rise (ys.map e)) (hm : ∀ a, a ∈ xs ↔ a ∈ ys) : xs = ys := by
  refine (List.map_inj_right h.inj).mp (TL.rise_ext h1 h2 (fun t => ?_) fun a ha b hb hl => ?_)
  · simp only [List.mem_map]
    exact ⟨fun ⟨a, ha, q⟩ => ⟨a, (hm a).mp ha, q⟩, fun ⟨a, ha, q⟩ => ⟨a, (hm a).mpr ha, q⟩⟩
  · obtain ⟨x, _, rfl⟩ := List.mem_map.mp ha
    obtain ⟨y, _, rfl⟩ := List.mem_map.mp hb
    exact ltt_asym (h.kx x) (h.kx y) (h.alk x y) (hn x) (hn y) hl
end
end TL

/-! TMg: books; more plain rules. -/
namespace TL
open PySem PySem.Spec PyProof.Rows L2
section
variable {κ α β : Type} {e : α → T}
theorem gdc_T : gdc (κ := κ) True = pu () := gdc_t trivial
theorem isStr_str {x : Nm} : isStr (.str x) = true := rfl
theorem isTup_tup {x : List T} : isTup (.tup x) = true := rfl
theorem joinF_map {a : Nm} {xs : List Nm} : joinF emp (.str a) [.lst (xs.map T.str)] = if joinSz a xs = true then some (T.str (jnL a xs)) else none := by
  show (match strsOf (xs.map T.str) with | some xs => if joinSz a xs = true then some (T.str (jnL a xs)) else none | none => none) = _
  rw [strsOf_map]
theorem joinF_mapT {a : Nm} {xs : List Nm} : joinF emp (.str a) [.tup (xs.map T.str)] = if joinSz a xs = true then some (T.str (jnL a xs)) else none := by
  show (match strsOf (xs.map T.str) with | some xs => if joinSz a xs = true then some (T.str (jnL a xs)) else none | none => none) = _
  rw [strsOf_map]
theorem joinF_l {a : Nm} {ts : List T} : joinF emp (.str a) [.lst ts] = (strsOf ts).bind fun xs => if joinSz a xs = true then some (T.str (jnL a xs)) else none := by
  show (match strsOf ts with | some xs => if joinSz a xs = true then some (T.str (jnL a xs)) else none | none => none) = _
  cases strsOf ts <;> rfl
theorem joinF_t {a : Nm} {ts : List T} : joinF emp (.str a) [.tup ts] = (strsOf ts).bind fun xs => if joinSz a xs = true then some (T.str (jnL a xs)) else none := by
  show (match strsOf ts with | some xs => if joinSz a xs = true then some (T.str (jnL a xs)) else none | none => none) = _
  cases strsOf ts <;> rfl
theorem strsOf_nil : strsOf [] = some [] := rfl
theorem strsOf_cons {x : Nm} {ts : List T} : strsOf (.str x :: ts) = (strsOf ts).map (x :: ·) := rfl
theorem extM_l {xs zs : List T} : extM (κ := κ) xs (.lst zs) = bd (gdc (xs.length + zs.length ≤ sizeLine)) fun _ => pu (xs ++ zs) := by
  show bd (gd _) _ = _
  rw [gd_c]
theorem appM_c {xs : List T} {y : T} : appM (κ := κ) xs y = bd (gdc (xs.length < sizeLine)) fun _ => pu (xs ++ [y]) := by
  unfold appM
  rw [gd_c]
theorem gdc_e {b : Prop} {f : Unit → PM κ α} {m : PM κ α} (h : b) (h2 : f () = m) : bd (gdc b) f = m := by rw [gdc_b h, h2]
theorem forR_all {σ : Type} {f : T → σ → PM κ (Fl σ)} {xs : List T} {s : σ} (h : ∀ x ∈ xs, f x s = pu (.nx s)) : forR f xs s = pu (.inl s) := by rw [forR_A]; exact forRA_all xs s h
theorem joinSz_ok {a : Nm} {xs : List Nm} {k : Nat} (h : ∀ x ∈ xs, x.length ≤ k) (h2 : xs.length * (k + a.length) ≤ 1000000) : joinSz a xs = true := by
  have : (xs.map (·.length)).sum ≤ xs.length * k := by
    clear h2
    induction xs with
    | nil => exact Nat.zero_le _
    | cons x xs ih =>
      have a1 := h x List.mem_cons_self
      have a2 := ih fun y hy => h y (List.mem_cons_of_mem _ hy)
      rw [List.map_cons, List.sum_cons, List.length_cons, Nat.succ_mul]
      omega
  rw [Nat.mul_add] at h2
  show decide ((xs.map fun x => x.length).sum + xs.length * a.length ≤ 1000000) = true
  exact decide_eq_true (by omega)
theorem ix_map {xs : List α} {i : Int} (h0 : 0 ≤ i) (h1 : i < xs.length) : ∃ a, a ∈ xs ∧ ixT emp (.lst (xs.map e)) (.int i) = some (e a) ∧ ixT emp (.tup (xs.map e)) (.int i) = some (e a) := by
  obtain ⟨a, ha, q⟩ := atI_map_getD (f := e) h0 h1
  exact ⟨a, ha, q, q⟩
/-- an item of a written row -/
theorem ix_0 {a : T} {xs : List T} : ixT emp (.lst (a :: xs)) (.int 0) = some a ∧ ixT emp (.tup (a :: xs)) (.int 0) = some a := ⟨atI_0, atI_0⟩
theorem neT_nilL {xs : List α} (h : KE e) : neT emp (.lst (xs.map e)) (.lst []) = some (.bl (!xs.isEmpty)) := by
  have := neT_nil (S := emp) (z := .lst (xs.map e)) (ts := xs.map e) rfl (h.okds xs).1
  rw [this]
  cases xs <;> rfl
theorem eqT_nilL {xs : List α} (h : KE e) : eqT emp (.lst (xs.map e)) (.lst []) = some (.bl xs.isEmpty) := by
  show (if (okd (.lst (xs.map e)) && okd (.lst [])) = true then some (T.bl (eqt (.lst (xs.map e)) (.lst []))) else none) = _
  rw [(h.okds xs).1]
  show some (T.bl (eqts (xs.map e) [])) = _
  rw [eqts_nil]
  cases xs <;> rfl
theorem jn_ones (cs : List Sg) : jnL [] (cs.map fun c => [c]) = cs := by
  cases cs with
  | nil => rfl
  | cons c cs =>
    show [c] ++ ((cs.map fun c => [c]).map ([] ++ ·)).flatten = c :: cs
    have : ((cs.map fun c => [c]).map (([] : List Sg) ++ ·)).flatten = cs := by
      rw [List.map_map]
      induction cs with
      | nil => rfl
      | cons d ds ih => rw [List.map_cons, List.flatten_cons, ih]; rfl
    rw [this]
    rfl
theorem at_ones {x : Nm} {i : Int} (h0 : 0 ≤ i) (h1 : i < x.length) (h2 : x.length ≤ sizeLine) : ∃ c, c ∈ x ∧ ixT emp (.str x) (.int i) = some (.str [c]) := by
  obtain ⟨c, hc, q⟩ := atI_mem h0 h1
  exact ⟨c, hc, by rw [ixT_str, if_pos h2, q]; rfl⟩
theorem sl_take {x : Nm} {k : Nat} (h : x.length ≤ sizeLine) : slT emp (.str x) none (some (k : Int)) = some (.str (x.take k)) := by
  rw [slT_str, if_pos h, cut_to]
theorem slL_take {xs : List T} {k : Nat} : slT emp (.lst xs) none (some (k : Int)) = some (.lst (xs.take k)) := by rw [slT_lst, cut_to]
theorem ix_pick2 {a b : T} {d : Int} (h : d = 0 ∨ d = 1) : ∃ v, ixT emp (.lst [a, b]) (.int d) = some v ∧ (v = a ∨ v = b) := by
  rcases h with rfl | rfl
  · exact ⟨a, rfl, .inl rfl⟩
  · exact ⟨b, rfl, .inr rfl⟩
end
theorem pick2i {a b : Int} {c : Prop} [Decidable c] (lo hi : Int) (ha : lo ≤ a ∧ a ≤ hi) (hb : lo ≤ b ∧ b ≤ hi) : ∃ k : Int, L2.atI [T.int a, .int b] (if c then 1 else 0) = some (.int k) ∧ lo ≤ k ∧ k ≤ hi := by
  by_cases h : c
  · rw [if_pos h]; exact ⟨b, rfl, hb⟩
  · rw [if_neg h]; exact ⟨a, rfl, ha⟩
theorem famOk_sub {n1 n2 : List Nm} {f : List Nm} (h : FamOk n1 f) (s : ∀ x ∈ n1, x ∈ n2) : FamOk n2 f := ⟨h.lo, h.hi, h.rise, h.nd, fun x hx => s x (h.mem x hx)⟩
theorem kinOk_sub {n1 n2 : List Nm} {u : List (List Nm)} {b : Nm × List Nm} (h : KinOk n1 u b) (s : ∀ x ∈ n1, x ∈ n2) : KinOk n2 u b := ⟨s _ h.kid, h.fam, h.own⟩
/-! ### books -/
structure Bk where
  folk : List (Nm × Nm)
  unions : List (List Nm)
  births : List (Nm × List Nm)
  adopts : List (Nm × List Nm)
def bkT (B : Bk) : T := .tup [.tup (B.folk.map fkT), .tup (B.unions.map famT), .tup (B.births.map kinT), .tup (B.adopts.map kinT)]
def Bk.names (B : Bk) : List Nm := B.folk.map (·.1)
structure BkOk (B : Bk) : Prop where
  name : ∀ x ∈ B.folk, NameOk x.1 ∧ x.2 ∈ MKS
  nd : B.names.Nodup
  rf : Rise (B.folk.map fkT)
  lf : B.folk.length ≤ 16
  un : ∀ f ∈ B.unions, FamOk B.names f
  ru : Rise (B.unions.map famT)
  lu : B.unions.length ≤ 16
  bi : ∀ b ∈ B.births, KinOk B.names B.unions b
  rb : Rise (B.births.map kinT)
  lb : B.births.length ≤ 24
  ad : ∀ b ∈ B.adopts, KinOk B.names B.unions b
  ra : Rise (B.adopts.map kinT)
  la : B.adopts.length ≤ 12
def emptyBk : Bk := ⟨[], [], [], []⟩
theorem empty_ok : BkOk emptyBk := ⟨nofun, List.nodup_nil, List.Pairwise.nil, by decide, nofun, List.Pairwise.nil, by decide, nofun, List.Pairwise.nil, by decide, nofun, List.Pairwise.nil, by decide⟩
theorem wmo_pick {d : Int} (h0 : 0 ≤ d) (h1 : d < 3) : ∃ w, w ∈ MKS ∧ ixT emp (.str (q "wmo")) (.int d) = some (.str w) := by
  obtain ⟨n, rfl⟩ := Int.eq_ofNat_of_zero_le h0
  have h : n < 3 := by omega
  refine ⟨MKS.getD n [], ?_, wmo_at h⟩
  match n, h with
  | 0, _ => decide +kernel
  | 1, _ => decide +kernel
  | 2, _ => decide +kernel
section
variable {B : Bk} (h : BkOk B)
include h
theorem BkOk.nm {x : Nm} (hx : x ∈ B.names) : NameOk x := by
  obtain ⟨p, hp, rfl⟩ := List.mem_map.mp hx
  exact (h.name p hp).1
theorem BkOk.nlen {x : Nm} (hx : x ∈ B.names) : x.length ≤ 8 := (h.nm hx).2.1
theorem BkOk.mlen {p : Nm × Nm} (hp : p ∈ B.folk) : p.2.length = 1 := MKS_len _ (h.name p hp).2
theorem BkOk.flen {f : List Nm} (hf : f ∈ B.unions) : f.length ≤ 2 ∧ 1 ≤ f.length ∧ ∀ x ∈ f, x.length ≤ 8 := ⟨(h.un f hf).hi, (h.un f hf).lo, fun x hx => h.nlen ((h.un f hf).mem x hx)⟩
end
end TL

/-! TMh: books' lines. -/
namespace TL
open PySem PySem.Spec PyProof.Rows L2
def lineF (x : Nm × Nm) : Nm := q "folk " ++ x.1 ++ q " " ++ x.2
def lineU (f : List Nm) : Nm := jnL (q " ") (q "union" :: f)
def lineK (w : Nm) (b : Nm × List Nm) : Nm := jnL (q " ") (w :: b.1 :: q "of" :: b.2)
def linesL (B : Bk) : List Nm := B.folk.map lineF ++ B.unions.map lineU ++ B.births.map (lineK (q "born")) ++ B.adopts.map (lineK (q "adopted"))
theorem wl : (q "folk ").length = 5 ∧ (q "folk").length = 4 ∧ (q " ").length = 1 ∧ (q "union").length = 5 ∧ (q "born").length = 4 ∧ (q "adopted").length = 7 ∧ (q "of").length = 2 ∧ (q "\n").length = 1 := by decide +kernel
structure Lens (B : Bk) : Prop where
  f : ∀ a ∈ B.folk, a.1.length ≤ 8 ∧ a.2.length = 1
  u : ∀ a ∈ B.unions, a.length ≤ 2 ∧ ∀ x ∈ a, x.length ≤ 8
  b : ∀ a ∈ B.births, a.1.length ≤ 8 ∧ a.2.length ≤ 2 ∧ ∀ x ∈ a.2, x.length ≤ 8
  a : ∀ a ∈ B.adopts, a.1.length ≤ 8 ∧ a.2.length ≤ 2 ∧ ∀ x ∈ a.2, x.length ≤ 8
theorem BkOk.lens {B : Bk} (h : BkOk B) : Lens B where
  f a ha := ⟨h.nlen (List.mem_map_of_mem ha), h.mlen ha⟩
  u a ha := ⟨(h.flen ha).1, (h.flen ha).2.2⟩
  b a ha := ⟨h.nlen (h.bi a ha).kid, (h.flen (h.bi a ha).fam).1, (h.flen (h.bi a ha).fam).2.2⟩
  a a ha := ⟨h.nlen (h.ad a ha).kid, (h.flen (h.ad a ha).fam).1, (h.flen (h.ad a ha).fam).2.2⟩
theorem szU {f : List Nm} (h1 : f.length ≤ 2) (h2 : ∀ x ∈ f, x.length ≤ 8) : joinSz (q " ") (q "union" :: f) = true := joinSz_ok (k := 8) (fun x hx => by
  rcases List.mem_cons.mp hx with z | z
  · rw [z, wl.2.2.2.1]; omega
  · exact h2 x z) (by rw [wl.2.2.1, List.length_cons]; omega)
theorem szK {w : Nm} {c : Nm} {f : List Nm} (hw : w.length ≤ 8) (hc : c.length ≤ 8) (h1 : f.length ≤ 2) (h2 : ∀ x ∈ f, x.length ≤ 8) : joinSz (q " ") (w :: c :: q "of" :: f) = true := joinSz_ok (k := 8) (fun x hx => by
  simp only [List.mem_cons] at hx
  rcases hx with z | z | z | z
  · rw [z]; omega
  · rw [z]; omega
  · rw [z, wl.2.2.2.2.2.2.1]; omega
  · exact h2 x z) (by rw [wl.2.2.1]; simp only [List.length_cons]; omega)
theorem lineF_jn (x : Nm × Nm) : jnL (q " ") [q "folk", x.1, x.2] = lineF x := by
  have e : q "folk " = q "folk" ++ q " " := by decide +kernel
  unfold lineF
  rw [e]
  simp [jnL]
theorem jn_len (a x : Nm) (xs : List Nm) {k : Nat} (h : ∀ y ∈ xs, y.length ≤ k) : (jnL a (x :: xs)).length ≤ x.length + xs.length * (a.length + k) := by
  show (x ++ (xs.map (a ++ ·)).flatten).length ≤ _
  rw [List.length_append]
  have : ((xs.map (a ++ ·)).flatten).length ≤ xs.length * (a.length + k) := by
    induction xs with
    | nil => exact Nat.zero_le _
    | cons y ys ih =>
      have a1 := h y List.mem_cons_self
      have a2 := ih fun z hz => h z (List.mem_cons_of_mem _ hz)
      rw [List.map_cons, List.flatten_cons, List.length_append, List.length_append, List.length_cons, Nat.succ_mul]
      omega
  omega
theorem line_len {B : Bk} (h : BkOk B) : ∀ x ∈ linesL B, x.length ≤ 60 := by
  obtain ⟨w1, w2, w3, w4, w5, w6, w7, w8⟩ := wl
  have L := h.lens
  intro x hx
  unfold linesL at hx
  simp only [List.mem_append, List.mem_map] at hx
  rcases hx with ((⟨a, ha, rfl⟩ | ⟨a, ha, rfl⟩) | ⟨a, ha, rfl⟩) | ⟨a, ha, rfl⟩
  · have := L.f a ha
    unfold lineF
    simp only [List.length_append]
    omega
  · have t := L.u a ha
    have := jn_len (q " ") (q "union") a (k := 8) t.2
    unfold lineU
    rw [w3, w4] at this
    omega
  · have t := L.b a ha
    have := jn_len (q " ") (q "born") (a.1 :: q "of" :: a.2) (k := 8) (fun y hy => by
      simp only [List.mem_cons] at hy
      rcases hy with z | z | z
      · rw [z]; exact t.1
      · rw [z]; omega
      · exact t.2.2 y z)
    unfold lineK
    rw [w3, w5] at this
    simp only [List.length_cons] at this
    omega
  · have t := L.a a ha
    have := jn_len (q " ") (q "adopted") (a.1 :: q "of" :: a.2) (k := 8) (fun y hy => by
      simp only [List.mem_cons] at hy
      rcases hy with z | z | z
      · rw [z]; exact t.1
      · rw [z]; omega
      · exact t.2.2 y z)
    unfold lineK
    rw [w3, w6] at this
    simp only [List.length_cons] at this
    omega
theorem lines_len {B : Bk} (h : BkOk B) : (linesL B).length ≤ 68 := by
  have l1 := h.lf; have l2 := h.lu; have l3 := h.lb; have l4 := h.la
  unfold linesL
  simp only [List.length_append, List.length_map]
  omega
def textL (B : Bk) : Nm := jnL (q "\n") (linesL B)
theorem szT {B : Bk} (h : BkOk B) : joinSz (q "\n") (linesL B) = true := joinSz_ok (k := 60) (line_len h) (by
  have := lines_len h
  rw [wl.2.2.2.2.2.2.2]
  omega)
theorem kis_non_non : Kd.non.is .non = true := by decide
theorem kis_non_bool : Kd.non.is .bool = false := by decide
theorem kis_non_int : Kd.non.is .int = false := by decide
theorem kis_non_str : Kd.non.is .str = false := by decide
theorem kis_non_tup : Kd.non.is .tup = false := by decide
theorem kis_non_lst : Kd.non.is .lst = false := by decide
theorem kis_non_dct : Kd.non.is .dct = false := by decide
theorem kis_bool_non : Kd.bool.is .non = false := by decide
theorem kis_bool_bool : Kd.bool.is .bool = true := by decide
theorem kis_bool_int : Kd.bool.is .int = true := by decide
theorem kis_bool_str : Kd.bool.is .str = false := by decide
theorem kis_bool_tup : Kd.bool.is .tup = false := by decide
theorem kis_bool_lst : Kd.bool.is .lst = false := by decide
theorem kis_bool_dct : Kd.bool.is .dct = false := by decide
theorem kis_int_non : Kd.int.is .non = false := by decide
theorem kis_int_bool : Kd.int.is .bool = false := by decide
theorem kis_int_int : Kd.int.is .int = true := by decide
theorem kis_int_str : Kd.int.is .str = false := by decide
theorem kis_int_tup : Kd.int.is .tup = false := by decide
theorem kis_int_lst : Kd.int.is .lst = false := by decide
theorem kis_int_dct : Kd.int.is .dct = false := by decide
theorem kis_str_non : Kd.str.is .non = false := by decide
theorem kis_str_bool : Kd.str.is .bool = false := by decide
theorem kis_str_int : Kd.str.is .int = false := by decide
theorem kis_str_str : Kd.str.is .str = true := by decide
theorem kis_str_tup : Kd.str.is .tup = false := by decide
theorem kis_str_lst : Kd.str.is .lst = false := by decide
theorem kis_str_dct : Kd.str.is .dct = false := by decide
theorem kis_tup_non : Kd.tup.is .non = false := by decide
theorem kis_tup_bool : Kd.tup.is .bool = false := by decide
theorem kis_tup_int : Kd.tup.is .int = false := by decide
theorem kis_tup_str : Kd.tup.is .str = false := by decide
theorem kis_tup_tup : Kd.tup.is .tup = true := by decide
theorem kis_tup_lst : Kd.tup.is .lst = false := by decide
theorem kis_tup_dct : Kd.tup.is .dct = false := by decide
theorem kis_lst_non : Kd.lst.is .non = false := by decide
theorem kis_lst_bool : Kd.lst.is .bool = false := by decide
theorem kis_lst_int : Kd.lst.is .int = false := by decide
theorem kis_lst_str : Kd.lst.is .str = false := by decide
theorem kis_lst_tup : Kd.lst.is .tup = false := by decide
theorem kis_lst_lst : Kd.lst.is .lst = true := by decide
theorem kis_lst_dct : Kd.lst.is .dct = false := by decide
theorem kis_dct_non : Kd.dct.is .non = false := by decide
theorem kis_dct_bool : Kd.dct.is .bool = false := by decide
theorem kis_dct_int : Kd.dct.is .int = false := by decide
theorem kis_dct_str : Kd.dct.is .str = false := by decide
theorem kis_dct_tup : Kd.dct.is .tup = false := by decide
theorem kis_dct_lst : Kd.dct.is .lst = false := by decide
theorem kis_dct_dct : Kd.dct.is .dct = true := by decide
theorem isi_bl {S : Sto} {ks : List Kd} {b : Bool} : isiT ks S (.bl b) = some (.bl (ks.any fun c => Kd.is .bool c)) := rfl
theorem isi_non {S : Sto} {ks : List Kd} : isiT ks S .non = some (.bl (ks.any fun c => Kd.is .non c)) := rfl
/-- a loop that gathers -/
theorem forA_filter {κ α : Type} {p : α → Prop} [DecidablePred p] {f : α → T} : ∀ (xs : List α) (s : List T), s.length + xs.length ≤ sizeLine → forA (κ := κ) (fun x s => if p x then bd (gdc (s.length < sizeLine)) fun _ => pu (s ++ [f x]) else pu s) xs s = pu (s ++ (xs.filter fun x => decide (p x)).map f)
  | [], s, _ => by simp [forA]
  | x :: xs, s, h => by
    rw [List.length_cons] at h
    show bd (if p x then _ else _) _ = _
    by_cases hp : p x
    · rw [if_pos hp, gdc_t (by omega), pu_bd, pu_bd, forA_filter xs _ (by simp; omega), List.filter_cons_of_pos (by simpa using hp)]
      simp
    · rw [if_neg hp, pu_bd, forA_filter xs _ (by omega), List.filter_cons_of_neg (by simpa using hp)]
theorem forA_ext {κ α : Type} {f g : α → T → PM κ T} : True := trivial
theorem compA_ifo {κ α : Type} {p : α → Prop} [DecidablePred p] {g : α → T} (xs : List α) : compA (κ := κ) (fun a => pu (if p a then some (g a) else none)) xs = pu ((xs.filter fun a => decide (p a)).map g) := by
  rw [← compA_if]
  congr
  funext a
  split <;> rfl
/-- the families by which somebody is born -/
def Bk.fams (B : Bk) (n : Nm) : List (List Nm) := (B.births.filter fun b => decide (b.1 = n)).map (·.2)
def dbT (d : Nm × List (List Nm)) : T := .tup [.str d.1, .tup (d.2.map famT)]
def Bk.dbs (B : Bk) : List (Nm × List (List Nm)) := (B.names.filter fun n => decide (1 < (B.fams n).length)).map fun n => (n, B.fams n)
theorem nodup_of_map {α β : Type} {f : α → β} {l : List α} (h : (l.map f).Nodup) : l.Nodup := (List.pairwise_map.mp h).imp fun hne e => hne (by rw [e])
/-! data -/
inductive Dt : Nat → T → Prop
  | str (n : Nat) (x : Nm) : Dt n (.str x)
  | int (n : Nat) (i : Int) : Dt n (.int i)
  | bl (n : Nat) (b : Bool) : Dt n (.bl b)
  | tup {n : Nat} {xs : List T} : (∀ x ∈ xs, Dt n x) → xs.length ≤ 100000 → Dt (n + 1) (.tup xs)
  | lst {n : Nat} {xs : List T} : (∀ x ∈ xs, Dt n x) → xs.length ≤ 100000 → Dt (n + 1) (.lst xs)
theorem Dt.up : ∀ {n : Nat} {t : T}, Dt n t → Dt (n + 1) t
  | _, _, .str n x => .str _ x
  | _, _, .int n x => .int _ x
  | _, _, .bl n x => .bl _ x
  | _, _, .tup h l => .tup (fun x hx => Dt.up (h x hx)) l
  | _, _, .lst h l => .lst (fun x hx => Dt.up (h x hx)) l
theorem Dt.le {n m : Nat} {t : T} (h : Dt n t) (k : n ≤ m) : Dt m t := by
  induction k with
  | refl => exact h
  | step _ ih => exact ih.up
theorem dt_fam (f : List Nm) (h : f.length ≤ 100000) : Dt 1 (famT f) := .tup (fun x hx => by obtain ⟨a, _, rfl⟩ := List.mem_map.mp hx; exact .str _ _) (by rw [List.length_map]; exact h)
theorem dt_map {α : Type} {e : α → T} {n : Nat} {xs : List α} (h : ∀ x ∈ xs, Dt n (e x)) (l : xs.length ≤ 100000) : Dt (n + 1) (.tup (xs.map e)) ∧ Dt (n + 1) (.lst (xs.map e)) :=
  ⟨.tup (fun x hx => by obtain ⟨a, ha, rfl⟩ := List.mem_map.mp hx; exact h a ha) (by rw [List.length_map]; exact l), .lst (fun x hx => by obtain ⟨a, ha, rfl⟩ := List.mem_map.mp hx; exact h a ha) (by rw [List.length_map]; exact l)⟩
theorem blsOf_rep (n : Nat) : blsOf (List.replicate n (T.bl true)) = some (List.replicate n true) := by
  induction n with
  | zero => rfl
  | succ n ih => rw [List.replicate_succ, List.replicate_succ]; unfold blsOf; rw [ih]; rfl
theorem all_true {α : Type} (xs : List α) : allF emp [.lst (xs.map fun _ => T.bl true)] = some (.bl true) := by
  have : xs.map (fun _ => T.bl true) = List.replicate xs.length (T.bl true) := by
    induction xs with
    | nil => rfl
    | cons x xs ih => rw [List.map_cons, ih, List.length_cons, List.replicate_succ]
  rw [this]
  show (blsOf (List.replicate xs.length (T.bl true))).map (fun bs => T.bl (bs.all id)) = _
  rw [blsOf_rep]
  simp
end TL

/-! TMi: dicts by texts; parents of books. -/
namespace TL
open PySem PySem.Spec PyProof.Rows L2
theorem kyT_str {x : Nm} : kyT (.str x) = some (.inr (txt x)) := rfl
theorem kyT_int {i : Int} : kyT (.int i) = some (.inl i) := rfl
theorem txt_iff {x y : Nm} : (some (.inr (txt x) : Key) = some (.inr (txt y))) ↔ x = y := by
  constructor
  · intro h
    injection h with h
    injection h with h
    exact txt_inj h
  · rintro rfl; rfl
theorem dHs_strs (x : Nm) : ∀ xs : List Nm, dHs (xs.map T.str) (.inr (txt x)) = decide (x ∈ xs)
  | [] => rfl
  | y :: ys => by
    rw [List.map_cons]
    unfold dHs
    rw [dHs_strs x ys, kyT_str]
    by_cases h : y = x
    · subst h; rw [if_pos rfl]; simp
    · rw [if_neg fun z => h (txt_iff.mp z)]
      have h' : x ≠ y := fun z => h z.symm
      simp [h']
theorem dLk_strs {F : Nm → T} {x : Nm} : ∀ {xs : List Nm}, x ∈ xs → dLk (xs.map T.str) (xs.map F) (.inr (txt x)) = some (F x)
  | [], h => by cases h
  | y :: ys, h => by
    rw [List.map_cons, List.map_cons]
    unfold dLk
    rw [kyT_str]
    by_cases e : y = x
    · subst e; rw [if_pos rfl]
    · rw [if_neg fun z => e (txt_iff.mp z)]
      exact dLk_strs ((List.mem_cons.mp h).resolve_left fun z => e z.symm)
theorem dLk_no {x : Nm} : ∀ {xs : List Nm} {vs : List T}, x ∉ xs → dLk (xs.map T.str) vs (.inr (txt x)) = none
  | [], vs, _ => by cases vs <;> rfl
  | y :: ys, [], h => rfl
  | y :: ys, v :: vs, h => by
    rw [List.map_cons]
    unfold dLk
    rw [kyT_str, if_neg fun z => h (by rw [txt_iff.mp z]; exact List.mem_cons_self), dLk_no fun z => h (List.mem_cons_of_mem _ z)]
theorem dgT_strs {F : Nm → T} {x : Nm} {xs : List Nm} (h : x ∈ xs) : dgT emp (.dct false (xs.map T.str) (xs.map F)) (.str x) = some (F x) := by
  show dLk _ _ _ = _
  exact dLk_strs h
theorem dinT_strs {x : Nm} {xs : List Nm} {F : Nm → T} : dinT emp (.str x) (.dct false (xs.map T.str) (xs.map F)) = some (.bl (decide (x ∈ xs))) := by
  show Option.map T.bl (some (dLk _ _ _).isSome) = _
  by_cases h : x ∈ xs
  · rw [dLk_strs h, decide_eq_true h]; rfl
  · rw [dLk_no h, decide_eq_false h]; rfl
theorem dninT_strs {x : Nm} {xs : List Nm} {F : Nm → T} : dninT emp (.str x) (.dct false (xs.map T.str) (xs.map F)) = some (.bl (!decide (x ∈ xs))) := by
  show Option.map (fun b => T.bl (!b)) (some (dLk _ _ _).isSome) = _
  by_cases h : x ∈ xs
  · rw [dLk_strs h, decide_eq_true h]; rfl
  · rw [dLk_no h, decide_eq_false h]; rfl
/-- a new key -/
theorem dput_new {κ : Type} {F : Nm → T} {x : Nm} {xs : List Nm} {z : T} (h : x ∉ xs) (hl : xs.length < sizeLine) (hz : z = F x) : dputM (κ := κ) (xs.map T.str, xs.map F) (.str x) z = pu ((xs ++ [x]).map T.str, (xs ++ [x]).map F) := by
  subst hz
  show bd (gd _) _ = _
  rw [gd_c, gdc_t (by rw [List.length_map]; exact hl), pu_bd]
  unfold dPk dPv
  rw [dHs_strs, decide_eq_false h, if_neg (by simp), if_neg (by simp), List.map_append, List.map_append]
  rfl
/-! ### parents -/
def Bk.kins (B : Bk) : List (Nm × List Nm) := B.births ++ B.adopts
/-- the parents of somebody, rising, each once -/
def Bk.pars (B : Bk) (n : Nm) : List Nm := srtU T.str ((B.kins.filter fun b => decide (b.1 = n)).flatMap (·.2))
theorem BkOk.kin {B : Bk} (h : BkOk B) {b : Nm × List Nm} (hb : b ∈ B.kins) : KinOk B.names B.unions b := (List.mem_append.mp hb).elim (h.bi b) (h.ad b)
theorem BkOk.lk {B : Bk} (h : BkOk B) : B.kins.length ≤ 36 := by
  have := h.lb; have := h.la
  unfold Bk.kins
  rw [List.length_append]; omega
theorem Bk.pars_mem {B : Bk} {n x : Nm} : x ∈ B.pars n ↔ ∃ b ∈ B.kins, b.1 = n ∧ x ∈ b.2 := by
  unfold Bk.pars
  rw [ke_str.srtU_mem, List.mem_flatMap]
  constructor
  · rintro ⟨b, hb, hx⟩
    obtain ⟨h1, h2⟩ := List.mem_filter.mp hb
    exact ⟨b, h1, by simpa using h2, hx⟩
  · rintro ⟨b, hb, e, hx⟩
    exact ⟨b, List.mem_filter.mpr ⟨hb, by simpa using e⟩, hx⟩
theorem Bk.pars_rise (B : Bk) (n : Nm) : Rise ((B.pars n).map T.str) := se_str.riseU fun _ _ => trivial
theorem Bk.pars_eq {B : Bk} {n : Nm} {xs : List Nm} (h : Rise (xs.map T.str)) (hm : ∀ x, x ∈ xs ↔ ∃ b ∈ B.kins, b.1 = n ∧ x ∈ b.2) : xs = B.pars n :=
  ke_str.rise_ext (fun _ h => nomatch h) h (B.pars_rise n) fun x => (hm x).trans Bk.pars_mem.symm
theorem BkOk.pars_sub {B : Bk} (h : BkOk B) {n x : Nm} (hx : x ∈ B.pars n) : x ∈ B.names := by
  obtain ⟨b, hb, _, k⟩ := Bk.pars_mem.mp hx
  exact (h.un _ (h.kin hb).fam).mem x k
theorem BkOk.pars_len {B : Bk} (h : BkOk B) (n : Nm) : (B.pars n).length ≤ 16 := by
  have l := h.lf
  have nd : (B.pars n).Nodup := ke_str.srtU_nodup _
  have := nodup_le nd (m := B.names) fun x hx => h.pars_sub hx
  unfold Bk.names at this
  rw [List.length_map] at this
  exact Nat.le_trans this l
theorem compG_1 {κ : Type} {f : T → PM κ (Option T)} {a x : T} (h1 : f a = pu (some x)) : compG f [a] = pu [x] := by
  unfold compG
  rw [gd_c, gdc_t (by simp [sizeLine_eq])]
  show bd (nox (f a)) _ = _
  rw [h1]; rfl
theorem compG_2 {κ : Type} {f : T → PM κ (Option T)} {a b x y : T} (h1 : f a = pu (some x)) (h2 : f b = pu (some y)) : compG f [a, b] = pu [x, y] := by
  unfold compG
  rw [gd_c, gdc_t (by simp [sizeLine_eq]), pu_bd]
  show bd (nox (f a)) (fun o => bd (bd (nox (f b)) _) _) = _
  rw [h1, h2]; rfl
theorem compG_3 {κ : Type} {f : T → PM κ (Option T)} {a b c x y z : T} (h1 : f a = pu (some x)) (h2 : f b = pu (some y)) (h3 : f c = pu (some z)) : compG f [a, b, c] = pu [x, y, z] := by
  unfold compG
  rw [gd_c, gdc_t (by simp [sizeLine_eq]), pu_bd]
  show bd (nox (f a)) (fun o => bd (bd (nox (f b)) (fun o => bd (bd (nox (f c)) _) _)) _) = _
  rw [h1, h2, h3]; rfl
end TL

/-! TLzc: list(d.values()). -/
namespace TL
open PySem PySem.Spec PyProof.Rows L2

def tListVals (te : L2.TE) : L2.TE := fun σ H Q => te σ H fun x H1 => ∃ d kvs, x = .ref d ∧ Rd H1 d (.dK kvs) ∧ ∀ q, H1 q = none → Q (.ref q) (upd H1 q (.lst (kvs.map (·.2))))
section
variable {X : Cx} {e : Expr} {p apos cpos pos : Pos}
theorem pe_listVals {te : L2.TE} (hc : X.calm = true) (he : PE X e te) (hg : Gl X "list") (hm : X.mg "list" = none) (hv : bootBuiltins "list" = some (.type "list")) (hbase : attributeBase e "values" X.env (eval e X.env) = eval e X.env := by rfl) (hline : (apos.endLine == cpos.line) = true := by rfl)
    (hs : starEach [.Call (.Attribute e "values" apos) [] [] cpos] X.env = (false, eval (.Call (.Attribute e "values" apos) [] [] cpos) X.env) :: starEach [] X.env := by rfl) :
    PE X (.Call (.Name "list" p) [.Call (.Attribute e "values" apos) [] [] cpos] [] pos) (tListVals te) := by
  refine ⟨fun pins s σ H Q I hq => ?_⟩
  refine wpAny_Call_Name_kw (ld_blt I hg hm hv ?_)
  refine PyProof.Rows.callWith_type1 ?_ hs rfl
  rw [hs]
  show wpAny _ _ (spliced ((false, eval (.Call (.Attribute e "values" apos) [] [] cpos) X.env) :: backTo pos (starEach [] X.env))) _ _ s
  refine Calls.spliced_cons ?_
  refine wpAny_Call_method (T := "dict") (id := "dict.values") hbase rfl hline F.plainAttrs_dict F.slot_dict_values F.type_dict_values (thn (he.run pins s σ H _ I hq) fun u s1 ⟨x, H1, I1, rx, d, kvs, ex, hd, q⟩ => ?_)
  subst ex
  obtain rfl : u = Value.ref d := rx
  obtain ⟨hz, hs0, vs, kv, hdo⟩ := dk_rd I1.hok hd
  obtain ⟨ep, hat⟩ := hdo.dictAt
  have lk : kvs.length = vs.length := Paired.length kv
  have I2 : Inv X pins σ H1 { s1 with heap := s1.heap.push { cls := .type "dict_values", data := .fields #[.ref d] } } := I1.kept (t' := s1.toks) fun b ob q => Heap.get?_push_of_some _ q
  refine ⟨hdo.typeIs, hdo.mapOf.noDict, ?_⟩
  show wpAny _ _ (callWith cpos (.builtin "dict.values") [.ref d] [] []) _ X.xe s1
  refine method_meetsIn F.slot_dict_values F.entry_dict_values rfl (PySem.evalArgs_none ⟨rfl, hdo.typeIs, F.args_dict_values_1 _, _, meets_dict_values (mixKind X.prog X.w) d hs0, ⟨vs, hdo⟩, ?_⟩)
  refine Calls.spliced_nil ?_
  refine PySem.W.kdl_call (PySem.W.kdl_values (knd := mixKind X.prog X.w) (r := s1.heap.objs.size) (d := d) (kvs := vs) (ep := ep)) (I1.ok.hd hc) ⟨⟨_, Heap.get?_push_size _ rfl, rfl, rfl⟩, hat.push _⟩ (by omega) fun h' tk acc' c' hkeep hS hacc => ?_
  refine ⟨.ref (s1.heap.push { cls := .type "dict_values", data := .fields #[.ref d] }).objs.size, upd H1 _ (.lst (kvs.map (·.2))), I2.laid hkeep (Nat.le_refl _) (show ObjOk X.prog X.w _ _ _ (.lst (kvs.map (·.2))) from ⟨?_, acc'.toList, c', ?_, ?_⟩), rfl, q _ (I2.hok.fresh (Nat.le_refl _))⟩
  · rw [List.length_map]; exact hz
  · have el : acc'.toList.length = acc'.size := by simp
    refine vals_of_at (by rw [List.length_map, el, hacc.1, lk]) fun j x w h1 h2 => ?_
    obtain ⟨k, hky⟩ := hacc.2 j w (by rw [← Array.getElem?_toList]; exact h2)
    rw [List.getElem?_map] at h1
    obtain ⟨kx, e1, e2⟩ := Option.map_eq_some_iff.mp h1
    obtain ⟨qv, g1, g2, g3⟩ := paired_get kv e1
    rw [hky] at g1
    cases g1
    subst e2
    exact g3
  · rw [Array.toArray_toList]; exact hS
def dvalsT (S : Sto) (x : T) : Option T := (dView S x).map fun p => .lst p.2
theorem te_dvals {te : TTE} (hc : X.calm = true) (he : TE X e te) (hg : Gl X "list") (hm : X.mg "list" = none) (hbase : attributeBase e "values" X.env (eval e X.env) = eval e X.env := by rfl) (hline : (apos.endLine == cpos.line) = true := by rfl)
    (hs : starEach [.Call (.Attribute e "values" apos) [] [] cpos] X.env = (false, eval (.Call (.Attribute e "values" apos) [] [] cpos) X.env) :: starEach [] X.env := by rfl) :
    TE X (.Call (.Name "list" p) [.Call (.Attribute e "values" apos) [] [] cpos] [] pos) (cUn dvalsT te) := fun M S0 H0 E tk =>
  (pe_listVals hc (he M S0 H0 E tk) hg hm (by rfl) hbase hline hs).weak fun σ H Q ⟨τ, S, Qt, rel, h, k⟩ => ⟨τ, S, _, rel, h, fun x S1 v H1 ⟨z, ez, hq⟩ o1 x1 r1 => by
    obtain ⟨p, hp, rfl⟩ := Option.map_eq_some_iff.mp ez
    obtain ⟨a, kvs, rfl, g1, g2, g3⟩ := dView_rep o1 r1 hp
    exact ⟨a, kvs, rfl, g1, fun q n => k _ S1 (.ref q) _ hq (o1.new n) (x1.trans (Ext.new n)) (.lst ⟨upd_same, o1.free n, o1.nom n⟩ (Reps.ext (Ext.new n) _ _ g3))⟩⟩
end
/-! ### dict(zip(a, b)) of two lists -/
def tDictZip (X : Cx) (ta : L2.TA) : L2.TE := fun σ H Q => ta σ H fun us H1 => ∃ (a b : Addr) (ks : List Key) (ys : List V), us = [.ref a, .ref b] ∧ SqL X.K H1 a (ks.map kV) ∧ SqL X.K H1 b ys ∧ ∀ q, H1 q = none → Q (.ref q) (upd H1 q (.dK (mergeK [] (ks.zip ys))))
section
variable {X : Cx} {e e2 : Expr} {p p2 pos pos2 : Pos}
theorem kv_zip {ks : List Key} {ys : List V} {us : List Value} (r : Vals ys us) : KV (ks.zip ys) (ks.zip us) := by
  induction r generalizing ks with
  | nil => rw [List.zip_nil_right, List.zip_nil_right]; exact .nil
  | cons h t ih =>
    cases ks with
    | nil => exact .nil
    | cons k ks => exact .cons ⟨rfl, h⟩ ih
theorem pe_dictZip {ta : L2.TA} (hc : X.calm = true) (ha : PA X [e, e2] ta) (hg : Gl X "dict") (hm : X.mg "dict" = none) (hv : bootBuiltins "dict" = some (.type "dict")) (hg2 : Gl X "zip") (hm2 : X.mg "zip" = none)
    (hs : starEach [.Call (.Name "zip" p2) [e, e2] [] pos2] X.env = (false, eval (.Call (.Name "zip" p2) [e, e2] [] pos2) X.env) :: starEach [] X.env := by rfl)
    (hs2 : starEach [e, e2] X.env = (false, eval e X.env) :: starEach [e2] X.env := by rfl) (hpl2 : (backTo pos2 (starEach [e2] X.env)).any (·.1) = false := by rfl) :
    PE X (.Call (.Name "dict" p) [.Call (.Name "zip" p2) [e, e2] [] pos2] [] pos) (tDictZip X ta) := by
  refine ⟨fun pins s σ H Q I hq => ?_⟩
  refine wpAny_Call_Name_kw (ld_blt I hg hm hv ?_)
  refine PyProof.Rows.callWith_type1 ?_ hs rfl
  rw [hs]
  show wpAny _ _ (spliced ((false, eval (.Call (.Name "zip" p2) [e, e2] [] pos2) X.env) :: backTo pos (starEach [] X.env))) _ _ s
  refine Calls.spliced_cons ?_
  refine Call_ (ld_blt I hg2 hm2 PyProof.Rows.boot_zip (PyProof.Rows.callWith_type1 (thn (ha.run pos2 pins s σ H _ I hq) fun us s1 ⟨vs, H1, I1, r1, q1⟩ => ?_) hs2 hpl2))
  obtain ⟨a, b, ks, ys, ex, hqx, hqy, q⟩ := q1
  subst ex
  cases r1 with
  | cons r rr =>
    cases rr with
    | cons r' rr =>
      cases rr
      cases r
      cases r'
      obtain ⟨its, rv, p1, z1⟩ := I1.list hqx
      obtain ⟨its2, rv2, p2, z2⟩ := I1.list hqy
      have la : a < s1.heap.objs.size := p1.lt
      have lb : b < s1.heap.objs.size := p2.lt
      refine call_zip_2 p1.isList p2.isList fun h' hz hTI hTO h1 h2 hsz hk => ?_
      refine Calls.spliced_nil ?_
      have l1 : ks.length = its.length := by have := rv.length; simpa using this
      have l2 : ys.length = its2.length := rv2.length
      refine PySem.call_dict_pairs (knd := mixKind X.prog X.w) (kvs := ks.zip its2) (PairArg.zip (s1.heap.objs.size + 4) (s1.heap.objs.size + 2) (s1.heap.objs.size + 3) s1.heap.objs.size (s1.heap.objs.size + 1) a b (PySem.W.ktu_apart s1.heap.objs.size a b la lb) its.toArray its2.toArray) (I1.ok.hd hc) ⟨hz, hTI, ⟨_, _, hTO⟩, h1, h2, p1.isList.at fun o e => hk _ o e, p2.isList.at fun o e => hk _ o e⟩ ⟨?_, fun i key v ⟨g1, g2⟩ => ?_⟩ ?_ fun h'' tk hd hk2 => ?_
      · rw [List.length_zip]; simp [l1]
      · have g1' : its[i]? = some key := by simpa using g1
        have g2' : its2[i]? = some v := by simpa using g2
        have hi : i < its.length := (List.getElem?_eq_some_iff.mp g1').1
        have hk' : ks[i]? = some (ks[i]'(by omega)) := List.getElem?_eq_getElem (by omega)
        refine ⟨ks[i]'(by omega), ?_, ?_⟩
        · rw [List.getElem?_zip_eq_some]; exact ⟨hk', g2'⟩
        · have hm' : (ks.map kV)[i]? = some (kV (ks[i]'(by omega))) := by rw [List.getElem?_map, hk']; rfl
          obtain ⟨u, g3, g4⟩ := paired_get rv hm'
          rw [g1'] at g3
          cases g3
          exact kV_is g4
      · have z3 : ys.length ≤ sizeLine := by omega
        exact Nat.le_trans (Nat.min_le_right _ _) (by rw [List.size_toArray, ← l2]; exact z3)
      · have hge : s1.heap.objs.size ≤ h'.objs.size := by have := hsz; omega
        have keep : ∀ c o, s1.heap.get? c = some o → h''.get? c = some o := fun c o ec => hk2 c o (fun z => by
          have hc' := Heap.lt_size ec
          have e' : c = s1.heap.objs.size + 4 ∨ c = s1.heap.objs.size + 3 ∨ c = s1.heap.objs.size ∨ c = s1.heap.objs.size + 1 := by simpa using z
          have hle : s1.heap.objs.size ≤ c := by
            rcases e' with z | z | z | z
            · rw [z]; exact Nat.le_add_right _ _
            · rw [z]; exact Nat.le_add_right _ _
            · rw [z]; exact Nat.le_refl _
            · rw [z]; exact Nat.le_add_right _ _
          exact Nat.lt_irrefl _ (Nat.lt_of_lt_of_le hc' hle)) (hk c o ec)
        have nm : (h'.objs.size == sysModules) = false := beq_eq_false_iff_ne.mpr (Nat.ne_of_gt (Nat.lt_of_lt_of_le I1.big hge))
        have rel : KV (ks.zip ys) (ks.zip its2) := kv_zip rv2
        have hlen : (mergeK [] (ks.zip ys)).length ≤ sizeLine := by
          refine Nat.le_trans (length_mergeK (ks.zip ys) []) ?_
          rw [List.length_nil, Nat.zero_add, List.length_zip]
          rw [List.length_map] at z1
          omega
        exact ⟨.ref h'.objs.size, upd H1 h'.objs.size (.dK (mergeK [] (ks.zip ys))), I1.laid (t' := tk) keep hge (show ObjOk X.prog X.w _ _ _ (.dK (mergeK [] (ks.zip ys))) from ⟨hlen, nm, merged [] (ks.zip its2), KV.merge rel .nil, hd⟩), rfl, q _ (I1.hok.fresh hge)⟩
def zmT : List T → List T → List T → List T → Option (List T × List T)
  | t :: ts, u :: us, ks, vs => match kyT t with
    | some x => zmT ts us (dPk ks x t) (dPv ks vs x u)
    | none => none
  | _, _, ks, vs => some (ks, vs)
def dzipF (S : Sto) : List T → Option T
  | [x, y] => match res S x, res S y with
    | .lst ts, .lst us => if ts.length = us.length then (zmT ts us [] []).map fun p => .dct false p.1 p.2 else none
    | _, _ => none
  | _ => none
theorem zm_rep {G : Gd} {H : Hp} {S : Sto} : ∀ {ts us ks vs : List T} {xs ys : List V} {acc : List (Key × V)} {r : List T × List T}, ts.length = us.length → zmT ts us ks vs = some r → Reps G H S ts xs → Reps G H S us ys → Reps G H S ks (acc.map fun p => kV p.1) → Reps G H S vs (acc.map (·.2)) →
    ∃ kk : List Key, xs = kk.map kV ∧ Reps G H S r.1 ((mergeK acc (kk.zip ys)).map fun p => kV p.1) ∧ Reps G H S r.2 ((mergeK acc (kk.zip ys)).map (·.2))
  | [], [], ks, vs, xs, ys, acc, r, hl, e, h, g, h1, h2 => by
    cases h; cases g; cases e
    exact ⟨[], rfl, h1, h2⟩
  | [], _ :: _, _, _, _, _, _, _, hl, _, _, _, _, _ => by simp at hl
  | _ :: _, [], _, _, _, _, _, _, hl, _, _, _, _, _ => by simp at hl
  | t :: ts, u :: us, ks, vs, xs, ys, acc, r, hl, e, h, g, h1, h2 => by
    unfold zmT at e
    split at e
    · rename_i x hx
      cases h with
      | cons a1 a2 =>
        cases g with
        | cons b1 b2 =>
          obtain rfl := ky_rep a1 hx
          obtain ⟨p1, p2⟩ := put_rep h1 h2 a1 b1
          obtain ⟨kk, rfl, e3, e4⟩ := zm_rep (by simpa using hl) e a2 b2 p1 p2
          exact ⟨x :: kk, rfl, e3, e4⟩
    · cases e
theorem te_dzip {a b : TTE} (hc : X.calm = true) (ha : TE X e a) (hb : TE X e2 b) (hg : Gl X "dict") (hm : X.mg "dict" = none) (hg2 : Gl X "zip") (hm2 : X.mg "zip" = none)
    (hs : starEach [.Call (.Name "zip" p2) [e, e2] [] pos2] X.env = (false, eval (.Call (.Name "zip" p2) [e, e2] [] pos2) X.env) :: starEach [] X.env := by rfl)
    (hs2 : starEach [e, e2] X.env = (false, eval e X.env) :: starEach [e2] X.env := by rfl) (hs3 : starEach [e2] X.env = (false, eval e2 X.env) :: starEach [] X.env := by rfl) (hpl2 : (backTo pos2 (starEach [e2] X.env)).any (·.1) = false := by rfl) :
    TE X (.Call (.Name "dict" p) [.Call (.Name "zip" p2) [e, e2] [] pos2] [] pos) (cFn dzipF (cCons a (cCons b cNil))) := fun M S0 H0 E tk =>
  (pe_dictZip hc (ta_cons ha (ta_cons hb ta_nil hs3) hs2 M S0 H0 E tk) hg hm (by rfl) hg2 hm2 hs hs2 hpl2).weak fun σ H Q ⟨τ, S, Qt, rel, q, k⟩ => ⟨τ, S, _, rel, q, fun zs S1 ws H1 ⟨t, et, hq⟩ o1 x1 r1 => by
    unfold dzipF at et
    split at et
    · obtain ⟨v, w, rfl, rx, ry⟩ := r1.twos
      split at et
      · rename_i ts us hx hy
        obtain ⟨a1, xs, rfl, g1, g2⟩ := res_lst o1 rx hx
        obtain ⟨b1, ys, rfl, f1, f2⟩ := res_lst o1 ry hy
        split at et
        · rename_i hl
          obtain ⟨pp, hp, rfl⟩ := Option.map_eq_some_iff.mp et
          obtain ⟨kk, rfl, e3, e4⟩ := zm_rep (acc := []) hl hp g2 f2 .nil .nil
          exact ⟨a1, b1, kk, ys, rfl, SqL.of g1, SqL.of f1, fun q n => k _ S1 (.ref q) _ hq (o1.new n) (x1.trans (Ext.new n)) (.dK ⟨.inl upd_same, o1.free n, o1.nom n⟩ (Reps.ext (Ext.new n) _ _ e3) (Reps.ext (Ext.new n) _ _ e4))⟩
        · cases et
      · cases et
    · cases et⟩
end
/-! ### xs.pop(i) -/
def cPopI (o i : TTE) : TTE := fun τ S Q E => o τ S (fun x S1 => ∃ a us, x = .ref a ∧ S1 a = some (.lst us) ∧ i τ S1 (fun k S2 => ∃ ts n y, S2 a = some (.lst ts) ∧ k = .int n ∧ 0 ≤ n ∧ n < 2 ^ 63 ∧ ts[n.toNat]? = some y ∧ Q y (ups S2 a (.lst (ts.eraseIdx n.toNat)))) E) E
section
variable {X : Cx} {o e : Expr} {to te : TTE} {apos cpos : Pos}
theorem Reps.eraseIdx {G : Gd} {H : Hp} {S : Sto} : ∀ {ts : List T} {vs : List V} (n : Nat), Reps G H S ts vs → Reps G H S (ts.eraseIdx n) (vs.eraseIdx n)
  | _, _, _, .nil => .nil
  | _, _, 0, .cons _ h => h
  | _, _, n + 1, .cons h t => .cons h (t.eraseIdx n)
theorem te_popI (ho : TE X o to) (he : TE X e te) (hbase : attributeBase o "pop" X.env (eval o X.env) = eval o X.env := by rfl)
    (hfew : ((backTo cpos (starEach [e] X.env)).all (fun x => !x.1) && (backToKw cpos (keywordEach [] X.env)).all (fun x => x.1.isSome) && decide (([e] : List Expr).length + ([] : List Keyword).length + (if ([] : List Keyword).isEmpty then 0 else 1) < 30)) = true := by rfl)
    (hline : (apos.endLine == cpos.line) = true := by rfl) (hs : starEach [e] X.env = (false, eval e X.env) :: starEach [] X.env := by rfl) (hplain : (backTo cpos (starEach [] X.env)).any (·.1) = false := by rfl) :
    TE X (.Call (.Attribute o "pop" apos) [e] [] cpos) (cPopI to te) := fun M S0 H0 E tk =>
  (pe_bm PySem.F.plainAttrs_list PySem.F.slot_list_pop PySem.F.type_list_pop mt_popAt (ho M S0 H0 E tk) (ta_cons he ta_nil hs M S0 H0 E tk) hbase hfew hline hs hplain).weak fun σ H Q ⟨τ, S, Qt, rel, h, k⟩ =>
    ⟨τ, S, _, rel, h, fun z S1 v H1 ⟨a, us, ez, hs1, h1⟩ o1 x1 r1 => by
      subst ez
      cases r1
      refine ⟨ty_list o1 hs1, τ, S1, fun zs S2 => ∃ y, zs = [y] ∧ ∃ ts n w, S2 a = some (.lst ts) ∧ y = .int n ∧ 0 ≤ n ∧ n < 2 ^ 63 ∧ ts[n.toNat]? = some w ∧ Qt w (ups S2 a (.lst (ts.eraseIdx n.toNat))), rel.step o1 x1, ?_, fun zs S2 vs H2 h2 o2 x2 r2 => ?_⟩
      · show te τ S1 (fun y S2 => ∃ y', [y] = [y'] ∧ ∃ ts n w, S2 a = some (.lst ts) ∧ y' = .int n ∧ 0 ≤ n ∧ n < 2 ^ 63 ∧ ts[n.toNat]? = some w ∧ Qt w (ups S2 a (.lst (ts.eraseIdx n.toNat)))) fun x S' => E x τ S'
        have e : ∀ (y : T) (S2 : Sto), (∃ y', [y] = [y'] ∧ ∃ ts n w, S2 a = some (.lst ts) ∧ y' = .int n ∧ 0 ≤ n ∧ n < 2 ^ 63 ∧ ts[n.toNat]? = some w ∧ Qt w (ups S2 a (.lst (ts.eraseIdx n.toNat)))) = ∃ ts n w, S2 a = some (.lst ts) ∧ y = .int n ∧ 0 ≤ n ∧ n < 2 ^ 63 ∧ ts[n.toNat]? = some w ∧ Qt w (ups S2 a (.lst (ts.eraseIdx n.toNat))) := fun y S2 => by
          simp only [List.cons.injEq, and_true, exists_eq_left']
        simp only [e]
        exact h1
      · obtain ⟨y, rfl, ts, n, w, q1, rfl, q2, q3, q4, q5⟩ := h2
        obtain ⟨u, rfl, rw1⟩ := r2.one
        cases rw1
        obtain ⟨xs, p1, p2⟩ := o2.at_ a _ q1
        have l := p2.length
        obtain ⟨u, hu, ru⟩ := p2.get q4
        have lt : n.toNat < xs.length := (List.getElem?_eq_some_iff.mp hu).1
        obtain ⟨o3, x3⟩ := cell_set (us := ts.eraseIdx n.toNat) (ys := xs.eraseIdx n.toNat) o2 q1 (p2.eraseIdx _)
        refine ⟨a, xs, n, n.toNat, u, rfl, rfl, p1, by omega, by omega, ?_, hu, k _ _ _ _ q5 o3 ((x1.trans x2).trans x3) (Rep.ext x3 _ _ ru)⟩
        show (if (0 ≤ (if n < 0 then n + xs.length else n) && (if n < 0 then n + xs.length else n) < xs.length) = true then some (if n < 0 then n + (xs.length : Int) else n).toNat else none) = _
        have hlt : ¬ n < 0 := by omega
        rw [if_neg hlt, if_pos (by simp; omega)]⟩
end
end TL

/-! TMj: list(d.values()), dict(zip(a, b)). -/
namespace TL
open PySem PySem.Spec PyProof.Rows L2
theorem unv_dvalsT : UnV dvalsT := fun S z v r h e => by
  unfold dvalsT at e ⊢
  obtain ⟨p, hp, rfl⟩ := Option.map_eq_some_iff.mp e
  rw [dView_v h hp]
  rfl
theorem fnv_dzipF : FnV dzipF := fun S zs vs r h e => by
  unfold dzipF at e
  split at e
  · rename_i v w
    cases h with
    | cons h1 h2 =>
      cases h2 with
      | cons h2 h3 =>
        cases h3
        rcases h1.res with ⟨e1, e1'⟩ | ⟨a, rfl⟩ | ⟨n, ks, vs, rfl⟩
        · rcases h2.res with ⟨e2, e2'⟩ | ⟨a, rfl⟩ | ⟨n, ks, vs, rfl⟩
          · rw [e1', e2'] at e
            unfold dzipF
            dsimp only
            rw [e1, e2]
            exact e
          · rw [e1'] at e
            cases v <;> cases e
          · rw [e1'] at e
            cases v <;> cases e
        · cases e
        · cases e
  · cases e
@[simp] theorem dvalsT_dct {ks vs : List T} : dvalsT emp (.dct false ks vs) = some (.lst vs) := rfl
theorem dzipF_l {ts us : List T} : dzipF emp [.lst ts, .lst us] = if ts.length = us.length then (zmT ts us [] []).map fun p => .dct false p.1 p.2 else none := rfl
section
variable {κ : Type} {W : κ → Sto} {p : TEnv} {α β : Type}
def popIM (xs : List T) (k : T) : PM κ (T × List T) := match k with
  | .int n => bd (gd (0 ≤ n ∧ n < 2 ^ 63)) fun _ => match xs[n.toNat]? with
    | some y => pu (y, xs.eraseIdx n.toNat)
    | none => stuck
  | _ => stuck
/-- a.append(b.pop(i)) -/
theorem xs_apppop {iA iB : Nat} {a b : Addr} {xs ys : List T} {m1 m2 : Cs} {l1 l2 : Cell → Cs} {e : TTE} {m : PM κ T} {u : TTS} {post} {f : T × List T → List T → PM κ β} (hA : p[iA]? = some (some (.ref a))) (hB : p[iB]? = some (some (.ref b))) (hl : ∀ c, m1 ++ (b, c) :: m2 = l1 c ++ (a, .lst xs) :: l2 c)
    (he : XE W p (m1 ++ (b, .lst ys) :: m2) e m) (h : ∀ r zs, XS W p (l1 (.lst r.2) ++ (a, .lst zs) :: l2 (.lst r.2)) u (f r zs) post) :
    XS W p (m1 ++ (b, .lst ys) :: m2) (cSeq (cDo (cApp (cVar iA) (cPopI (cVar iB) e))) u) (bd m fun n => bd (popIM ys n) fun r => bd (appM xs r.1) fun zs => f r zs) post := fun D E k τ S hE j s => by
  refine ⟨.ref a, hE.get hA, a, xs, rfl, j.at_ (a, .lst xs) (by rw [hl]; simp), ?_⟩
  refine ⟨.ref b, hE.get hB, b, ys, rfl, j.at_ (b, .lst ys) (by simp), ?_⟩
  refine he _ _ k τ S hE j ((Sat.bd.mp s).mono (fun v k1 s1 S1 i1 => ?_) fun x k1 q S1 i1 => q τ S1 i1)
  cases v with
  | int n =>
    have s2 := Sat.bd.mp s1
    obtain ⟨hn, s2⟩ := sat_gd (Sat.bd.mp s2)
    cases q : ys[n.toNat]? with
    | none => rw [q] at s2; exact s2.elim
    | some y =>
      rw [q] at s2
      have s3 : Sat _ _ _ := s2
      obtain ⟨hlen, s4⟩ := sat_gd (Sat.bd.mp (Sat.bd.mp s3))
      have i2 := i1.put (d := .lst (ys.eraseIdx n.toNat))
      rw [hl] at i2
      exact ⟨ys, n, y, i1.at_ (b, .lst ys) (by simp), rfl, hn.1, hn.2, q, xs, i2.at_ (a, .lst xs) (by simp), hlen, h (y, ys.eraseIdx n.toNat) _ D E k1 τ _ hE i2.put s4⟩
  | _ => exact (Sat.bd.mp s1).elim
end
end TL

/-! TMk: whiles that draw, parts of lists that are drawn, books that are parts. -/
namespace TL
open PySem PySem.Spec PyProof.Rows L2
section
variable {κ α β σ : Type}
theorem forM_two {f : T → σ → PM κ σ} {a b : T} {s : σ} : forM f [a, b] s = bd (f a s) fun s => f b s := by
  show bd (f a s) (fun s => bd (f b s) fun s => pu s) = _
  congr
  funext s
  exact bd_pu _
/-- a while that draws -/
theorem HT.whN (d : Nat) {c : σ → PM Cell Bool} {b : σ → PM Cell σ} (I : σ → Prop) (μ : σ → Nat) (h : ∀ s, I s → c s = TL.pu false ∨ (0 < μ s ∧ c s = TL.pu true ∧ HT d (b s) fun s' => I s' ∧ μ s' < μ s)) : ∀ (n k : Nat) (s : σ), I s → μ s ≤ n → n < k → HT (n * d) (whM c b k s) fun s => I s ∧ c s = TL.pu false
  | n, 0, s, _, _, hk => absurd hk (Nat.not_lt_zero _)
  | n, k + 1, s, hi, hm, hk => by
    show HT _ (TL.bd (c s) fun t => if t = true then TL.bd (b s) (whM c b k) else TL.pu s) _
    rcases h s hi with e | ⟨h0, e, hb⟩
    · rw [e, pu_bd, if_neg (by simp)]
      exact HT.pu ⟨hi, e⟩
    · rw [e, pu_bd, if_pos rfl]
      cases n with
      | zero => omega
      | succ n =>
        rw [Nat.succ_mul]
        exact HT.bd hb fun s' ⟨hi', hlt⟩ => HT.whN d I μ h n k s' hi' (by omega) (by omega)
/-- some of a list, as drawn -/
theorem HT.compS {e : α → T} (d n : Nat) {f : α → PM Cell (Option T)} {xs : List α} (hn : xs.length ≤ n) (h : ∀ x ∈ xs, HT d (f x) fun o => o = none ∨ o = some (e x)) : HT (n * d) (TL.compA f xs) fun ys => ∃ zs : List α, zs.Sublist xs ∧ ys = zs.map e := by
  refine (HT.compN d n (I := fun rest acc => ∃ done zs : List α, done ++ rest = xs ∧ zs.Sublist done ∧ acc = zs.map e) hn ⟨[], [], rfl, List.Sublist.refl _, rfl⟩ ?_).mono ?_
  · rintro x rest acc ⟨done, zs, he, hz, rfl⟩
    refine (h x (by rw [← he]; simp)).mono fun o ho => ?_
    rcases ho with rfl | rfl
    · exact ⟨done ++ [x], zs, by simp [he], hz.trans (List.sublist_append_left _ _), by simp⟩
    · exact ⟨done ++ [x], zs ++ [x], by simp [he], hz.append (List.Sublist.refl _), by simp⟩
  · rintro ys ⟨done, zs, he, hz, rfl⟩
    rw [List.append_nil] at he
    exact ⟨zs, he ▸ hz, rfl⟩
/-- some of a list, each made into something -/
theorem HT.compR {e : β → T} {R : α → Option β → Prop} (d n : Nat) {f : α → PM Cell (Option T)} {xs : List α} (hn : xs.length ≤ n) (h : ∀ x ∈ xs, HT d (f x) fun o => ∃ y, o = y.map e ∧ R x y) : HT (n * d) (TL.compA f xs) fun ys => ∃ os : List (Option β), Paired R xs os ∧ ys = (os.filterMap id).map e := by
  refine (HT.compN d n (I := fun rest acc => ∃ (done : List α) (os : List (Option β)), done ++ rest = xs ∧ Paired R done os ∧ acc = (os.filterMap id).map e) hn ⟨[], [], rfl, .nil, rfl⟩ ?_).mono ?_
  · rintro x rest acc ⟨done, os, he, hp, rfl⟩
    refine (h x (by rw [← he]; simp)).mono fun o ho => ?_
    obtain ⟨y, rfl, hr⟩ := ho
    refine ⟨done ++ [x], os ++ [y], by simp [he], hp.snoc hr, ?_⟩
    rw [List.filterMap_append, List.map_append]
    cases y <;> simp
  · rintro ys ⟨done, os, he, hp, rfl⟩
    rw [List.append_nil] at he
    exact ⟨os, he ▸ hp, rfl⟩
end
/-! ### folk by their names -/
theorem fk_lt {a b m m' : Nm} (h : a ≠ b) : ltt (fkT (a, m)) (fkT (b, m')) = ltt (.str a) (.str b) := by
  show ltts [.str a, .str m] [.str b, .str m'] = _
  unfold ltts
  rw [ke_str.eqt, decide_eq_false h]
  rfl
theorem fk_rise {xs : List (Nm × Nm)} (h : Rise (xs.map fkT)) (nd : (xs.map (·.1)).Nodup) : Rise ((xs.map (·.1)).map T.str) := by
  induction xs with
  | nil => exact .nil
  | cons x xs ih =>
    obtain ⟨h1, h2⟩ := List.pairwise_cons.mp h
    obtain ⟨n1, n2⟩ := List.nodup_cons.mp nd
    refine List.pairwise_cons.mpr ⟨fun t ht => ?_, ih h2 n2⟩
    obtain ⟨n, hn, rfl⟩ := List.mem_map.mp ht
    obtain ⟨y, hy, rfl⟩ := List.mem_map.mp hn
    have := h1 (fkT y) (List.mem_map_of_mem hy)
    rwa [fk_lt (m := x.2) (m' := y.2) fun z => n1 (by show x.1 ∈ _; rw [z]; exact hn)] at this
theorem fk_rise' {xs : List (Nm × Nm)} (h : Rise ((xs.map (·.1)).map T.str)) (nd : (xs.map (·.1)).Nodup) : Rise (xs.map fkT) := by
  induction xs with
  | nil => exact .nil
  | cons x xs ih =>
    obtain ⟨h1, h2⟩ := List.pairwise_cons.mp h
    obtain ⟨n1, n2⟩ := List.nodup_cons.mp nd
    refine List.pairwise_cons.mpr ⟨fun t ht => ?_, ih h2 n2⟩
    obtain ⟨y, hy, rfl⟩ := List.mem_map.mp ht
    have hn : y.1 ∈ xs.map (·.1) := List.mem_map_of_mem hy
    rw [fk_lt (m := x.2) (m' := y.2) fun z => n1 (by show x.1 ∈ _; rw [z]; exact hn)]
    exact h1 _ (List.mem_map_of_mem hn)
/-- the first book is a part of the other one, marks told or not -/
structure Part (P B : Bk) : Prop where
  nm : P.names.Sublist B.names
  mrk : ∀ p ∈ P.folk, ∃ m, (p.1, m) ∈ B.folk ∧ (p.2 = m ∨ p.2 = q "o")
  un : P.unions.Sublist B.unions
  bi : P.births.Sublist B.births
  ad : P.adopts.Sublist B.adopts
theorem Rise.sub {α : Type} {e : α → T} {xs ys : List α} (h : Rise (ys.map e)) (s : xs.Sublist ys) : Rise (xs.map e) := List.Pairwise.sublist (s.map e) h
theorem fm_some {α : Type} {y : α} {os : List (Option α)} : List.filterMap id (some y :: os) = y :: os.filterMap id := rfl
theorem fm_none {α : Type} {os : List (Option α)} : List.filterMap id (none :: os) = os.filterMap id := rfl
/-- folk of a part: by the names drawn, marks told or not -/
theorem fk_part {names : List Nm} : ∀ {xs : List (Nm × Nm)} {os : List (Option (Nm × Nm))}, Paired (fun p o => if p.1 ∈ names then o = some p ∨ o = some (p.1, q "o") else o = none) xs os →
    (os.filterMap id).map (·.1) = (xs.map (·.1)).filter (fun x => decide (x ∈ names)) ∧ ∀ p ∈ os.filterMap id, ∃ m, (p.1, m) ∈ xs ∧ (p.2 = m ∨ p.2 = q "o")
  | _, _, .nil => ⟨rfl, nofun⟩
  | _, _, .cons (a := x) (b := o) (l₁ := xs) (l₂ := os) h t => by
    obtain ⟨i1, i2⟩ := fk_part t
    by_cases hx : x.1 ∈ names
    · rw [if_pos hx] at h
      have : ∃ y : Nm × Nm, o = some y ∧ y.1 = x.1 ∧ (y.2 = x.2 ∨ y.2 = q "o") := by
        rcases h with rfl | rfl
        · exact ⟨x, rfl, rfl, .inl rfl⟩
        · exact ⟨_, rfl, rfl, .inr rfl⟩
      obtain ⟨y, rfl, e1, e2⟩ := this
      refine ⟨?_, fun p hp => ?_⟩
      · rw [fm_some, List.map_cons, List.map_cons, List.filter_cons_of_pos (by simpa using hx), i1, e1]
      · rw [fm_some] at hp
        rcases List.mem_cons.mp hp with rfl | hp
        · exact ⟨x.2, by rw [e1]; exact List.mem_cons_self, e2⟩
        · obtain ⟨m, h1, h2⟩ := i2 p hp
          exact ⟨m, List.mem_cons_of_mem _ h1, h2⟩
    · rw [if_neg hx] at h
      subst h
      refine ⟨?_, fun p hp => ?_⟩
      · rw [fm_none, List.map_cons, List.filter_cons_of_neg (by simpa using hx), i1]
      · rw [fm_none] at hp
        obtain ⟨m, h1, h2⟩ := i2 p hp
        exact ⟨m, List.mem_cons_of_mem _ h1, h2⟩
/-! ### books by other names -/
theorem nodup_mapOn {α β : Type} {f : α → β} : ∀ {l : List α}, (∀ a ∈ l, ∀ b ∈ l, f a = f b → a = b) → l.Nodup → (l.map f).Nodup
  | [], _, _ => List.nodup_nil
  | x :: xs, inj, h => by
    obtain ⟨h1, h2⟩ := List.nodup_cons.mp h
    refine List.nodup_cons.mpr ⟨fun hx => ?_, nodup_mapOn (fun a ha b hb => inj a (List.mem_cons_of_mem _ ha) b (List.mem_cons_of_mem _ hb)) h2⟩
    obtain ⟨y, hy, e⟩ := List.mem_map.mp hx
    have := inj y (List.mem_cons_of_mem _ hy) x List.mem_cons_self e
    subst this
    exact h1 hy
theorem KE.rise_nodup {α : Type} {e : α → T} (h : KE e) (hn : ∀ a, e a ≠ .non) {xs : List α} (hr : Rise (xs.map e)) : xs.Nodup := by
  refine (List.pairwise_map.mp hr).imp fun {a b} hl e' => ?_
  subst e'
  have := ltt_asym (h.kx a) (h.kx a) (h.alk a a) (hn a) (hn a) hl
  rw [hl] at this
  cases this
def renF (F : Nm → Nm) (f : List Nm) : List Nm := srt T.str (f.map F)
def Bk.ren (F : Nm → Nm) (B : Bk) : Bk := ⟨srt fkT (B.folk.map fun p => (F p.1, p.2)), srt famT (B.unions.map (renF F)), srt kinT (B.births.map fun b => (F b.1, renF F b.2)), srt kinT (B.adopts.map fun b => (F b.1, renF F b.2))⟩
theorem renF_mem {F : Nm → Nm} {f : List Nm} {x : Nm} : x ∈ renF F f ↔ ∃ y ∈ f, F y = x := by
  unfold renF
  rw [srt_mem, List.mem_map]
theorem renF_len {F : Nm → Nm} {f : List Nm} : (renF F f).length = f.length := by
  unfold renF
  rw [srt_len, List.length_map]
section
variable {B : Bk} {F : Nm → Nm} (h : BkOk B) (inj : ∀ a ∈ B.names, ∀ b ∈ B.names, F a = F b → a = b)
include h inj
theorem renF_inj {f g : List Nm} (hf : FamOk B.names f) (hg : FamOk B.names g) (e : renF F f = renF F g) : f = g := by
  refine ke_str.rise_ext (fun _ h => nomatch h) hf.rise hg.rise fun x => ⟨fun hx => ?_, fun hx => ?_⟩
  · obtain ⟨y, hy, e2⟩ := renF_mem.mp (e ▸ renF_mem.mpr ⟨x, hx, rfl⟩)
    rw [← inj y (hg.mem y hy) x (hf.mem x hx) e2]; exact hy
  · obtain ⟨y, hy, e2⟩ := renF_mem.mp (e.symm ▸ renF_mem.mpr ⟨x, hx, rfl⟩)
    rw [← inj y (hf.mem y hy) x (hg.mem x hx) e2]; exact hy
theorem BkOk.ren (ok : ∀ n ∈ B.names, NameOk (F n)) : BkOk (B.ren F) := by
  have memf : ∀ p ∈ B.folk, p.1 ∈ B.names := fun p hp => List.mem_map_of_mem hp
  have mem' : ∀ n ∈ B.names, F n ∈ (B.ren F).names := fun n hn => by
    obtain ⟨p, hp, rfl⟩ := List.mem_map.mp hn
    exact List.mem_map.mpr ⟨(F p.1, p.2), srt_mem.mpr (List.mem_map.mpr ⟨p, hp, rfl⟩), rfl⟩
  have ndf : (B.folk.map fun p => (F p.1, p.2)).Nodup := by
    refine TL.nodup_of_map (f := (·.1)) ?_
    rw [List.map_map]
    have := nodup_mapOn inj h.nd
    unfold Bk.names at this
    rw [List.map_map] at this
    exact this
  have famk : ∀ f, FamOk B.names f → FamOk (B.ren F).names (renF F f) := fun f k => by
    have nd : (f.map F).Nodup := nodup_mapOn (fun a ha b hb => inj a (k.mem a ha) b (k.mem b hb)) k.nd
    refine ⟨by rw [renF_len]; exact k.lo, by rw [renF_len]; exact k.hi, se_str.rise (fun _ _ => trivial) nd, (srt_perm _).nodup_iff.mpr nd, fun x hx => ?_⟩
    obtain ⟨y, hy, rfl⟩ := renF_mem.mp hx
    exact mem' y (k.mem y hy)
  have ndu : (B.unions.map (renF F)).Nodup := nodup_mapOn (fun a ha b hb => renF_inj h inj (h.un a ha) (h.un b hb)) (ke_fam.rise_nodup (fun _ h => nomatch h) h.ru)
  have kin : ∀ b, KinOk B.names B.unions b → KinOk (B.ren F).names (B.ren F).unions (F b.1, renF F b.2) := fun b k => by
    refine ⟨mem' _ k.kid, srt_mem.mpr (List.mem_map_of_mem k.fam), fun hx => ?_⟩
    obtain ⟨y, hy, e⟩ := renF_mem.mp hx
    have := inj y ((h.un _ k.fam).mem y hy) b.1 k.kid e
    rw [this] at hy
    exact k.own hy
  have ndk : ∀ xs : List (Nm × List Nm), (∀ b ∈ xs, KinOk B.names B.unions b) → xs.Nodup → (xs.map fun b => (F b.1, renF F b.2)).Nodup := fun xs hx nd =>
    nodup_mapOn (fun a ha b hb e => by
      injection e with e1 e2
      exact Prod.ext (inj _ (hx a ha).kid _ (hx b hb).kid e1) (renF_inj h inj (h.un _ (hx a ha).fam) (h.un _ (hx b hb).fam) e2)) nd
  refine ⟨fun x hx => ?_, ?_, se_fk.rise (fun _ _ => trivial) ndf, ?_, fun f hf => ?_, ?_, ?_, fun b hb => ?_, ?_, ?_, fun b hb => ?_, ?_, ?_⟩
  · obtain ⟨p, hp, rfl⟩ := List.mem_map.mp (srt_mem.mp hx)
    exact ⟨ok _ (memf p hp), (h.name p hp).2⟩
  · show ((srt fkT (B.folk.map fun p => (F p.1, p.2))).map (·.1)).Nodup
    refine ((List.Perm.map (fun p : Nm × Nm => p.1) (srt_perm (e := fkT) (B.folk.map fun p => (F p.1, p.2)))).nodup_iff).mpr ?_
    rw [List.map_map]
    have := nodup_mapOn inj h.nd
    unfold Bk.names at this
    rw [List.map_map] at this
    exact this
  · show (srt fkT _).length ≤ 16
    rw [srt_len, List.length_map]; exact h.lf
  · obtain ⟨g, hg, rfl⟩ := List.mem_map.mp (srt_mem.mp hf)
    exact famk g (h.un g hg)
  · refine se_fam.rise (fun f hf => ?_) ndu
    obtain ⟨g, hg, rfl⟩ := List.mem_map.mp hf
    have := (h.un g hg).lo
    intro z
    have l : (renF F g).length = 0 := by rw [z]; rfl
    rw [renF_len] at l
    omega
  · show (srt famT _).length ≤ 16
    rw [srt_len, List.length_map]; exact h.lu
  · obtain ⟨g, hg, rfl⟩ := List.mem_map.mp (srt_mem.mp hb)
    exact kin g (h.bi g hg)
  · exact se_kin.rise (fun _ _ => trivial) (ndk _ h.bi (ke_kin.rise_nodup (fun _ h => nomatch h) h.rb))
  · show (srt kinT _).length ≤ 24
    rw [srt_len, List.length_map]; exact h.lb
  · obtain ⟨g, hg, rfl⟩ := List.mem_map.mp (srt_mem.mp hb)
    exact kin g (h.ad g hg)
  · exact se_kin.rise (fun _ _ => trivial) (ndk _ h.ad (ke_kin.rise_nodup (fun _ h => nomatch h) h.ra))
  · show (srt kinT _).length ≤ 12
    rw [srt_len, List.length_map]; exact h.la
end
theorem compG_4 {κ : Type} {f : T → PM κ (Option T)} {a b c d x y z w : T} (h1 : f a = pu (some x)) (h2 : f b = pu (some y)) (h3 : f c = pu (some z)) (h4 : f d = pu (some w)) : compG f [a, b, c, d] = pu [x, y, z, w] := by
  unfold compG
  rw [gd_c, gdc_t (by simp [sizeLine_eq]), pu_bd]
  show bd (nox (f a)) (fun o => bd (bd (nox (f b)) (fun o => bd (bd (nox (f c)) (fun o => bd (bd (nox (f d)) _) _)) _)) _) = _
  rw [h1, h2, h3, h4]; rfl
theorem enumL_map {α : Type} {e : α → T} {xs : List α} : enumL (xs.map e) = xs.zipIdx.map fun p => .tup [.int (p.2 : Nat), e p.1] := by
  unfold enumL
  rw [List.zipIdx_map, List.map_map]
  rfl
theorem zm_strs {F : Nm → T} : ∀ {xs ds : List Nm}, (ds ++ xs).Nodup → zmT (xs.map T.str) (xs.map F) (ds.map T.str) (ds.map F) = some ((ds ++ xs).map T.str, (ds ++ xs).map F)
  | [], ds, _ => by rw [List.append_nil]; rfl
  | x :: xs, ds, h => by
    have hx : x ∉ ds := fun k => (List.nodup_append.mp h).2.2 x k x List.mem_cons_self rfl
    rw [List.map_cons, List.map_cons]
    unfold zmT
    show zmT (xs.map T.str) (xs.map F) (dPk (ds.map T.str) (.inr (txt x)) (.str x)) (dPv (ds.map T.str) (ds.map F) (.inr (txt x)) (F x)) = _
    have e1 : dPk (ds.map T.str) (.inr (txt x)) (.str x) = (ds ++ [x]).map T.str := by
      unfold dPk
      rw [dHs_strs, decide_eq_false hx, if_neg (by simp), List.map_append]; rfl
    have e2 : dPv (ds.map T.str) (ds.map F) (.inr (txt x)) (F x) = (ds ++ [x]).map F := by
      unfold dPv
      rw [dHs_strs, decide_eq_false hx, if_neg (by simp), List.map_append]; rfl
    rw [e1, e2, zm_strs (by rw [List.append_assoc]; exact h), List.append_assoc]
    rfl
theorem dzip_strs {F : Nm → T} {xs : List Nm} (h : xs.Nodup) : dzipF emp [.lst (xs.map T.str), .lst (xs.map F)] = some (.dct false (xs.map T.str) (xs.map F)) := by
  rw [dzipF_l, if_pos (by rw [List.length_map, List.length_map])]
  have := zm_strs (F := F) (xs := xs) (ds := []) (by simpa using h)
  rw [List.nil_append] at this
  rw [show zmT (xs.map T.str) (xs.map F) [] [] = _ from this]
  rfl
theorem slen_strs {xs : List Nm} (hl : xs.length + 2 < scanBound) : slenT emp (.lst (xs.map T.str)) = some (.int (ddup T.str xs).length) := by
  rw [slenT_lst, setOk_strs hl, if_pos rfl, ddup_map, List.length_map]
theorem KE.ddup_full {α : Type} {e : α → T} (h : KE e) : ∀ {xs : List α}, xs.length ≤ (ddup e xs).length → xs.Nodup
  | [], _ => List.nodup_nil
  | x :: xs, hl => by
    have l := ddup_len (e := e) xs
    unfold ddup at hl
    split at hl
    · rw [List.length_cons] at hl; omega
    · rename_i hn
      rw [List.length_cons, List.length_cons] at hl
      refine List.nodup_cons.mpr ⟨fun hx => hn ?_, h.ddup_full (by omega)⟩
      exact List.any_eq_true.mpr ⟨x, h.ddup_mem.mpr hx, (eqt_kx _ _ (h.kx x) (h.kx x)).mpr rfl⟩
/-- pairs of the folk of two books -/
structure PairsOk (A B : Bk) (ps : List (Nm × Nm)) : Prop where
  nd1 : (ps.map (·.1)).Nodup
  nd2 : (ps.map (·.2)).Nodup
  m1 : ∀ p ∈ ps, p.1 ∈ A.names
  m2 : ∀ p ∈ ps, p.2 ∈ B.names
theorem pop_at {α : Type} {e : α → T} {xs : List α} {i : Int} (h0 : 0 ≤ i) (h1 : i < xs.length) (h2 : xs.length ≤ sizeLine) : ∃ (a : α) (ys zs : List α), xs = ys ++ a :: zs ∧ popIM (κ := Cell) (xs.map e) (.int i) = pu (e a, (ys ++ zs).map e) := by
  have hi : i.toNat < xs.length := by omega
  refine ⟨xs[i.toNat], xs.take i.toNat, xs.drop (i.toNat + 1), ?_, ?_⟩
  · rw [List.getElem_cons_drop, List.take_append_drop]
  · unfold popIM
    have hs := sizeLine_eq
    dsimp only
    rw [gd_c, gdc_t (by constructor <;> omega), pu_bd, List.getElem?_map, List.getElem?_eq_getElem hi]
    show pu (_, (xs.map e).eraseIdx i.toNat) = _
    rw [List.eraseIdx_eq_take_drop_succ, List.map_append, List.map_take, List.map_drop]
theorem ren_mem {B : Bk} {F : Nm → Nm} {n : Nm} (hn : n ∈ B.names) : F n ∈ (B.ren F).names := by
  obtain ⟨p, hp, rfl⟩ := List.mem_map.mp hn
  exact List.mem_map.mpr ⟨(F p.1, p.2), srt_mem.mpr (List.mem_map.mpr ⟨p, hp, rfl⟩), rfl⟩
theorem inj_of_nodup {α β : Type} {f : α → β} : ∀ {l : List α}, (l.map f).Nodup → ∀ a ∈ l, ∀ b ∈ l, f a = f b → a = b
  | x :: xs, h, a, ha, b, hb, e => by
    obtain ⟨h1, h2⟩ := List.nodup_cons.mp h
    rcases List.mem_cons.mp ha with z | z
    · rcases List.mem_cons.mp hb with w | w
      · rw [z, w]
      · rw [z] at e
        exact absurd (List.mem_map.mpr ⟨b, w, e.symm⟩) h1
    · rcases List.mem_cons.mp hb with w | w
      · rw [w] at e
        exact absurd (List.mem_map.mpr ⟨a, z, e⟩) h1
      · exact inj_of_nodup h2 a z b w e
theorem pu_inj {α : Type} {a b : α} (h : pu (κ := Cell) a = pu b) : a = b := by
  have := congrFun h (.lst [])
  unfold pu at this
  injection this
end TL

/-! TMl: rows of books. -/
namespace TL
open PySem PySem.Spec PyProof.Rows L2
/-- a kind of things that can be asked for -/
structure KQ {α : Type} (e : α → T) : Prop where
  inj : ∀ a b, e a = e b → a = b
  kx : ∀ a, kx (e a) = true
  dp : ∀ a, dep (e a) ≤ 8
section
variable {α : Type} {e : α → T}
theorem KE.kq (h : KE e) : KQ e := ⟨h.inj, h.kx, h.dp⟩
theorem KQ.okd (h : KQ e) (a : α) : okd (e a) = true := by
  have := h.dp a
  unfold TL.okd
  rw [kx_plain _ (h.kx a), decide_eq_true (by omega)]
  rfl
theorem KQ.eqt (h : KQ e) [DecidableEq α] (a b : α) : eqt (e a) (e b) = decide (a = b) := by
  have z := eqt_kx (e a) (e b) (h.kx a) (h.kx b)
  by_cases q : a = b
  · subst q; rw [decide_eq_true rfl]; exact z.mpr rfl
  · rw [decide_eq_false q]
    cases w : TL.eqt (e a) (e b) with
    | false => rfl
    | true => exact absurd (h.inj _ _ (z.mp w)) q
theorem KQ.any (h : KQ e) [DecidableEq α] (a : α) : ∀ xs : List α, ((xs.map e).any fun z => TL.eqt z (e a)) = decide (a ∈ xs)
  | [] => rfl
  | x :: xs => by
    rw [List.map_cons, List.any_cons, KQ.any h a xs, h.eqt]
    by_cases q : x = a
    · subst q; simp
    · have q' : a ≠ x := fun z => q z.symm
      simp [q, q']
theorem KQ.okds (h : KQ e) (xs : List α) : TL.okd (.lst (xs.map e)) = true ∧ TL.okd (.tup (xs.map e)) = true := okd_map fun x _ => ⟨h.okd x, by have := h.dp x; omega⟩
theorem KQ.inT (h : KQ e) [DecidableEq α] (a : α) (xs : List α) : inT emp (e a) (.tup (xs.map e)) = some (.bl (decide (a ∈ xs))) ∧ inT emp (e a) (.lst (xs.map e)) = some (.bl (decide (a ∈ xs))) := by
  constructor
  · unfold TL.inT inQ
    show Option.map _ (if (TL.okd (e a) && TL.okd (.tup (xs.map e))) = true then _ else none) = _
    rw [h.okd, (h.okds xs).2, Bool.and_self, if_pos rfl, h.any]; rfl
  · unfold TL.inT inQ
    show Option.map _ (if (TL.okd (e a) && TL.okd (.lst (xs.map e))) = true then _ else none) = _
    rw [h.okd, (h.okds xs).1, Bool.and_self, if_pos rfl, h.any]; rfl
theorem KQ.ninT (h : KQ e) [DecidableEq α] (a : α) (xs : List α) : ninT emp (e a) (.tup (xs.map e)) = some (.bl (!decide (a ∈ xs))) ∧ ninT emp (e a) (.lst (xs.map e)) = some (.bl (!decide (a ∈ xs))) := by
  constructor
  · unfold TL.ninT inQ
    show Option.map _ (if (TL.okd (e a) && TL.okd (.tup (xs.map e))) = true then _ else none) = _
    rw [h.okd, (h.okds xs).2, Bool.and_self, if_pos rfl, h.any]; rfl
  · unfold TL.ninT inQ
    show Option.map _ (if (TL.okd (e a) && TL.okd (.lst (xs.map e))) = true then _ else none) = _
    rw [h.okd, (h.okds xs).1, Bool.and_self, if_pos rfl, h.any]; rfl
end
/-! ### rows -/
inductive Rw where
  | fk (p : Nm × Nm) : Rw
  | un (f : List Nm) : Rw
  | bo (b : Nm × List Nm) : Rw
  | ad (b : Nm × List Nm) : Rw
  deriving DecidableEq
def wFolk : Nm := q "folk"
def wUnion : Nm := q "union"
def wBorn : Nm := q "born"
def wAdopted : Nm := q "adopted"
def rwT : Rw → T
  | .fk p => .tup [.str wFolk, .str p.1, .str p.2]
  | .un f => .tup [.str wUnion, famT f]
  | .bo b => .tup [.str wBorn, .str b.1, famT b.2]
  | .ad b => .tup [.str wAdopted, .str b.1, famT b.2]
theorem w_ne1 : wFolk ≠ wBorn := by decide +kernel
theorem w_ne2 : wFolk ≠ wAdopted := by decide +kernel
theorem w_ne3 : wBorn ≠ wAdopted := by decide +kernel
theorem rwT_inj : ∀ a b, rwT a = rwT b → a = b := by
  intro a b h
  cases a <;> cases b <;> simp only [rwT, T.tup.injEq, List.cons.injEq, T.str.injEq, and_true, reduceCtorEq, and_false, false_and] at h
  · obtain ⟨_, h1, h2⟩ := h; exact congrArg Rw.fk (Prod.ext h1 h2)
  · obtain ⟨_, h1, h2⟩ := h; cases h2
  · obtain ⟨_, h1, h2⟩ := h; cases h2
  · exact congrArg Rw.un (famT_inj h.2)
  · obtain ⟨_, h1, h2⟩ := h; cases h2
  · obtain ⟨_, h1, h2⟩ := h; exact congrArg Rw.bo (Prod.ext h1 (famT_inj h2))
  · exact absurd h.1 w_ne3
  · obtain ⟨_, h1, h2⟩ := h; cases h2
  · exact absurd h.1.symm w_ne3
  · obtain ⟨_, h1, h2⟩ := h; exact congrArg Rw.ad (Prod.ext h1 (famT_inj h2))
theorem kx_row (xs : List T) (h : ∀ x ∈ xs, kx x = true) : kx (.tup xs) = true := by
  show kxs xs = true
  induction xs with
  | nil => rfl
  | cons x xs ih =>
    show (kx x && kxs xs) = true
    rw [h x List.mem_cons_self, ih fun y hy => h y (List.mem_cons_of_mem _ hy)]
    rfl
theorem kx_2 {a b : T} (h1 : kx a = true) (h2 : kx b = true) : kx (.tup [a, b]) = true := kx_row _ fun x hx => by
  simp only [List.mem_cons, List.not_mem_nil, or_false] at hx
  rcases hx with rfl | rfl
  · exact h1
  · exact h2
theorem kx_3 {a b c : T} (h1 : kx a = true) (h2 : kx b = true) (h3 : kx c = true) : kx (.tup [a, b, c]) = true := kx_row _ fun x hx => by
  simp only [List.mem_cons, List.not_mem_nil, or_false] at hx
  rcases hx with rfl | rfl | rfl
  · exact h1
  · exact h2
  · exact h3
theorem kx_rw : ∀ a, kx (rwT a) = true := by
  intro a
  cases a with
  | fk p => exact kx_3 rfl rfl rfl
  | un f => exact kx_2 rfl (ke_fam.kx f)
  | bo b => exact kx_3 rfl rfl (ke_fam.kx _)
  | ad b => exact kx_3 rfl rfl (ke_fam.kx _)
theorem dp_rw : ∀ a, dep (rwT a) ≤ 8 := by
  intro a
  have hf : ∀ f, dep (famT f) ≤ 3 := fun f => by rw [(fam_facts f).2.2]; omega
  cases a with
  | fk p => show 1 ≤ 8; omega
  | un f => have := hf f; simp only [rwT, dep, deps]; omega
  | bo b => have := hf b.2; simp only [rwT, dep, deps]; omega
  | ad b => have := hf b.2; simp only [rwT, dep, deps]; omega
theorem kq_rw : KQ rwT := ⟨rwT_inj, kx_rw, dp_rw⟩
def Bk.rows (B : Bk) : List Rw := B.folk.map .fk ++ B.unions.map .un ++ B.births.map .bo ++ B.adopts.map .ad
theorem BkOk.lrows {B : Bk} (h : BkOk B) : B.rows.length ≤ 68 := by
  have := h.lf; have := h.lu; have := h.lb; have := h.la
  unfold Bk.rows
  simp only [List.length_append, List.length_map]
  omega
theorem rows_map (B : Bk) : B.rows.map rwT = B.folk.map (fun p => .tup [.str wFolk, .str p.1, .str p.2]) ++ B.unions.map (fun f => .tup [.str wUnion, famT f]) ++ B.births.map (fun b => .tup [.str wBorn, .str b.1, famT b.2]) ++ B.adopts.map (fun b => .tup [.str wAdopted, .str b.1, famT b.2]) := by
  unfold Bk.rows
  simp only [List.map_append, List.map_map]
  rfl
/-- what a row of a book tells -/
theorem rows_dt {B : Bk} (h : BkOk B) : ∀ r ∈ B.rows, Dt 3 (rwT r) := by
  have hf : ∀ f ∈ B.unions, Dt 2 (famT f) := fun f hf => (dt_fam _ (by have := (h.un f hf).hi; omega)).le (by omega)
  have hs : ∀ x : Nm, Dt 2 (.str x) := fun x => .str _ _
  intro r hr
  unfold Bk.rows at hr
  simp only [List.mem_append, List.mem_map] at hr
  rcases hr with ((⟨p, _, rfl⟩ | ⟨f, hu, rfl⟩) | ⟨b, hb, rfl⟩) | ⟨b, hb, rfl⟩
  · refine .tup (fun x hx => ?_) (by simp)
    simp only [List.mem_cons, List.not_mem_nil, or_false] at hx
    rcases hx with rfl | rfl | rfl <;> exact hs _
  · refine .tup (fun x hx => ?_) (by simp)
    simp only [List.mem_cons, List.not_mem_nil, or_false] at hx
    rcases hx with rfl | rfl
    · exact hs _
    · exact hf _ hu
  · refine .tup (fun x hx => ?_) (by simp)
    simp only [List.mem_cons, List.not_mem_nil, or_false] at hx
    rcases hx with rfl | rfl | rfl
    · exact hs _
    · exact hs _
    · exact hf _ (h.bi b hb).fam
  · refine .tup (fun x hx => ?_) (by simp)
    simp only [List.mem_cons, List.not_mem_nil, or_false] at hx
    rcases hx with rfl | rfl | rfl
    · exact hs _
    · exact hs _
    · exact hf _ (h.ad b hb).fam
def Bk.less (A B : Bk) : List Rw := A.rows.filter fun r => decide (decide (r ∈ B.rows) = false)
end TL

namespace K58
open PySem PySem.Spec PyProof.Rows L2 TL
/-! names_of -/
def N_names_of : List Str := ["book", "name", "mark"]
def c_names_of : TTS :=
  (cSeq (cRet (cComp (iSeq (cOp ixT (cVar 0) (cC (.int 0)))) (gT (gC (gN 1) (gC (gN 2) gZ))) bYes (cVar 1) [1, 2]))
    cSkip)
def m_names_of (p_book : T) : PM Unit T :=
  bd (bd (bd (bd (pu p_book) fun v1 => bd (pu (.int 0)) fun v2 => ofO (ixT emp v1 v2)) itemsM) fun xs6 => bd (compG (fun x3 => bd (ofO (un2 x3)) fun b4 => bd (pu b4.1) fun v5 => pu (some v5)) xs6) fun ys7 => pu (.lst ys7)) fun v8 => pu v8
theorem x_names_of (S : Sto) (p_book : T) : XS (fun _ : Unit => S) [some p_book, none, none] [] c_names_of (m_names_of p_book) .rt :=
  (xs_ret (g := fun v => v) (fun _ => rfl) (XE.v (xe_comp (XIy.i (xiy_seq (xe_op opv_ixT (XE.v (xe_var rfl)) (XE.v xe_c)))) (fun x3 => xc_unY xg_2 fun b4 => (xe_var rfl)))))
def sp_names_of : SpT := spU (u1 m_names_of)
theorem len_names_of : ∀ ts S Q E, sp_names_of ts S Q E → ts.length = 1 := spU_len ar1
theorem vc_names_of : VC N_names_of sp_names_of c_names_of := vc_u1 x_names_of
/-! by_names -/
def N_by_names : List Str := ["one", "other", "names", "name"]
def c_by_names : TTS :=
  (cSeq (cSet 2 (cCall sp_names_of (cCons (cVar 1) cNil)))
    (cSeq (cRet (cFn tupleF (cCons (cComp (iSeq (cCall sp_names_of (cCons (cVar 0) cNil))) (gN 3) (bVal (cOp inT (cVar 3) (cVar 2))) (cTup (cCons (cVar 3) (cCons (cVar 3) cNil))) [3]) cNil)))
    cSkip))
def m_by_names (p_one p_other : T) : PM Unit T :=
  bd (bd (pu p_other) fun v1 => lft (m_names_of v1)) fun v2 => bd (bd (bd (bd (bd (pu p_one) fun v4 => lft (m_names_of v4)) itemsM) fun xs12 => bd (compG (fun x5 => bd (bd (bd (pu x5) fun v9 => bd (pu v2) fun v10 => ofO (inT emp v9 v10)) tb) fun v11 => if v11 = true then bd (bd (pu x5) fun v6 => bd (pu x5) fun v7 => pu (.tup [v6, v7])) fun v8 => pu (some v8) else pu none) xs12) fun ys13 => pu (.lst ys13)) fun v14 => ofO (tupleF emp [v14])) fun v15 => pu v15
theorem x_by_names (S : Sto) (p_one p_other : T) : XS (fun _ : Unit => S) [some p_one, some p_other, none, none] [] c_by_names (m_by_names p_one p_other) .rt :=
  (xs_set (xe_call (xa_cons (xe_var rfl) xa_nil)) fun v2 => (xs_ret (g := fun v => v) (fun _ => rfl) (XE.v (xe_fn fnv_tupleF (xav_cons (XE.v (xe_comp (XIy.i (xiy_seq (xe_call (xa_cons (xe_var rfl) xa_nil)))) (fun x5 => xc_name (xb_val (xe_opr opv_inT (xe_var rfl) (XE.v (xe_var rfl)))) (xe_tup (xa_cons (xe_var rfl) (xa_cons (xe_var rfl) xa_nil)))))) xav_nil)))))
def sp_by_names : SpT := spU (u2 m_by_names)
theorem len_by_names : ∀ ts S Q E, sp_by_names ts S Q E → ts.length = 2 := spU_len ar2
theorem vc_by_names : VC N_by_names sp_by_names c_by_names := vc_u2 x_by_names
/-! law_pen_of -/
def N_law_pen_of : List Str := ["_law_script", "_law_cell"]
def c_law_pen_of : TTS :=
  (cSeq (cRet (cLstM (cCons (cComp (iSeq (cSl (cVar 0) oNo (oSome (cC (.int 63))))) (gN 1) bYes (cVar 1) [1]) (cCons (cC (.int 0)) (cCons (cC (.int 0)) cNil)))))
    cSkip)
abbrev sp_law_pen_of : SpT := sp_pen_of
theorem len_law_pen_of : ∀ ts S Q E, sp_law_pen_of ts S Q E → ts.length = 1 := fun ts S Q E h => by obtain ⟨_, rfl, _⟩ := h; rfl
theorem vc_law_pen_of : VC N_law_pen_of sp_law_pen_of c_law_pen_of := by
  rintro ts S Q E ⟨a, rfl, ns, rfl, hq⟩
  simp only [c_law_pen_of, N_law_pen_of, cSeq, cSkip, cRet, cRetN, cSet, cAsg, cDo, cIfS, cPar2, cPar3, cBrk, cCont, cVar, cC, cOp, cUn, cIf, cNil, cCons, cTup, cLst, cLstM, bVal, bAnd, bOr, bNot, bYes, cAnd, cOr, cNot, cCall, cFn, cM, cSl, oNo, oSome, cChain, gN, gT, gL, gZ, gC, gIx, cApp, cExt, cPop, cClr, TL.startT, List.map_cons, List.map_nil, List.cons_append, List.nil_append, List.length_cons, List.length_nil, List.replicate_succ, List.replicate_zero, List.set_cons_zero, List.set_cons_succ, List.getElem?_cons_zero, List.getElem?_cons_succ, Option.some.injEq, Option.map_some, exists_eq_left', exists_eq_left, T.bl.injEq, T.int.injEq, T.str.injEq, T.tup.injEq, T.lst.injEq, T.ref.injEq, List.cons.injEq, and_true, true_and, res, wipeT, sp1_at, sp2_at, sp3_at, sp4_at, sp5_at, Nat.reduceAdd, Nat.reduceSub, if_true, if_false, Bool.false_eq_true, Bool.true_eq_false, cComp, iSeq, slT_scr, items]
  have hl : (cutT ns none (some 63)).length ≤ 63 := by
    have h1 := cut_le ns none 63 (by omega)
    omega
  have hs := sizeLine_eq
  refine compT_map id trivial (by rw [List.length_map]; omega) ?_ ?_
  · rw [List.map_id]
    refine ⟨by omega, fun p hp => Fin.of (hq p _ hp ⟨_, 0, 0, rfl, by omega, by omega, by omega, hl⟩)⟩
  · intro x hx R N h
    simpa only [cSeq, cSkip, cRet, cRetN, cSet, cAsg, cDo, cIfS, cPar2, cPar3, cBrk, cCont, cVar, cC, cOp, cUn, cIf, cNil, cCons, cTup, cLst, cLstM, bVal, bAnd, bOr, bNot, bYes, cAnd, cOr, cNot, cCall, cFn, cM, cSl, oNo, oSome, cChain, gN, gT, gL, gZ, gC, gIx, cApp, cExt, cPop, cClr, TL.startT, List.map_cons, List.map_nil, List.cons_append, List.nil_append, List.length_cons, List.length_nil, List.replicate_succ, List.replicate_zero, List.set_cons_zero, List.set_cons_succ, List.getElem?_cons_zero, List.getElem?_cons_succ, Option.some.injEq, Option.map_some, exists_eq_left', exists_eq_left, T.bl.injEq, T.int.injEq, T.str.injEq, T.tup.injEq, T.lst.injEq, T.ref.injEq, List.cons.injEq, and_true, true_and, res, wipeT, sp1_at, sp2_at, sp3_at, sp4_at, sp5_at, Nat.reduceAdd, Nat.reduceSub, if_true, if_false, Bool.false_eq_true, Bool.true_eq_false, wipeT, id] using h
/-! law_draw -/
def N_law_draw : List Str := ["_law_pen", "_law_many", "_law_digit", "_law_at", "_law_cell", "_law_number"]
def c_law_draw : TTS :=
  (cSeq (cIfS (bVal (cOp gtT (cOp ixT (cVar 0) (cC (.int 2))) (cC (.int 0)))) (cSeq (cSet 2 (cOp modT (cOp ixT (cVar 0) (cC (.int 2))) (cVar 1)))
    (cSeq (cAsg (cOp fdivT (cOp ixT (cVar 0) (cC (.int 2))) (cVar 1)) (gIx (cVar 0) (cC (.int 2))))
    (cSeq (cRet (cVar 2))
    cSkip))) cSkip)
    (cSeq (cSet 3 (cOp ixT (cVar 0) (cC (.int 1))))
    (cSeq (cAsg (cOp addT (cVar 3) (cC (.int 1))) (gIx (cVar 0) (cC (.int 1))))
    (cSeq (cSet 4 (cC (.int 11)))
    (cSeq (cIfS (bVal (cOp gtT (cFn lenF (cCons (cOp ixT (cVar 0) (cC (.int 0))) cNil)) (cC (.int 0)))) (cSeq (cSet 4 (cOp ixT (cOp ixT (cVar 0) (cC (.int 0))) (cOp modT (cVar 3) (cFn lenF (cCons (cOp ixT (cVar 0) (cC (.int 0))) cNil)))))
    cSkip) cSkip)
    (cSeq (cIfS (bAnd (bVal (cOp ltT (cVar 3) (cFn lenF (cCons (cOp ixT (cVar 0) (cC (.int 0))) cNil)))) (bVal (cOp geT (cFn absF (cCons (cVar 4) cNil)) (cOp powT (cC (.int 10)) (cC (.int 18)))))) (cSeq (cAsg (cOp fdivT (cFn absF (cCons (cVar 4) cNil)) (cVar 1)) (gIx (cVar 0) (cC (.int 2))))
    (cSeq (cRet (cOp modT (cFn absF (cCons (cVar 4) cNil)) (cVar 1)))
    cSkip)) cSkip)
    (cSeq (cSet 5 (cOp modT (cOp mulT2 (cOp addT (cOp addT (cOp modT (cVar 4) (cC (.int 2147483647))) (cOp mulT2 (cC (.int 69621)) (cVar 3))) (cC (.int 13))) (cC (.int 48271))) (cC (.int 2147483629))))
    (cSeq (cSet 5 (cOp modT (cOp mulT2 (cOp modT (cOp mulT2 (cVar 5) (cVar 5)) (cC (.int 2147483587))) (cOp addT (cOp addT (cOp modT (cVar 5) (cC (.int 65521))) (cOp mulT2 (cC (.int 7)) (cVar 3))) (cC (.int 1)))) (cC (.int 2147483563))))
    (cSeq (cRet (cOp modT (cOp fdivT (cVar 5) (cC (.int 32))) (cVar 1)))
    cSkip)))))))))
abbrev m_law_draw (t : T) : PM Cell T := m_draw t
def sp_law_draw : SpT := spP (u1 m_draw)
theorem len_law_draw : ∀ ts S Q E, sp_law_draw ts S Q E → ts.length = 2 := spP_len ar1
theorem vc_law_draw : VC N_law_draw sp_law_draw c_law_draw := by
  rintro ts S Q E ⟨p, rs, c, rfl, h4, h⟩
  have hr : ∃ t, rs = [t] := by
    have := ar1 (f := m_draw) rs c (sat_nb h)
    match rs, this with
    | [t], _ => exact ⟨t, rfl⟩
  obtain ⟨t, rfl⟩ := hr
  obtain ⟨ns, at_, rest, many, rfl, rfl, ⟨h1, h2, a1, a2, a3, a4⟩, hq⟩ := sat_draw h
  clear h
  unfold penCell at h4
  simp only [c_law_draw, N_law_draw, cSeq, cSkip, cRet, cRetN, cSet, cAsg, cDo, cIfS, cPar2, cPar3, cBrk, cCont, cVar, cC, cOp, cUn, cIf, cNil, cCons, cTup, cLst, cLstM, bVal, bAnd, bOr, bNot, bYes, cAnd, cOr, cNot, cCall, cFn, cM, cSl, oNo, oSome, cChain, gN, gT, gL, gZ, gC, gIx, cApp, cExt, cPop, cClr, TL.startT, List.map_cons, List.map_nil, List.cons_append, List.nil_append, List.length_cons, List.length_nil, List.replicate_succ, List.replicate_zero, List.set_cons_zero, List.set_cons_succ, List.getElem?_cons_zero, List.getElem?_cons_succ, Option.some.injEq, Option.map_some, exists_eq_left', exists_eq_left, T.bl.injEq, T.int.injEq, T.str.injEq, T.tup.injEq, T.lst.injEq, T.ref.injEq, List.cons.injEq, and_true, true_and, res, wipeT, sp1_at, sp2_at, sp3_at, sp4_at, sp5_at, Nat.reduceAdd, Nat.reduceSub, if_true, if_false, Bool.false_eq_true, Bool.true_eq_false, ex_ite, addT_int, addT_str, addT_lst, addT_tup, subT_int, mulT2_int, mulT2_str, fdivT_int, modT_int, powT_int, negT_int, eqT_int, neT_int, eqT_str, neT_str, eqT_bl, neT_bl, ltT_int, gtT_int, leT_int, geT_int, ixT_lst, ixT_tup, ixT_str, atI_0, atI_1, atI_2, atI_3, ixT_ups, lenF_ups, ixN_30, ixN_31, ixN_32, lenF_lst, lenF_tup, lenF_str, absF_int, intF_int, intF_bl, max2F_int, min2F_int, strF_int, isi_str, isi_int, isi_tup, isi_lst, slT_lst, slT_tup, slT_str, slT_scr, ssetT_lst, ssetT_tup, slenT_lst, slenT_tup, sortedF_lst, sortedF_tup, tupleF_lst, tupleF_tup, listF_lst, listF_tup, inT_strs, ninT_strs, ups_ups, ups_same, decide_eq_true_eq, Cell.lst.injEq, Option.map_eq_some_iff, exists_and_left, exists_const, Bool.not_eq_true', ixT_ref h4, h4]
  have a2 : at_ ≤ 1000000000000000000000000000000 := a2
  unfold drawStep at hq
  by_cases r : 0 < rest
  · rw [if_pos r] at hq ⊢
    exact ⟨modI_b h1, divI_b h1 (by omega), Fin.of hq⟩
  rw [if_neg r] at hq ⊢
  have m1 : mulI 69621 at_ = true := mulI_b (by omega) (by omega)
  have m2 : mulI 7 at_ = true := mulI_b (by omega) (by omega)
  have m3 : ∀ z : Int, mulI (z.fmod 2147483647 + 69621 * at_ + 13) 48271 = true := fun z => by
    have := fmod_lo (i := z) (j := 2147483647) (by omega)
    have := fmod_hi (i := z) (j := 2147483647) (by omega)
    exact mulI_b (by omega) (by omega)
  have m4 : ∀ z : Int, mulI (z.fmod 2147483629) (z.fmod 2147483629) = true := fun z => by
    have := fmod_lo (i := z) (j := 2147483629) (by omega)
    have := fmod_hi (i := z) (j := 2147483629) (by omega)
    exact mulI_b (by omega) (by omega)
  have m5 : ∀ z y : Int, mulI (z.fmod 2147483587) (y.fmod 65521 + 7 * at_ + 1) = true := fun z y => by
    have := fmod_lo (i := z) (j := 2147483587) (by omega)
    have := fmod_hi (i := z) (j := 2147483587) (by omega)
    have := fmod_lo (i := y) (j := 65521) (by omega)
    have := fmod_hi (i := y) (j := 65521) (by omega)
    exact mulI_b (by omega) (by omega)
  have hp : powI 10 18 = true := by decide
  have e1 : ∀ z : Int, modI z 2147483647 = true := fun z => modI_b (by omega)
  have e2 : ∀ z : Int, modI z 2147483629 = true := fun z => modI_b (by omega)
  have e3 : ∀ z : Int, modI z 2147483587 = true := fun z => modI_b (by omega)
  have e4 : ∀ z : Int, modI z 65521 = true := fun z => modI_b (by omega)
  have e5 : ∀ z : Int, modI z 2147483563 = true := fun z => modI_b (by omega)
  have e6 : ∀ z : Int, modI z many = true := fun z => modI_b h1
  have e7 : ∀ z : Int, divI z many = true := fun z => divI_b h1 (by omega)
  have e8 : ∀ z : Int, divI z 32 = true := fun z => divI_b (by omega) (by omega)
  have ft : (false = true) = False := by simp
  have t18 : (10 : Int) ^ Int.toNat 18 = 10 ^ 18 := rfl
  by_cases l : 0 < ((ns.map T.int).length : Int)
  · rw [if_pos l]
    refine ⟨modI_b l, ?_⟩
    have ll : 0 < ns.length := by rw [List.length_map] at l; omega
    have ez : L2.atI (ns.map T.int) (at_.fmod ((ns.map T.int).length : Int)) = some (.int (cellAt ns at_)) := by
      have lo := fmod_lo (i := at_) l
      have hi := fmod_hi (i := at_) l
      rw [List.length_map] at lo hi ⊢
      unfold cellAt
      rw [if_pos ll, atI_map]
      obtain ⟨k, hk⟩ := Int.eq_ofNat_of_zero_le lo
      rw [hk, atI_natE, Int.toNat_natCast, List.getD_eq_getElem?_getD]
      have : k < ns.length := by omega
      rw [List.getElem?_eq_getElem this]
      rfl
    refine ⟨_, ez, ?_⟩
    simp only [cSeq, cSkip, cRet, cRetN, cSet, cAsg, cDo, cIfS, cPar2, cPar3, cBrk, cCont, cVar, cC, cOp, cUn, cIf, cNil, cCons, cTup, cLst, cLstM, bVal, bAnd, bOr, bNot, bYes, cAnd, cOr, cNot, cCall, cFn, cM, cSl, oNo, oSome, cChain, gN, gT, gL, gZ, gC, gIx, cApp, cExt, cPop, cClr, TL.startT, List.map_cons, List.map_nil, List.cons_append, List.nil_append, List.length_cons, List.length_nil, List.replicate_succ, List.replicate_zero, List.set_cons_zero, List.set_cons_succ, List.getElem?_cons_zero, List.getElem?_cons_succ, Option.some.injEq, Option.map_some, exists_eq_left', exists_eq_left, T.bl.injEq, T.int.injEq, T.str.injEq, T.tup.injEq, T.lst.injEq, T.ref.injEq, List.cons.injEq, and_true, true_and, res, wipeT, sp1_at, sp2_at, sp3_at, sp4_at, sp5_at, Nat.reduceAdd, Nat.reduceSub, if_true, if_false, Bool.false_eq_true, Bool.true_eq_false, ex_ite, addT_int, addT_str, addT_lst, addT_tup, subT_int, mulT2_int, mulT2_str, fdivT_int, modT_int, powT_int, negT_int, eqT_int, neT_int, eqT_str, neT_str, eqT_bl, neT_bl, ltT_int, gtT_int, leT_int, geT_int, ixT_lst, ixT_tup, ixT_str, atI_0, atI_1, atI_2, atI_3, ixT_ups, lenF_ups, ixN_30, ixN_31, ixN_32, lenF_lst, lenF_tup, lenF_str, absF_int, intF_int, intF_bl, max2F_int, min2F_int, strF_int, isi_str, isi_int, isi_tup, isi_lst, slT_lst, slT_tup, slT_str, slT_scr, ssetT_lst, ssetT_tup, slenT_lst, slenT_tup, sortedF_lst, sortedF_tup, tupleF_lst, tupleF_tup, listF_lst, listF_tup, inT_strs, ninT_strs, ups_ups, ups_same, decide_eq_true_eq, Cell.lst.injEq, Option.map_eq_some_iff, exists_and_left, exists_const, Bool.not_eq_true', m1, m2, m3, m4, m5, hp, e1, e2, e3, e4, e5, e6, e7, e8, ft, if_false, t18, List.length_map]
    by_cases b1 : at_ < (ns.length : Int)
    · rw [if_pos b1] at hq ⊢
      by_cases b2 : 10 ^ 18 ≤ absI (cellAt ns at_)
      · rw [if_pos b2] at hq
        have b3 : 10 ^ 18 ≤ (if cellAt ns at_ < 0 then -(cellAt ns at_) else cellAt ns at_) := b2
        rw [if_pos b3]
        exact Fin.of hq
      · rw [if_neg b2] at hq
        have b3 : ¬ 10 ^ 18 ≤ (if cellAt ns at_ < 0 then -(cellAt ns at_) else cellAt ns at_) := b2
        rw [if_neg b3]
        exact Fin.of hq
    · rw [if_neg b1] at hq ⊢
      exact Fin.of hq
  · rw [if_neg l]
    have ll : ¬ 0 < ns.length := by rw [List.length_map] at l; omega
    have b1 : ¬ at_ < (ns.length : Int) := by omega
    have ez : cellAt ns at_ = 11 := by unfold cellAt; rw [if_neg ll]
    rw [if_neg b1, ez] at hq
    simp only [cSeq, cSkip, cRet, cRetN, cSet, cAsg, cDo, cIfS, cPar2, cPar3, cBrk, cCont, cVar, cC, cOp, cUn, cIf, cNil, cCons, cTup, cLst, cLstM, bVal, bAnd, bOr, bNot, bYes, cAnd, cOr, cNot, cCall, cFn, cM, cSl, oNo, oSome, cChain, gN, gT, gL, gZ, gC, gIx, cApp, cExt, cPop, cClr, TL.startT, List.map_cons, List.map_nil, List.cons_append, List.nil_append, List.length_cons, List.length_nil, List.replicate_succ, List.replicate_zero, List.set_cons_zero, List.set_cons_succ, List.getElem?_cons_zero, List.getElem?_cons_succ, Option.some.injEq, Option.map_some, exists_eq_left', exists_eq_left, T.bl.injEq, T.int.injEq, T.str.injEq, T.tup.injEq, T.lst.injEq, T.ref.injEq, List.cons.injEq, and_true, true_and, res, wipeT, sp1_at, sp2_at, sp3_at, sp4_at, sp5_at, Nat.reduceAdd, Nat.reduceSub, if_true, if_false, Bool.false_eq_true, Bool.true_eq_false, ex_ite, addT_int, addT_str, addT_lst, addT_tup, subT_int, mulT2_int, mulT2_str, fdivT_int, modT_int, powT_int, negT_int, eqT_int, neT_int, eqT_str, neT_str, eqT_bl, neT_bl, ltT_int, gtT_int, leT_int, geT_int, ixT_lst, ixT_tup, ixT_str, atI_0, atI_1, atI_2, atI_3, ixT_ups, lenF_ups, ixN_30, ixN_31, ixN_32, lenF_lst, lenF_tup, lenF_str, absF_int, intF_int, intF_bl, max2F_int, min2F_int, strF_int, isi_str, isi_int, isi_tup, isi_lst, slT_lst, slT_tup, slT_str, slT_scr, ssetT_lst, ssetT_tup, slenT_lst, slenT_tup, sortedF_lst, sortedF_tup, tupleF_lst, tupleF_tup, listF_lst, listF_tup, inT_strs, ninT_strs, ups_ups, ups_same, decide_eq_true_eq, Cell.lst.injEq, Option.map_eq_some_iff, exists_and_left, exists_const, Bool.not_eq_true', m1, m2, m3, m4, m5, hp, e1, e2, e3, e4, e5, e6, e7, e8, ft, if_false, t18, List.length_map]
    rw [if_neg b1]
    exact Fin.of hq
/-! law_are_same -/
def N_law_are_same : List Str := ["_law_found", "_law_due", "_law_one", "_law_other"]
def r_law_are_same : Nat → T → T → PM Unit T
  | 0, _, _ => stuck
  | n + 1, p_found, p_due => bd (bd (bd (pu p_due) fun v1 => ofO (isiT [.lst, .tup] emp v1)) tb) fun v2 => if v2 = true then bd (bd (bd (bd (bd (pu p_found) fun v7 => ofO (isiT [.lst, .tup] emp v7)) tb) fun v8 => pu !v8) fun v9 => if v9 = true then pu true else (bd (bd (bd (pu p_found) fun v3 => ofO (isiT [.lst] emp v3)) fun v5 => bd (bd (pu p_due) fun v4 => ofO (isiT [.lst] emp v4)) fun v6 => ofO (neT emp v5 v6)) tb)) fun v10 => if v10 = true then bd (pu (.bl false)) fun v11 => pu v11 else bd (bd (bd (bd (pu p_found) fun v12 => ofO (lenF emp [v12])) fun v14 => bd (bd (pu p_due) fun v13 => ofO (lenF emp [v13])) fun v15 => ofO (neT emp v14 v15)) tb) fun v16 => if v16 = true then bd (pu (.bl false)) fun v17 => pu v17 else bd (bd (bd (bd (pu p_found) fun v18 => bd (pu p_due) fun v19 => zipM v18 v19) fun xs25 => bd (compG (fun x20 => bd (ofO (un2 x20)) fun b21 => bd (bd (pu b21.1) fun v22 => bd (pu b21.2) fun v23 => lft (r_law_are_same n v22 v23)) fun v24 => pu (some v24)) xs25) fun ys26 => pu (.lst ys26)) fun v27 => ofO (allF emp [v27])) fun v28 => pu v28 else bd (bd (bd (bd (bd (pu p_found) fun v33 => ofO (isiT [.bool] emp v33)) fun v35 => bd (bd (pu p_due) fun v34 => ofO (isiT [.bool] emp v34)) fun v36 => ofO (neT emp v35 v36)) tb) fun v37 => if v37 = true then pu true else (bd (bd (bd (pu p_found) fun v29 => ofO (isiT [.str] emp v29)) fun v31 => bd (bd (pu p_due) fun v30 => ofO (isiT [.str] emp v30)) fun v32 => ofO (neT emp v31 v32)) tb)) fun v38 => if v38 = true then bd (pu (.bl false)) fun v39 => pu v39 else bd (bd (bd (bd (pu p_found) fun v42 => ofO (isiT [.int] emp v42)) fun v44 => bd (bd (pu p_due) fun v43 => ofO (isiT [.int] emp v43)) fun v45 => ofO (eqT emp v44 v45)) fun v46 => bd (tb v46) fun v47 => if v47 = true then (bd (pu p_found) fun v40 => bd (pu p_due) fun v41 => ofO (eqT emp v40 v41)) else pu (.bl false)) fun v48 => pu v48
def rp_law_are_same (n : Nat) : SpT := spU (u2 (r_law_are_same n))
def c_law_are_same (n : Nat) : TTS :=
  (cSeq (cIfS (bVal (cUn (isiT [.lst, .tup]) (cVar 1))) (cSeq (cIfS (bOr (bNot (bVal (cUn (isiT [.lst, .tup]) (cVar 0)))) (bVal (cOp neT (cUn (isiT [.lst]) (cVar 0)) (cUn (isiT [.lst]) (cVar 1))))) (cSeq (cRet (cC (.bl false)))
    cSkip) cSkip)
    (cSeq (cIfS (bVal (cOp neT (cFn lenF (cCons (cVar 0) cNil)) (cFn lenF (cCons (cVar 1) cNil)))) (cSeq (cRet (cC (.bl false)))
    cSkip) cSkip)
    (cSeq (cRet (cFn allF (cCons (cComp (iZip (cVar 0) (cVar 1)) (gT (gC (gN 2) (gC (gN 3) gZ))) bYes (cCall (rp_law_are_same n) (cCons (cVar 2) (cCons (cVar 3) cNil))) [2, 3]) cNil)))
    cSkip))) cSkip)
    (cSeq (cIfS (bOr (bVal (cOp neT (cUn (isiT [.bool]) (cVar 0)) (cUn (isiT [.bool]) (cVar 1)))) (bVal (cOp neT (cUn (isiT [.str]) (cVar 0)) (cUn (isiT [.str]) (cVar 1))))) (cSeq (cRet (cC (.bl false)))
    cSkip) cSkip)
    (cSeq (cRet (cAnd (cOp eqT (cUn (isiT [.int]) (cVar 0)) (cUn (isiT [.int]) (cVar 1))) (cOp eqT (cVar 0) (cVar 1))))
    cSkip)))
theorem x_law_are_same (S : Sto) (n : Nat) (p_found p_due : T) : XS (fun _ : Unit => S) [some p_found, some p_due, none, none] [] (c_law_are_same n) (r_law_are_same (n + 1) p_found p_due) .rt :=
  (xs_ifE (xb_val (xe_un unv_isiT (XE.v (xe_var rfl)))) (xs_assoc (xs_ifE (xb_or (xb_not (xb_val (xe_un unv_isiT (XE.v (xe_var rfl))))) (xb_val (xe_op opv_neT (XE.v (xe_un unv_isiT (XE.v (xe_var rfl)))) (XE.v (xe_un unv_isiT (XE.v (xe_var rfl))))))) (xs_assoc (xs_ret (g := fun v => v) (fun _ => rfl) (XE.v xe_c))) (xs_skipseq (xs_assoc (xs_ifE (xb_val (xe_op opv_neT (XE.v (xe_fn fnv_lenF (xav_cons (XE.v (xe_var rfl)) xav_nil))) (XE.v (xe_fn fnv_lenF (xav_cons (XE.v (xe_var rfl)) xav_nil))))) (xs_assoc (xs_ret (g := fun v => v) (fun _ => rfl) (XE.v xe_c))) (xs_skipseq (xs_assoc (xs_ret (g := fun v => v) (fun _ => rfl) (XE.v (xe_fn fnv_allF (xav_cons (XE.v (xe_comp (XIy.i (xiy_zip (xe_var rfl) (xe_var rfl))) (fun x20 => xc_unY xg_2 fun b21 => (xe_call (xa_cons (xe_var rfl) (xa_cons (xe_var rfl) xa_nil)))))) xav_nil))))))))))) (xs_skipseq (xs_ifE (xb_or (xb_val (xe_op opv_neT (XE.v (xe_un unv_isiT (XE.v (xe_var rfl)))) (XE.v (xe_un unv_isiT (XE.v (xe_var rfl)))))) (xb_val (xe_op opv_neT (XE.v (xe_un unv_isiT (XE.v (xe_var rfl)))) (XE.v (xe_un unv_isiT (XE.v (xe_var rfl))))))) (xs_assoc (xs_ret (g := fun v => v) (fun _ => rfl) (XE.v xe_c))) (xs_skipseq (xs_ret (g := fun v => v) (fun _ => rfl) (XE.v (xe_and (xe_op opv_eqT (XE.v (xe_un unv_isiT (XE.v (xe_var rfl)))) (XE.v (xe_un unv_isiT (XE.v (xe_var rfl))))) (xe_op opv_eqT (XE.v (xe_var rfl)) (XE.v (xe_var rfl))))))))))
theorem len_law_are_same (n : Nat) : ∀ ts S Q E, rp_law_are_same n ts S Q E → ts.length = 2 := spU_len ar2
theorem vc_law_are_same (n : Nat) : VC N_law_are_same (rp_law_are_same (n + 1)) (c_law_are_same n) := vc_u2 fun S p_found p_due => x_law_are_same S n p_found p_due
def m_law_are_same (p_found p_due : T) : PM Unit T := r_law_are_same 12 p_found p_due
def sp_law_are_same : SpT := spU (u2 m_law_are_same)
/-! law_some_names -/
def N_law_some_names : List Str := ["_law_pen", "_law_many", "_law_letters", "_law_words", "_law_found", "_law_k", "_law_size", "_law_name", "_law_letter", "_law_j"]
def c_law_some_names : TTS :=
  (cSeq (cSet 2 (cC (.str (q "abcdefghijklmnopqrstuvwxyz"))))
    (cSeq (cSet 3 (cLst (cCons (cC (.str (q "of"))) (cCons (cC (.str (q "w"))) (cCons (cC (.str (q "m"))) (cCons (cC (.str (q "o"))) (cCons (cC (.str (q "folk"))) (cCons (cC (.str (q "union"))) (cCons (cC (.str (q "born"))) (cCons (cC (.str (q "adopted"))) (cCons (cC (.str (q "away"))) (cCons (cC (.str (q "who"))) (cCons (cC (.str (q "lead"))) (cCons (cC (.str (q "back"))) (cCons (cC (.str (q "show"))) cNil)))))))))))))))
    (cSeq (cSet 4 (cLstM cNil))
    (cSeq (cFor (iRange1 (cVar 1)) (gN 5) ((cSeq (cSet 6 (cOp ixT (cLst (cCons (cC (.int 1)) (cCons (cC (.int 2)) (cCons (cC (.int 8)) (cCons (cOp addT (cC (.int 1)) (cCall sp_law_draw (cCons (cVar 0) (cCons (cC (.int 8)) cNil)))) cNil))))) (cCall sp_law_draw (cCons (cVar 0) (cCons (cC (.int 4)) cNil)))))
    (cSeq (cSet 7 (cM isStr joinF (cC (.str (q ""))) (cCons (cComp (iRange1 (cVar 6)) (gN 9) bYes (cOp ixT (cVar 2) (cCall sp_law_draw (cCons (cVar 0) (cCons (cC (.int 26)) cNil)))) [9]) cNil)))
    (cSeq (cIfS (bAnd (bVal (cOp neT (cVar 4) (cLst cNil))) (bVal (cOp eqT (cCall sp_law_draw (cCons (cVar 0) (cCons (cC (.int 3)) cNil))) (cC (.int 0))))) (cSeq (cSet 7 (cSl (cOp addT (cOp ixT (cVar 4) (cCall sp_law_draw (cCons (cVar 0) (cCons (cFn lenF (cCons (cVar 4) cNil)) cNil)))) (cOp ixT (cVar 2) (cCall sp_law_draw (cCons (cVar 0) (cCons (cC (.int 26)) cNil))))) oNo (oSome (cC (.int 8)))))
    cSkip) cSkip)
    (cSeq (cIfS (bVal (cOp eqT (cCall sp_law_draw (cCons (cVar 0) (cCons (cC (.int 6)) cNil))) (cC (.int 0)))) (cSeq (cSet 7 (cOp ixT (cVar 3) (cCall sp_law_draw (cCons (cVar 0) (cCons (cC (.int 13)) cNil)))))
    cSkip) cSkip)
    (cSeq (cFor (iSeq (cVar 2)) (gN 8) ((cSeq (cIfS (bVal (cOp inT (cVar 7) (cVar 4))) (cSeq (cSet 7 (cOp addT (cSl (cVar 7) oNo (oSome (cOp subT (cFn lenF (cCons (cVar 7) cNil)) (cC (.int 1))))) (cVar 8)))
    cSkip) cSkip)
    cSkip)))
    (cSeq (cIfS (bVal (cOp ninT (cVar 7) (cVar 4))) (cSeq (cDo (cApp (cVar 4) (cVar 7)))
    cSkip) cSkip)
    cSkip))))))))
    (cSeq (cRet (cVar 4))
    cSkip)))))
def m_law_some_names (p_many : T) : PM Cell T :=
  bd (pu (.str (q "abcdefghijklmnopqrstuvwxyz"))) fun v1 => bd (bd (pu (.str (q "of"))) fun v3 => bd (pu (.str (q "w"))) fun v4 => bd (pu (.str (q "m"))) fun v5 => bd (pu (.str (q "o"))) fun v6 => bd (pu (.str (q "folk"))) fun v7 => bd (pu (.str (q "union"))) fun v8 => bd (pu (.str (q "born"))) fun v9 => bd (pu (.str (q "adopted"))) fun v10 => bd (pu (.str (q "away"))) fun v11 => bd (pu (.str (q "who"))) fun v12 => bd (pu (.str (q "lead"))) fun v13 => bd (pu (.str (q "back"))) fun v14 => bd (pu (.str (q "show"))) fun v15 => pu (.lst [v3, v4, v5, v6, v7, v8, v9, v10, v11, v12, v13, v14, v15])) fun v16 => bd (pu ([] : List T)) fun ys18 => bd (bd (bd (pu p_many) rng1) fun xs102 => forM (fun x21 (s20 : List T) => bd (bd (bd (pu (.int 1)) fun v25 => bd (pu (.int 2)) fun v26 => bd (pu (.int 8)) fun v27 => bd (bd (pu (.int 1)) fun v23 => bd (bd (pu (.int 8)) fun v22 => m_law_draw v22) fun v24 => ofO (addT emp v23 v24)) fun v28 => pu (.lst [v25, v26, v27, v28])) fun v30 => bd (bd (pu (.int 4)) fun v29 => m_law_draw v29) fun v31 => ofO (ixT emp v30 v31)) fun v32 => bd (bd (pu (.str (q ""))) fun v34 => bd (gd (isStr v34 = true)) fun _ => (bd (bd (bd (pu v32) rng1) fun xs40 => bd (compG (fun x35 => bd (bd (pu v1) fun v37 => bd (bd (pu (.int 26)) fun v36 => m_law_draw v36) fun v38 => ofO (ixT emp v37 v38)) fun v39 => pu (some v39)) xs40) fun ys41 => pu (.lst ys41)) fun v42 => ofO (joinF emp v34 [v42]))) fun v43 => bd (bd (bd (bd (bd (pu (.lst s20)) fun v48 => bd (pu (.lst [])) fun v49 => ofO (neT emp v48 v49)) tb) fun v50 => if v50 = true then (bd (bd (bd (pu (.int 3)) fun v45 => m_law_draw v45) fun v46 => bd (pu (.int 0)) fun v47 => ofO (eqT emp v46 v47)) tb) else pu false) fun v51 => if v51 = true then (bd (bd (bd (bd (pu (.lst s20)) fun v55 => bd (bd (bd (pu (.lst s20)) fun v53 => ofO (lenF emp [v53])) fun v54 => m_law_draw v54) fun v56 => ofO (ixT emp v55 v56)) fun v60 => bd (bd (pu v1) fun v58 => bd (bd (pu (.int 26)) fun v57 => m_law_draw v57) fun v59 => ofO (ixT emp v58 v59)) fun v61 => ofO (addT emp v60 v61)) fun v64 => bd (pu none) fun v65 => bd (bd (pu (.int 8)) fun v62 => bd (intO v62) fun v63 => pu (some v63)) fun v66 => ofO (slT emp v64 v65 v66)) fun v67 => pu v67 : PM _ (T)) else pu v43) fun s52 => bd (bd (bd (bd (bd (pu (.int 6)) fun v69 => m_law_draw v69) fun v70 => bd (pu (.int 0)) fun v71 => ofO (eqT emp v70 v71)) tb) fun v72 => if v72 = true then (bd (bd (pu v16) fun v75 => bd (bd (pu (.int 13)) fun v74 => m_law_draw v74) fun v76 => ofO (ixT emp v75 v76)) fun v77 => pu v77 : PM _ (T)) else pu s52) fun s73 => bd (bd (bd (pu v1) itemsM) fun xs96 => forM (fun x80 (s79 : T) => bd (bd (bd (pu s79) fun v81 => bd (pu (.lst s20)) fun v82 => ofO (inT emp v81 v82)) tb) fun v83 => if v83 = true then bd (bd (bd (pu s79) fun v89 => bd (pu none) fun v90 => bd (bd (bd (bd (pu s79) fun v84 => ofO (lenF emp [v84])) fun v85 => bd (pu (.int 1)) fun v86 => ofO (subT emp v85 v86)) fun v87 => bd (intO v87) fun v88 => pu (some v88)) fun v91 => ofO (slT emp v89 v90 v91)) fun v92 => bd (pu x80) fun v93 => ofO (addT emp v92 v93)) fun v94 => pu v94 else pu s79) xs96 s73) fun (s79 : T) => bd (bd (bd (pu s79) fun v97 => bd (pu (.lst s20)) fun v98 => ofO (ninT emp v97 v98)) tb) fun v99 => if v99 = true then bd (pu s79) fun v101 => bd (appM s20 v101) fun ys100 => pu ys100 else pu s20) xs102 ys18) fun (s20 : List T) => bd (pu (.lst s20)) fun v103 => pu v103
theorem x_law_some_names (S : Sto) (pa : Addr) (p_many : T) : XS (penW S pa) [some (.ref pa), some p_many, none, none, none, none, none, none, none, none] [] c_law_some_names (m_law_some_names p_many) .rt :=
  (xs_set xe_c fun v1 => (xs_set (xe_lst (xa_cons xe_c (xa_cons xe_c (xa_cons xe_c (xa_cons xe_c (xa_cons xe_c (xa_cons xe_c (xa_cons xe_c (xa_cons xe_c (xa_cons xe_c (xa_cons xe_c (xa_cons xe_c (xa_cons xe_c (xa_cons xe_c xa_nil)))))))))))))) fun v16 => (xs_new (xn_lst xa_nil) fun ys18 a19 => (xs_seq (xs_for (σ := List T) (P := fun s20 => [some (.ref pa), some p_many, some v1, some v16, some (.ref a19), none, none, none, none, none]) (C := fun s20 => [(a19, .lst s20)]) (s0 := ys18) (xiy_range1 (xe_var rfl)) ⟨.inr rfl, .inr rfl, .inr rfl, .inr rfl, .inr rfl, .inl rfl, .inl rfl, .inl rfl, .inl rfl, .inl rfl, trivial⟩ rfl (fun x21 s20 => xf_name (xs_set (xe_op opv_ixT (XE.v (xe_lst (xa_cons xe_c (xa_cons xe_c (xa_cons xe_c (xa_cons (xe_op opv_addT (XE.v xe_c) (XE.v (xe_callP rfl (xa_cons xe_c xa_nil)))) xa_nil)))))) (XE.v (xe_callP rfl (xa_cons xe_c xa_nil)))) fun v32 => (xs_set (xe_m mtv_joinF xe_c fun v34 => (xav_cons (XE.v (xe_comp (XIy.i (xiy_range1 (xe_var rfl))) (fun x35 => xc_nameY (xe_op opv_ixT (XE.v (xe_var rfl)) (XE.v (xe_callP rfl (xa_cons xe_c xa_nil))))))) xav_nil)) fun v43 => (xs_seq (σ := T) (P := fun s52 => [some (.ref pa), some p_many, some v1, some v16, some (.ref a19), some x21, some v32, some s52, none, none]) (C := fun s52 => [(a19, .lst s20)]) (xs_if (xb_and (xb_val (xe_op opv_neT (xv_cell rfl (.head _)) (XE.v (xe_lst xa_nil)))) (xb_val (xe_op opv_eqT (XE.v (xe_callP rfl (xa_cons xe_c xa_nil))) (XE.v xe_c)))) (xs_set (xe_sl (XE.v (xe_op opv_addT (XE.v (xe_op opv_ixT (xv_cell rfl (.head _)) (XE.v (xe_callP rfl (xa_cons (xe_fn fnv_lenF (xav_cons (xv_cell rfl (.head _)) xav_nil)) xa_nil))))) (XE.v (xe_op opv_ixT (XE.v (xe_var rfl)) (XE.v (xe_callP rfl (xa_cons xe_c xa_nil))))))) xo_no (xo_some xe_c)) fun v67 => (xs_skip rfl ⟨.inr rfl, .inr rfl, .inr rfl, .inr rfl, .inr rfl, .inr rfl, .inr rfl, .inr rfl, .inl rfl, .inl rfl, trivial⟩)) (xs_skip rfl ⟨.inr rfl, .inr rfl, .inr rfl, .inr rfl, .inr rfl, .inr rfl, .inr rfl, .inr rfl, .inl rfl, .inl rfl, trivial⟩)) fun s52 => (xs_seq (σ := T) (P := fun s73 => [some (.ref pa), some p_many, some v1, some v16, some (.ref a19), some x21, some v32, some s73, none, none]) (C := fun s73 => [(a19, .lst s20)]) (xs_if (xb_val (xe_op opv_eqT (XE.v (xe_callP rfl (xa_cons xe_c xa_nil))) (XE.v xe_c))) (xs_set (xe_op opv_ixT (XE.v (xe_var rfl)) (XE.v (xe_callP rfl (xa_cons xe_c xa_nil)))) fun v77 => (xs_skip rfl ⟨.inr rfl, .inr rfl, .inr rfl, .inr rfl, .inr rfl, .inr rfl, .inr rfl, .inr rfl, .inl rfl, .inl rfl, trivial⟩)) (xs_skip rfl ⟨.inr rfl, .inr rfl, .inr rfl, .inr rfl, .inr rfl, .inr rfl, .inr rfl, .inr rfl, .inl rfl, .inl rfl, trivial⟩)) fun s73 => (xs_seq (xs_for (σ := T) (P := fun s79 => [some (.ref pa), some p_many, some v1, some v16, some (.ref a19), some x21, some v32, some s79, none, none]) (C := fun s79 => [(a19, .lst s20)]) (s0 := s73) (xiy_seq (xe_var rfl)) ⟨.inr rfl, .inr rfl, .inr rfl, .inr rfl, .inr rfl, .inr rfl, .inr rfl, .inr rfl, .inl rfl, .inl rfl, trivial⟩ rfl (fun x80 s79 => xf_name (xs_ifE (xb_val (xe_opr opv_inT (xe_var rfl) (xv_cell rfl (.head _)))) (xs_assoc (xs_set (xe_op opv_addT (XE.v (xe_sl (XE.v (xe_var rfl)) xo_no (xo_some (xe_op opv_subT (XE.v (xe_fn fnv_lenF (xav_cons (XE.v (xe_var rfl)) xav_nil))) (XE.v xe_c))))) (XE.v (xe_var rfl))) fun v94 => (xs_skipseq (xs_skip rfl ⟨.inr rfl, .inr rfl, .inr rfl, .inr rfl, .inr rfl, .inr rfl, .inr rfl, .inr rfl, .inl rfl, .inl rfl, trivial⟩)))) (xs_skipseq (xs_skip rfl ⟨.inr rfl, .inr rfl, .inr rfl, .inr rfl, .inr rfl, .inr rfl, .inr rfl, .inr rfl, .inl rfl, .inl rfl, trivial⟩))))) fun s79 => (xs_ifE (xb_val (xe_opr opv_ninT (xe_var rfl) (xv_cell rfl (.head _)))) (xs_assoc (xs_app (l1 := []) (l2 := []) rfl (xe_var rfl) fun ys100 => (xs_skipseq (xs_skip rfl ⟨.inr rfl, .inr rfl, .inr rfl, .inr rfl, .inr rfl, .inl rfl, .inl rfl, .inl rfl, .inl rfl, .inl rfl, trivial⟩)))) (xs_skipseq (xs_skip rfl ⟨.inr rfl, .inr rfl, .inr rfl, .inr rfl, .inr rfl, .inl rfl, .inl rfl, .inl rfl, .inl rfl, .inl rfl, trivial⟩)))))))))) fun s20 => (xs_ret (g := fun v => v) (fun _ => rfl) (xv_cell rfl (.head _)))))))
def sp_law_some_names : SpT := spP (u1 m_law_some_names)
theorem len_law_some_names : ∀ ts S Q E, sp_law_some_names ts S Q E → ts.length = 2 := spP_len ar1
theorem vc_law_some_names : VC N_law_some_names sp_law_some_names c_law_some_names := vc_p1 x_law_some_names
/-! law_some_family -/
def N_law_some_family : List Str := ["_law_pen", "_law_names", "_law_one", "_law_other"]
def c_law_some_family : TTS :=
  (cSeq (cPar2 2 3 (cOp ixT (cVar 1) (cCall sp_law_draw (cCons (cVar 0) (cCons (cFn lenF (cCons (cVar 1) cNil)) cNil)))) (cOp ixT (cVar 1) (cCall sp_law_draw (cCons (cVar 0) (cCons (cFn lenF (cCons (cVar 1) cNil)) cNil)))))
    (cSeq (cIfS (bVal (cOp eqT (cVar 2) (cVar 3))) (cSeq (cRet (cTup (cCons (cVar 2) cNil)))
    cSkip) cSkip)
    (cSeq (cRet (cTup (cCons (cVar 2) (cCons (cVar 3) cNil))))
    cSkip)))
def m_law_some_family (p_names : T) : PM Cell T :=
  bd (bd (pu p_names) fun v3 => bd (bd (bd (pu p_names) fun v1 => ofO (lenF emp [v1])) fun v2 => m_law_draw v2) fun v4 => ofO (ixT emp v3 v4)) fun v5 => bd (bd (pu p_names) fun v9 => bd (bd (bd (pu p_names) fun v7 => ofO (lenF emp [v7])) fun v8 => m_law_draw v8) fun v10 => ofO (ixT emp v9 v10)) fun v11 => bd (bd (bd (pu v5) fun v13 => bd (pu v11) fun v14 => ofO (eqT emp v13 v14)) tb) fun v15 => if v15 = true then bd (bd (pu v5) fun v16 => pu (.tup [v16])) fun v17 => pu v17 else bd (bd (pu v5) fun v18 => bd (pu v11) fun v19 => pu (.tup [v18, v19])) fun v20 => pu v20
theorem x_law_some_family (S : Sto) (pa : Addr) (p_names : T) : XS (penW S pa) [some (.ref pa), some p_names, none, none] [] c_law_some_family (m_law_some_family p_names) .rt :=
  (xs_par2 (xn_e (xe_op opv_ixT (XE.v (xe_var rfl)) (XE.v (xe_callP rfl (xa_cons (xe_fn fnv_lenF (xav_cons (XE.v (xe_var rfl)) xav_nil)) xa_nil))))) (fun v5 a6 => (xn_e (xe_op opv_ixT (XE.v (xe_var rfl)) (XE.v (xe_callP rfl (xa_cons (xe_fn fnv_lenF (xav_cons (XE.v (xe_var rfl)) xav_nil)) xa_nil)))))) fun v5 a6 v11 a12 => (xs_ifE (xb_val (xe_op opv_eqT (XE.v (xe_var rfl)) (XE.v (xe_var rfl)))) (xs_assoc (xs_ret (g := fun v => v) (fun _ => rfl) (XE.v (xe_tup (xa_cons (xe_var rfl) xa_nil))))) (xs_skipseq (xs_ret (g := fun v => v) (fun _ => rfl) (XE.v (xe_tup (xa_cons (xe_var rfl) (xa_cons (xe_var rfl) xa_nil))))))))
def sp_law_some_family : SpT := spP (u1 m_law_some_family)
theorem len_law_some_family : ∀ ts S Q E, sp_law_some_family ts S Q E → ts.length = 2 := spP_len ar1
theorem vc_law_some_family : VC N_law_some_family sp_law_some_family c_law_some_family := vc_p1 x_law_some_family
/-! law_any_book -/
def N_law_any_book : List Str := ["_law_pen", "_law_most", "_law_great", "_law_names", "_law_folk", "_law_unions", "_law_births", "_law_adoptions", "_law_count", "_law_k", "_law_family", "_law_child", "_law_name"]
def c_law_any_book : TTS :=
  (cSeq (cSet 2 (cFn intF (cCons (cOp eqT (cCall sp_law_draw (cCons (cVar 0) (cCons (cC (.int 8)) cNil))) (cC (.int 0))) cNil)))
    (cSeq (cSet 3 (cCall sp_law_some_names (cCons (cVar 0) (cCons (cOp ixT (cLst (cCons (cCall sp_law_draw (cCons (cVar 0) (cCons (cOp addT (cVar 1) (cC (.int 1))) cNil))) (cCons (cVar 1) cNil))) (cVar 2)) cNil))))
    (cSeq (cSet 4 (cComp (iSeq (cVar 3)) (gN 12) bYes (cTup (cCons (cVar 12) (cCons (cOp ixT (cC (.str (q "wmo"))) (cCall sp_law_draw (cCons (cVar 0) (cCons (cC (.int 3)) cNil)))) cNil))) [12]))
    (cSeq (cPar3 5 6 7 (cLst cNil) (cLstM cNil) (cLstM cNil))
    (cSeq (cIfS (bVal (cOp neT (cVar 3) (cLst cNil))) (cSeq (cSet 8 (cOp ixT (cLst (cCons (cCall sp_law_draw (cCons (cVar 0) (cCons (cOp addT (cVar 1) (cC (.int 1))) cNil))) (cCons (cC (.int 40)) cNil))) (cVar 2)))
    (cSeq (cSet 5 (cComp (iRange1 (cVar 8)) (gN 9) bYes (cFn tupleF (cCons (cFn sortedF (cCons (cCall sp_law_some_family (cCons (cVar 0) (cCons (cVar 3) cNil))) cNil)) cNil)) [9]))
    (cSeq (cSet 5 (cSl (cUn ssetT (cVar 5)) oNo (oSome (cC (.int 16)))))
    cSkip))) cSkip)
    (cSeq (cFor (iRange1 (cOp mulT2 (cOp ixT (cLst (cCons (cCall sp_law_draw (cCons (cVar 0) (cCons (cC (.int 25)) cNil))) (cCons (cC (.int 40)) cNil))) (cVar 2)) (cFn intF (cCons (cOp neT (cVar 5) (cLst cNil)) cNil)))) (gN 9) ((cSeq (cPar2 10 11 (cOp ixT (cVar 5) (cCall sp_law_draw (cCons (cVar 0) (cCons (cFn lenF (cCons (cVar 5) cNil)) cNil)))) (cOp ixT (cVar 3) (cCall sp_law_draw (cCons (cVar 0) (cCons (cFn lenF (cCons (cVar 3) cNil)) cNil)))))
    (cSeq (cIfS (bVal (cOp ninT (cVar 11) (cVar 10))) (cSeq (cDo (cApp (cVar 6) (cTup (cCons (cVar 11) (cCons (cVar 10) cNil)))))
    cSkip) cSkip)
    cSkip))))
    (cDrop (cSeq (cFor (iRange1 (cOp mulT2 (cOp ixT (cLst (cCons (cCall sp_law_draw (cCons (cVar 0) (cCons (cC (.int 13)) cNil))) (cCons (cC (.int 16)) cNil))) (cVar 2)) (cFn intF (cCons (cOp neT (cVar 5) (cLst cNil)) cNil)))) (gN 9) ((cSeq (cPar2 10 11 (cOp ixT (cVar 5) (cCall sp_law_draw (cCons (cVar 0) (cCons (cFn lenF (cCons (cVar 5) cNil)) cNil)))) (cOp ixT (cVar 3) (cCall sp_law_draw (cCons (cVar 0) (cCons (cFn lenF (cCons (cVar 3) cNil)) cNil)))))
    (cSeq (cIfS (bVal (cOp ninT (cVar 11) (cVar 10))) (cSeq (cDo (cApp (cVar 7) (cTup (cCons (cVar 11) (cCons (cVar 10) cNil)))))
    cSkip) cSkip)
    cSkip))))
    (cDrop (cSeq (cPar2 6 7 (cSl (cUn ssetT (cVar 6)) oNo (oSome (cC (.int 24)))) (cSl (cUn ssetT (cVar 7)) oNo (oSome (cC (.int 12)))))
    (cSeq (cRet (cTup (cCons (cFn tupleF (cCons (cFn sortedF (cCons (cVar 4) cNil)) cNil)) (cCons (cFn tupleF (cCons (cVar 5) cNil)) (cCons (cFn tupleF (cCons (cVar 6) cNil)) (cCons (cFn tupleF (cCons (cVar 7) cNil)) cNil))))))
    cSkip)))))))))))
def m_law_any_book (p_most : T) : PM Cell T :=
  bd (bd (bd (bd (pu (.int 8)) fun v1 => m_law_draw v1) fun v2 => bd (pu (.int 0)) fun v3 => ofO (eqT emp v2 v3)) fun v4 => ofO (intF emp [v4])) fun v5 => bd (bd (bd (bd (bd (bd (pu p_most) fun v7 => bd (pu (.int 1)) fun v8 => ofO (addT emp v7 v8)) fun v9 => m_law_draw v9) fun v10 => bd (pu p_most) fun v11 => pu (.lst [v10, v11])) fun v12 => bd (pu v5) fun v13 => ofO (ixT emp v12 v13)) fun v14 => m_law_some_names v14) fun v15 => bd (bd (bd (pu v15) itemsM) fun xs24 => bd (compG (fun x17 => bd (bd (pu x17) fun v21 => bd (bd (pu (.str (q "wmo"))) fun v19 => bd (bd (pu (.int 3)) fun v18 => m_law_draw v18) fun v20 => ofO (ixT emp v19 v20)) fun v22 => pu (.tup [v21, v22])) fun v23 => pu (some v23)) xs24) fun ys25 => pu (.lst ys25)) fun v26 => bd (pu (.lst [])) fun v28 => bd (pu ([] : List T)) fun ys30 => bd (pu ([] : List T)) fun ys32 => bd (bd (bd (bd (pu v15) fun v34 => bd (pu (.lst [])) fun v35 => ofO (neT emp v34 v35)) tb) fun v36 => if v36 = true then (bd (bd (bd (bd (bd (pu p_most) fun v38 => bd (pu (.int 1)) fun v39 => ofO (addT emp v38 v39)) fun v40 => m_law_draw v40) fun v41 => bd (pu (.int 40)) fun v42 => pu (.lst [v41, v42])) fun v43 => bd (pu v5) fun v44 => ofO (ixT emp v43 v44)) fun v45 => bd (bd (bd (pu v45) rng1) fun xs52 => bd (compG (fun x47 => bd (bd (bd (bd (pu v15) fun v48 => m_law_some_family v48) fun v49 => ofO (sortedF emp [v49])) fun v50 => ofO (tupleF emp [v50])) fun v51 => pu (some v51)) xs52) fun ys53 => pu (.lst ys53)) fun v54 => bd (bd (bd (pu v54) fun v56 => ofO (ssetT emp v56)) fun v59 => bd (pu none) fun v60 => bd (bd (pu (.int 16)) fun v57 => bd (intO v57) fun v58 => pu (some v58)) fun v61 => ofO (slT emp v59 v60 v61)) fun v62 => pu v62 : PM _ (T)) else pu v28) fun s37 => bd (bd (bd (bd (bd (bd (bd (pu (.int 25)) fun v65 => m_law_draw v65) fun v66 => bd (pu (.int 40)) fun v67 => pu (.lst [v66, v67])) fun v68 => bd (pu v5) fun v69 => ofO (ixT emp v68 v69)) fun v73 => bd (bd (bd (pu s37) fun v70 => bd (pu (.lst [])) fun v71 => ofO (neT emp v70 v71)) fun v72 => ofO (intF emp [v72])) fun v74 => ofO (mulT2 emp v73 v74)) rng1) fun xs95 => forM (fun x75 (s64 : List T) => bd (bd (pu s37) fun v78 => bd (bd (bd (pu s37) fun v76 => ofO (lenF emp [v76])) fun v77 => m_law_draw v77) fun v79 => ofO (ixT emp v78 v79)) fun v80 => bd (bd (pu v15) fun v84 => bd (bd (bd (pu v15) fun v82 => ofO (lenF emp [v82])) fun v83 => m_law_draw v83) fun v85 => ofO (ixT emp v84 v85)) fun v86 => bd (bd (bd (pu v86) fun v88 => bd (pu v80) fun v89 => ofO (ninT emp v88 v89)) tb) fun v90 => if v90 = true then bd (bd (pu v86) fun v93 => bd (pu v80) fun v94 => pu (.tup [v93, v94])) fun v92 => bd (appM s64 v92) fun ys91 => pu ys91 else pu s64) xs95 ys30) fun (s64 : List T) => bd (bd (bd (bd (bd (bd (bd (pu (.int 13)) fun v97 => m_law_draw v97) fun v98 => bd (pu (.int 16)) fun v99 => pu (.lst [v98, v99])) fun v100 => bd (pu v5) fun v101 => ofO (ixT emp v100 v101)) fun v105 => bd (bd (bd (pu s37) fun v102 => bd (pu (.lst [])) fun v103 => ofO (neT emp v102 v103)) fun v104 => ofO (intF emp [v104])) fun v106 => ofO (mulT2 emp v105 v106)) rng1) fun xs127 => forM (fun x107 (s96 : List T) => bd (bd (pu s37) fun v110 => bd (bd (bd (pu s37) fun v108 => ofO (lenF emp [v108])) fun v109 => m_law_draw v109) fun v111 => ofO (ixT emp v110 v111)) fun v112 => bd (bd (pu v15) fun v116 => bd (bd (bd (pu v15) fun v114 => ofO (lenF emp [v114])) fun v115 => m_law_draw v115) fun v117 => ofO (ixT emp v116 v117)) fun v118 => bd (bd (bd (pu v118) fun v120 => bd (pu v112) fun v121 => ofO (ninT emp v120 v121)) tb) fun v122 => if v122 = true then bd (bd (pu v118) fun v125 => bd (pu v112) fun v126 => pu (.tup [v125, v126])) fun v124 => bd (appM s96 v124) fun ys123 => pu ys123 else pu s96) xs127 ys32) fun (s96 : List T) => bd (bd (bd (pu (.lst s64)) fun v128 => ofO (ssetT emp v128)) fun v131 => bd (pu none) fun v132 => bd (bd (pu (.int 24)) fun v129 => bd (intO v129) fun v130 => pu (some v130)) fun v133 => ofO (slT emp v131 v132 v133)) fun v134 => bd (bd (bd (pu (.lst s96)) fun v136 => ofO (ssetT emp v136)) fun v139 => bd (pu none) fun v140 => bd (bd (pu (.int 12)) fun v137 => bd (intO v137) fun v138 => pu (some v138)) fun v141 => ofO (slT emp v139 v140 v141)) fun v142 => bd (bd (bd (bd (pu v26) fun v144 => ofO (sortedF emp [v144])) fun v145 => ofO (tupleF emp [v145])) fun v149 => bd (bd (pu s37) fun v146 => ofO (tupleF emp [v146])) fun v150 => bd (bd (pu v134) fun v147 => ofO (tupleF emp [v147])) fun v151 => bd (bd (pu v142) fun v148 => ofO (tupleF emp [v148])) fun v152 => pu (.tup [v149, v150, v151, v152])) fun v153 => pu v153
theorem x_law_any_book (S : Sto) (pa : Addr) (p_most : T) : XS (penW S pa) [some (.ref pa), some p_most, none, none, none, none, none, none, none, none, none, none, none] [] c_law_any_book (m_law_any_book p_most) .rt :=
  (xs_set (xe_fnx fnx_intF (xa_cons (xe_op opv_eqT (XE.v (xe_callP rfl (xa_cons xe_c xa_nil))) (XE.v xe_c)) xa_nil)) fun v5 => (xs_set (xe_callP rfl (xa_cons (xe_op opv_ixT (XE.v (xe_lst (xa_cons (xe_callP rfl (xa_cons (xe_op opv_addT (XE.v (xe_var rfl)) (XE.v xe_c)) xa_nil)) (xa_cons (xe_var rfl) xa_nil)))) (XE.v (xe_var rfl))) xa_nil)) fun v15 => (xs_set (xe_comp (XIy.i (xiy_seq (xe_var rfl))) (fun x17 => xc_nameY (xe_tup (xa_cons (xe_var rfl) (xa_cons (xe_op opv_ixT (XE.v xe_c) (XE.v (xe_callP rfl (xa_cons xe_c xa_nil)))) xa_nil))))) fun v26 => (xs_par3 (xn_e (xe_lst xa_nil)) (fun v28 a29 => (xn_lst xa_nil)) (fun v28 a29 ys30 a31 => (xn_lst xa_nil)) fun v28 a29 ys30 a31 ys32 a33 => (xs_seq (σ := T) (P := fun s37 => [some (.ref pa), some p_most, some v5, some v15, some v26, some s37, some (.ref a31), some (.ref a33), none, none, none, none, none]) (C := fun s37 => [(a33, .lst ys32), (a31, .lst ys30)]) (xs_if (xb_val (xe_op opv_neT (XE.v (xe_var rfl)) (XE.v (xe_lst xa_nil)))) (xs_set (xe_op opv_ixT (XE.v (xe_lst (xa_cons (xe_callP rfl (xa_cons (xe_op opv_addT (XE.v (xe_var rfl)) (XE.v xe_c)) xa_nil)) (xa_cons xe_c xa_nil)))) (XE.v (xe_var rfl))) fun v45 => (xs_set (xe_comp (XIy.i (xiy_range1 (xe_var rfl))) (fun x47 => xc_nameY (xe_fn fnv_tupleF (xav_cons (XE.v (xe_fn fnv_sortedF (xav_cons (XE.v (xe_callP rfl (xa_cons (xe_var rfl) xa_nil))) xav_nil))) xav_nil)))) fun v54 => (xs_set (xe_sl (XE.v (xe_un unv_ssetT (XE.v (xe_var rfl)))) xo_no (xo_some xe_c)) fun v62 => (xs_skip rfl ⟨.inr rfl, .inr rfl, .inr rfl, .inr rfl, .inr rfl, .inr rfl, .inr rfl, .inr rfl, .inl rfl, .inl rfl, .inl rfl, .inl rfl, .inl rfl, trivial⟩)))) (xs_skip rfl ⟨.inr rfl, .inr rfl, .inr rfl, .inr rfl, .inr rfl, .inr rfl, .inr rfl, .inr rfl, .inl rfl, .inl rfl, .inl rfl, .inl rfl, .inl rfl, trivial⟩)) fun s37 => (xs_seq (xs_for (σ := List T) (P := fun s64 => [some (.ref pa), some p_most, some v5, some v15, some v26, some s37, some (.ref a31), some (.ref a33), none, none, none, none, none]) (C := fun s64 => [(a33, .lst ys32), (a31, .lst s64)]) (s0 := ys30) (xiy_range1 (xe_op opv_mulT2 (XE.v (xe_op opv_ixT (XE.v (xe_lst (xa_cons (xe_callP rfl (xa_cons xe_c xa_nil)) (xa_cons xe_c xa_nil)))) (XE.v (xe_var rfl)))) (XE.v (xe_fnx fnx_intF (xa_cons (xe_op opv_neT (XE.v (xe_var rfl)) (XE.v (xe_lst xa_nil))) xa_nil))))) ⟨.inr rfl, .inr rfl, .inr rfl, .inr rfl, .inr rfl, .inr rfl, .inr rfl, .inr rfl, .inl rfl, .inl rfl, .inl rfl, .inl rfl, .inl rfl, trivial⟩ rfl (fun x75 s64 => xf_name (xs_par2 (xn_e (xe_op opv_ixT (XE.v (xe_var rfl)) (XE.v (xe_callP rfl (xa_cons (xe_fn fnv_lenF (xav_cons (XE.v (xe_var rfl)) xav_nil)) xa_nil))))) (fun v80 a81 => (xn_e (xe_op opv_ixT (XE.v (xe_var rfl)) (XE.v (xe_callP rfl (xa_cons (xe_fn fnv_lenF (xav_cons (XE.v (xe_var rfl)) xav_nil)) xa_nil)))))) fun v80 a81 v86 a87 => (xs_ifE (xb_val (xe_opr opv_ninT (xe_var rfl) (XE.v (xe_var rfl)))) (xs_assoc (xs_app (l1 := [(a33, .lst ys32)]) (l2 := []) rfl (xe_tup (xa_cons (xe_var rfl) (xa_cons (xe_var rfl) xa_nil))) fun ys91 => (xs_skipseq (xs_skip rfl ⟨.inr rfl, .inr rfl, .inr rfl, .inr rfl, .inr rfl, .inr rfl, .inr rfl, .inr rfl, .inl rfl, .inl rfl, .inl rfl, .inl rfl, .inl rfl, trivial⟩)))) (xs_skipseq (xs_skip rfl ⟨.inr rfl, .inr rfl, .inr rfl, .inr rfl, .inr rfl, .inr rfl, .inr rfl, .inr rfl, .inl rfl, .inl rfl, .inl rfl, .inl rfl, .inl rfl, trivial⟩)))))) fun s64 => (xs_drop (i := 6) (l1 := [(a33, .lst ys32)]) (l2 := []) rfl (xs_seq (xs_for (σ := List T) (P := fun s96 => [some (.ref pa), some p_most, some v5, some v15, some v26, some s37, some (.lst s64), some (.ref a33), none, none, none, none, none]) (C := fun s96 => [(a33, .lst s96)]) (s0 := ys32) (xiy_range1 (xe_op opv_mulT2 (XE.v (xe_op opv_ixT (XE.v (xe_lst (xa_cons (xe_callP rfl (xa_cons xe_c xa_nil)) (xa_cons xe_c xa_nil)))) (XE.v (xe_var rfl)))) (XE.v (xe_fnx fnx_intF (xa_cons (xe_op opv_neT (XE.v (xe_var rfl)) (XE.v (xe_lst xa_nil))) xa_nil))))) ⟨.inr rfl, .inr rfl, .inr rfl, .inr rfl, .inr rfl, .inr rfl, .inr rfl, .inr rfl, .inl rfl, .inl rfl, .inl rfl, .inl rfl, .inl rfl, trivial⟩ rfl (fun x107 s96 => xf_name (xs_par2 (xn_e (xe_op opv_ixT (XE.v (xe_var rfl)) (XE.v (xe_callP rfl (xa_cons (xe_fn fnv_lenF (xav_cons (XE.v (xe_var rfl)) xav_nil)) xa_nil))))) (fun v112 a113 => (xn_e (xe_op opv_ixT (XE.v (xe_var rfl)) (XE.v (xe_callP rfl (xa_cons (xe_fn fnv_lenF (xav_cons (XE.v (xe_var rfl)) xav_nil)) xa_nil)))))) fun v112 a113 v118 a119 => (xs_ifE (xb_val (xe_opr opv_ninT (xe_var rfl) (XE.v (xe_var rfl)))) (xs_assoc (xs_app (l1 := []) (l2 := []) rfl (xe_tup (xa_cons (xe_var rfl) (xa_cons (xe_var rfl) xa_nil))) fun ys123 => (xs_skipseq (xs_skip rfl ⟨.inr rfl, .inr rfl, .inr rfl, .inr rfl, .inr rfl, .inr rfl, .inr rfl, .inr rfl, .inl rfl, .inl rfl, .inl rfl, .inl rfl, .inl rfl, trivial⟩)))) (xs_skipseq (xs_skip rfl ⟨.inr rfl, .inr rfl, .inr rfl, .inr rfl, .inr rfl, .inr rfl, .inr rfl, .inr rfl, .inl rfl, .inl rfl, .inl rfl, .inl rfl, .inl rfl, trivial⟩)))))) fun s96 => (xs_drop (i := 7) (l1 := []) (l2 := []) rfl (xs_par2 (xn_e (xe_sl (XE.v (xe_un unv_ssetT (XE.v (xe_var rfl)))) xo_no (xo_some xe_c))) (fun v134 a135 => (xn_e (xe_sl (XE.v (xe_un unv_ssetT (XE.v (xe_var rfl)))) xo_no (xo_some xe_c)))) fun v134 a135 v142 a143 => (xs_ret (g := fun v => v) (fun _ => rfl) (XE.v (xe_tup (xa_cons (xe_fn fnv_tupleF (xav_cons (XE.v (xe_fn fnv_sortedF (xav_cons (XE.v (xe_var rfl)) xav_nil))) xav_nil)) (xa_cons (xe_fn fnv_tupleF (xav_cons (XE.v (xe_var rfl)) xav_nil)) (xa_cons (xe_fn fnv_tupleF (xav_cons (XE.v (xe_var rfl)) xav_nil)) (xa_cons (xe_fn fnv_tupleF (xav_cons (XE.v (xe_var rfl)) xav_nil)) xa_nil)))))))))))))))))
def sp_law_any_book : SpT := spP (u1 m_law_any_book)
theorem len_law_any_book : ∀ ts S Q E, sp_law_any_book ts S Q E → ts.length = 2 := spP_len ar1
theorem vc_law_any_book : VC N_law_any_book sp_law_any_book c_law_any_book := vc_p1 x_law_any_book
/-! law_names_in -/
def N_law_names_in : List Str := ["_law_book", "_law_name", "_law_mark"]
def c_law_names_in : TTS :=
  (cSeq (cRet (cComp (iSeq (cOp ixT (cVar 0) (cC (.int 0)))) (gT (gC (gN 1) (gC (gN 2) gZ))) bYes (cVar 1) [1, 2]))
    cSkip)
def m_law_names_in (p_book : T) : PM Unit T :=
  bd (bd (bd (bd (pu p_book) fun v1 => bd (pu (.int 0)) fun v2 => ofO (ixT emp v1 v2)) itemsM) fun xs6 => bd (compG (fun x3 => bd (ofO (un2 x3)) fun b4 => bd (pu b4.1) fun v5 => pu (some v5)) xs6) fun ys7 => pu (.lst ys7)) fun v8 => pu v8
theorem x_law_names_in (S : Sto) (p_book : T) : XS (fun _ : Unit => S) [some p_book, none, none] [] c_law_names_in (m_law_names_in p_book) .rt :=
  (xs_ret (g := fun v => v) (fun _ => rfl) (XE.v (xe_comp (XIy.i (xiy_seq (xe_op opv_ixT (XE.v (xe_var rfl)) (XE.v xe_c)))) (fun x3 => xc_unY xg_2 fun b4 => (xe_var rfl)))))
def sp_law_names_in : SpT := spU (u1 m_law_names_in)
theorem len_law_names_in : ∀ ts S Q E, sp_law_names_in ts S Q E → ts.length = 1 := spU_len ar1
theorem vc_law_names_in : VC N_law_names_in sp_law_names_in c_law_names_in := vc_u1 x_law_names_in
/-! law_part_of -/
def N_law_part_of : List Str := ["_law_pen", "_law_book", "_law_rate", "_law_names", "_law_folk", "_law_unions", "_law_parts", "_law_part", "_law_some", "_law_name", "_law_mark", "_law_family", "_law_one"]
def c_law_part_of : TTS :=
  (cSeq (cSet 3 (cComp (iSeq (cCall sp_law_names_in (cCons (cVar 1) cNil))) (gN 9) (bVal (cOp gtT (cCall sp_law_draw (cCons (cVar 0) (cCons (cVar 2) cNil))) (cC (.int 0)))) (cVar 9) [9]))
    (cSeq (cSet 4 (cComp (iSeq (cOp ixT (cVar 1) (cC (.int 0)))) (gT (gC (gN 9) (gC (gN 10) gZ))) (bVal (cOp inT (cVar 9) (cVar 3))) (cTup (cCons (cVar 9) (cCons (cOp ixT (cLst (cCons (cVar 10) (cCons (cC (.str (q "o"))) cNil))) (cFn intF (cCons (cOp eqT (cCall sp_law_draw (cCons (cVar 0) (cCons (cC (.int 6)) cNil))) (cC (.int 0))) cNil))) cNil))) [9, 10]))
    (cSeq (cSet 5 (cComp (iSeq (cOp ixT (cVar 1) (cC (.int 1)))) (gN 11) (bVal (cOp eqT (cComp (iSeq (cVar 11)) (gN 9) (bVal (cOp ninT (cVar 9) (cVar 3))) (cVar 9) [9]) (cLst cNil))) (cVar 11) [11]))
    (cSeq (cSet 5 (cComp (iSeq (cVar 5)) (gN 11) (bVal (cOp gtT (cCall sp_law_draw (cCons (cVar 0) (cCons (cVar 2) cNil))) (cC (.int 0)))) (cVar 11) [11]))
    (cSeq (cSet 6 (cLstM (cCons (cFn tupleF (cCons (cVar 4) cNil)) (cCons (cFn tupleF (cCons (cVar 5) cNil)) cNil))))
    (cSeq (cFor (iSeq (cSl (cVar 1) (oSome (cC (.int 2))) oNo)) (gN 7) ((cSeq (cSet 8 (cComp (iSeq (cVar 7)) (gN 12) (bAnd (bVal (cOp inT (cOp ixT (cVar 12) (cC (.int 0))) (cVar 3))) (bAnd (bVal (cOp inT (cOp ixT (cVar 12) (cC (.int 1))) (cVar 5))) (bVal (cOp gtT (cCall sp_law_draw (cCons (cVar 0) (cCons (cVar 2) cNil))) (cC (.int 0)))))) (cVar 12) [12]))
    (cSeq (cDo (cApp (cVar 6) (cFn tupleF (cCons (cVar 8) cNil))))
    cSkip))))
    (cDrop (cSeq (cRet (cFn tupleF (cCons (cVar 6) cNil)))
    cSkip))))))))
def m_law_part_of (p_book p_rate : T) : PM Cell T :=
  bd (bd (bd (bd (pu p_book) fun v1 => lft (m_law_names_in v1)) itemsM) fun xs8 => bd (compG (fun x2 => bd (bd (bd (bd (pu p_rate) fun v4 => m_law_draw v4) fun v5 => bd (pu (.int 0)) fun v6 => ofO (gtT emp v5 v6)) tb) fun v7 => if v7 = true then bd (pu x2) fun v3 => pu (some v3) else pu none) xs8) fun ys9 => pu (.lst ys9)) fun v10 => bd (bd (bd (bd (pu p_book) fun v12 => bd (pu (.int 0)) fun v13 => ofO (ixT emp v12 v13)) itemsM) fun xs30 => bd (compG (fun x14 => bd (ofO (un2 x14)) fun b15 => bd (bd (bd (pu b15.1) fun v27 => bd (pu v10) fun v28 => ofO (inT emp v27 v28)) tb) fun v29 => if v29 = true then bd (bd (pu b15.1) fun v24 => bd (bd (bd (pu b15.2) fun v16 => bd (pu (.str (q "o"))) fun v17 => pu (.lst [v16, v17])) fun v22 => bd (bd (bd (bd (pu (.int 6)) fun v18 => m_law_draw v18) fun v19 => bd (pu (.int 0)) fun v20 => ofO (eqT emp v19 v20)) fun v21 => ofO (intF emp [v21])) fun v23 => ofO (ixT emp v22 v23)) fun v25 => pu (.tup [v24, v25])) fun v26 => pu (some v26) else pu none) xs30) fun ys31 => pu (.lst ys31)) fun v32 => bd (bd (bd (bd (pu p_book) fun v34 => bd (pu (.int 1)) fun v35 => ofO (ixT emp v34 v35)) itemsM) fun xs48 => bd (compG (fun x36 => bd (bd (bd (bd (bd (pu x36) itemsM) fun xs43 => bd (compG (fun x38 => bd (bd (bd (pu x38) fun v40 => bd (pu v10) fun v41 => ofO (ninT emp v40 v41)) tb) fun v42 => if v42 = true then bd (pu x38) fun v39 => pu (some v39) else pu none) xs43) fun ys44 => pu (.lst ys44)) fun v45 => bd (pu (.lst [])) fun v46 => ofO (eqT emp v45 v46)) tb) fun v47 => if v47 = true then bd (pu x36) fun v37 => pu (some v37) else pu none) xs48) fun ys49 => pu (.lst ys49)) fun v50 => bd (bd (bd (pu v50) itemsM) fun xs58 => bd (compG (fun x52 => bd (bd (bd (bd (pu p_rate) fun v54 => m_law_draw v54) fun v55 => bd (pu (.int 0)) fun v56 => ofO (gtT emp v55 v56)) tb) fun v57 => if v57 = true then bd (pu x52) fun v53 => pu (some v53) else pu none) xs58) fun ys59 => pu (.lst ys59)) fun v60 => bd (bd (bd (pu v32) fun v62 => ofO (tupleF emp [v62])) fun v64 => bd (bd (pu v60) fun v63 => ofO (tupleF emp [v63])) fun v65 => pu [v64, v65]) fun ys66 => bd (bd (bd (bd (pu p_book) fun v71 => bd (bd (pu (.int 2)) fun v69 => bd (intO v69) fun v70 => pu (some v70)) fun v72 => bd (pu none) fun v73 => ofO (slT emp v71 v72 v73)) itemsM) fun xs98 => forM (fun x74 (s68 : List T) => bd (bd (bd (pu x74) itemsM) fun xs91 => bd (compG (fun x75 => bd (bd (bd (bd (bd (pu x75) fun v85 => bd (pu (.int 0)) fun v86 => ofO (ixT emp v85 v86)) fun v87 => bd (pu v10) fun v88 => ofO (inT emp v87 v88)) tb) fun v89 => if v89 = true then (bd (bd (bd (bd (pu x75) fun v80 => bd (pu (.int 1)) fun v81 => ofO (ixT emp v80 v81)) fun v82 => bd (pu v60) fun v83 => ofO (inT emp v82 v83)) tb) fun v84 => if v84 = true then (bd (bd (bd (pu p_rate) fun v77 => m_law_draw v77) fun v78 => bd (pu (.int 0)) fun v79 => ofO (gtT emp v78 v79)) tb) else pu false) else pu false) fun v90 => if v90 = true then bd (pu x75) fun v76 => pu (some v76) else pu none) xs91) fun ys92 => pu (.lst ys92)) fun v93 => bd (bd (pu v93) fun v97 => ofO (tupleF emp [v97])) fun v96 => bd (appM s68 v96) fun ys95 => pu ys95) xs98 ys66) fun (s68 : List T) => bd (bd (pu (.lst s68)) fun v99 => ofO (tupleF emp [v99])) fun v100 => pu v100
theorem x_law_part_of (S : Sto) (pa : Addr) (p_book p_rate : T) : XS (penW S pa) [some (.ref pa), some p_book, some p_rate, none, none, none, none, none, none, none, none, none, none] [] c_law_part_of (m_law_part_of p_book p_rate) .rt :=
  (xs_set (xe_comp (XIy.i (xiy_seq (xe_call (xa_cons (xe_var rfl) xa_nil)))) (fun x2 => xc_name (xb_val (xe_opx opx_gtT (xe_callP rfl (xa_cons (xe_var rfl) xa_nil)) xe_c)) (xe_var rfl))) fun v10 => (xs_set (xe_comp (XIy.i (xiy_seq (xe_op opv_ixT (XE.v (xe_var rfl)) (XE.v xe_c)))) (fun x14 => xc_un xg_2 (fun b15 => (xb_val (xe_opr opv_inT (xe_var rfl) (XE.v (xe_var rfl))))) fun b15 => (xe_tup (xa_cons (xe_var rfl) (xa_cons (xe_op opv_ixT (XE.v (xe_lst (xa_cons (xe_var rfl) (xa_cons xe_c xa_nil)))) (XE.v (xe_fnx fnx_intF (xa_cons (xe_op opv_eqT (XE.v (xe_callP rfl (xa_cons xe_c xa_nil))) (XE.v xe_c)) xa_nil)))) xa_nil))))) fun v32 => (xs_set (xe_comp (XIy.i (xiy_seq (xe_op opv_ixT (XE.v (xe_var rfl)) (XE.v xe_c)))) (fun x36 => xc_name (xb_val (xe_op opv_eqT (XE.v (xe_comp (XIy.i (xiy_seq (xe_var rfl))) (fun x38 => xc_name (xb_val (xe_opr opv_ninT (xe_var rfl) (XE.v (xe_var rfl)))) (xe_var rfl)))) (XE.v (xe_lst xa_nil)))) (xe_var rfl))) fun v50 => (xs_set (xe_comp (XIy.i (xiy_seq (xe_var rfl))) (fun x52 => xc_name (xb_val (xe_opx opx_gtT (xe_callP rfl (xa_cons (xe_var rfl) xa_nil)) xe_c)) (xe_var rfl))) fun v60 => (xs_new (xn_lst (xa_cons (xe_fn fnv_tupleF (xav_cons (XE.v (xe_var rfl)) xav_nil)) (xa_cons (xe_fn fnv_tupleF (xav_cons (XE.v (xe_var rfl)) xav_nil)) xa_nil))) fun ys66 a67 => (xs_seq (xs_for (σ := List T) (P := fun s68 => [some (.ref pa), some p_book, some p_rate, some v10, some v32, some v60, some (.ref a67), none, none, none, none, none, none]) (C := fun s68 => [(a67, .lst s68)]) (s0 := ys66) (xiy_seq (xe_sl (XE.v (xe_var rfl)) (xo_some xe_c) xo_no)) ⟨.inr rfl, .inr rfl, .inr rfl, .inr rfl, .inr rfl, .inr rfl, .inr rfl, .inl rfl, .inl rfl, .inl rfl, .inl rfl, .inl rfl, .inl rfl, trivial⟩ rfl (fun x74 s68 => xf_name (xs_set (xe_comp (XIy.i (xiy_seq (xe_var rfl))) (fun x75 => xc_name (xb_and (xb_val (xe_opr opv_inT (xe_op opv_ixT (XE.v (xe_var rfl)) (XE.v xe_c)) (XE.v (xe_var rfl)))) (xb_and (xb_val (xe_opr opv_inT (xe_op opv_ixT (XE.v (xe_var rfl)) (XE.v xe_c)) (XE.v (xe_var rfl)))) (xb_val (xe_opx opx_gtT (xe_callP rfl (xa_cons (xe_var rfl) xa_nil)) xe_c)))) (xe_var rfl))) fun v93 => (xs_app (l1 := []) (l2 := []) rfl (xe_fn fnv_tupleF (xav_cons (XE.v (xe_var rfl)) xav_nil)) fun ys95 => (xs_skip rfl ⟨.inr rfl, .inr rfl, .inr rfl, .inr rfl, .inr rfl, .inr rfl, .inr rfl, .inl rfl, .inl rfl, .inl rfl, .inl rfl, .inl rfl, .inl rfl, trivial⟩))))) fun s68 => (xs_drop (i := 6) (l1 := []) (l2 := []) rfl (xs_ret (g := fun v => v) (fun _ => rfl) (XE.v (xe_fn fnv_tupleF (xav_cons (XE.v (xe_var rfl)) xav_nil)))))))))))
def sp_law_part_of : SpT := spP (u2 m_law_part_of)
theorem len_law_part_of : ∀ ts S Q E, sp_law_part_of ts S Q E → ts.length = 3 := spP_len ar2
theorem vc_law_part_of : VC N_law_part_of sp_law_part_of c_law_part_of := vc_p2 x_law_part_of
/-! law_book_renamed -/
def N_law_book_renamed : List Str := ["_law_book", "_law_names", "_law_parts", "_law_part", "_law_some", "_law_name", "_law_mark", "_law_family", "_law_child"]
def c_law_book_renamed : TTS :=
  (cSeq (cSet 2 (cLstM (cCons (cFn sortedF (cCons (cComp (iSeq (cOp ixT (cVar 0) (cC (.int 0)))) (gT (gC (gN 5) (gC (gN 6) gZ))) bYes (cTup (cCons (cOp dgT (cVar 1) (cVar 5)) (cCons (cVar 6) cNil))) [5, 6]) cNil)) cNil)))
    (cSeq (cDo (cApp (cVar 2) (cFn sortedF (cCons (cComp (iSeq (cOp ixT (cVar 0) (cC (.int 1)))) (gN 7) bYes (cFn tupleF (cCons (cFn sortedF (cCons (cComp (iSeq (cVar 7)) (gN 5) bYes (cOp dgT (cVar 1) (cVar 5)) [5]) cNil)) cNil)) [7]) cNil))))
    (cSeq (cFor (iSeq (cSl (cVar 0) (oSome (cC (.int 2))) oNo)) (gN 3) ((cSeq (cSet 4 (cComp (iSeq (cVar 3)) (gT (gC (gN 8) (gC (gN 7) gZ))) bYes (cTup (cCons (cOp dgT (cVar 1) (cVar 8)) (cCons (cFn tupleF (cCons (cFn sortedF (cCons (cComp (iSeq (cVar 7)) (gN 5) bYes (cOp dgT (cVar 1) (cVar 5)) [5]) cNil)) cNil)) cNil))) [8, 7]))
    (cSeq (cDo (cApp (cVar 2) (cFn sortedF (cCons (cVar 4) cNil))))
    cSkip))))
    (cDrop (cSeq (cRet (cFn tupleF (cCons (cComp (iSeq (cVar 2)) (gN 3) bYes (cFn tupleF (cCons (cVar 3) cNil)) [3]) cNil)))
    cSkip)))))
def m_law_book_renamed (p_book p_names : T) : PM Unit T :=
  bd (bd (bd (bd (bd (bd (pu p_book) fun v1 => bd (pu (.int 0)) fun v2 => ofO (ixT emp v1 v2)) itemsM) fun xs10 => bd (compG (fun x3 => bd (ofO (un2 x3)) fun b4 => bd (bd (bd (pu p_names) fun v5 => bd (pu b4.1) fun v6 => ofO (dgT emp v5 v6)) fun v7 => bd (pu b4.2) fun v8 => pu (.tup [v7, v8])) fun v9 => pu (some v9)) xs10) fun ys11 => pu (.lst ys11)) fun v12 => ofO (sortedF emp [v12])) fun v13 => pu [v13]) fun ys14 => bd (bd (bd (bd (bd (pu p_book) fun v18 => bd (pu (.int 1)) fun v19 => ofO (ixT emp v18 v19)) itemsM) fun xs30 => bd (compG (fun x20 => bd (bd (bd (bd (bd (pu x20) itemsM) fun xs25 => bd (compG (fun x21 => bd (bd (pu p_names) fun v22 => bd (pu x21) fun v23 => ofO (dgT emp v22 v23)) fun v24 => pu (some v24)) xs25) fun ys26 => pu (.lst ys26)) fun v27 => ofO (sortedF emp [v27])) fun v28 => ofO (tupleF emp [v28])) fun v29 => pu (some v29)) xs30) fun ys31 => pu (.lst ys31)) fun v32 => ofO (sortedF emp [v32])) fun v17 => bd (appM ys14 v17) fun ys16 => bd (bd (bd (bd (pu p_book) fun v36 => bd (bd (pu (.int 2)) fun v34 => bd (intO v34) fun v35 => pu (some v35)) fun v37 => bd (pu none) fun v38 => ofO (slT emp v36 v37 v38)) itemsM) fun xs62 => forM (fun x39 (s33 : List T) => bd (bd (bd (pu x39) itemsM) fun xs55 => bd (compG (fun x40 => bd (ofO (un2 x40)) fun b41 => bd (bd (bd (pu p_names) fun v42 => bd (pu b41.1) fun v43 => ofO (dgT emp v42 v43)) fun v52 => bd (bd (bd (bd (bd (pu b41.2) itemsM) fun xs48 => bd (compG (fun x44 => bd (bd (pu p_names) fun v45 => bd (pu x44) fun v46 => ofO (dgT emp v45 v46)) fun v47 => pu (some v47)) xs48) fun ys49 => pu (.lst ys49)) fun v50 => ofO (sortedF emp [v50])) fun v51 => ofO (tupleF emp [v51])) fun v53 => pu (.tup [v52, v53])) fun v54 => pu (some v54)) xs55) fun ys56 => pu (.lst ys56)) fun v57 => bd (bd (pu v57) fun v61 => ofO (sortedF emp [v61])) fun v60 => bd (appM s33 v60) fun ys59 => pu ys59) xs62 ys16) fun (s33 : List T) => bd (bd (bd (bd (pu (.lst s33)) itemsM) fun xs66 => bd (compG (fun x63 => bd (bd (pu x63) fun v64 => ofO (tupleF emp [v64])) fun v65 => pu (some v65)) xs66) fun ys67 => pu (.lst ys67)) fun v68 => ofO (tupleF emp [v68])) fun v69 => pu v69
theorem x_law_book_renamed (S : Sto) (p_book p_names : T) : XS (fun _ : Unit => S) [some p_book, some p_names, none, none, none, none, none, none, none] [] c_law_book_renamed (m_law_book_renamed p_book p_names) .rt :=
  (xs_new (xn_lst (xa_cons (xe_fn fnv_sortedF (xav_cons (XE.v (xe_comp (XIy.i (xiy_seq (xe_op opv_ixT (XE.v (xe_var rfl)) (XE.v xe_c)))) (fun x3 => xc_unY xg_2 fun b4 => (xe_tup (xa_cons (xe_op opv_dgT (XE.v (xe_var rfl)) (XE.v (xe_var rfl))) (xa_cons (xe_var rfl) xa_nil)))))) xav_nil)) xa_nil)) fun ys14 a15 => (xs_app (l1 := []) (l2 := []) rfl (xe_fn fnv_sortedF (xav_cons (XE.v (xe_comp (XIy.i (xiy_seq (xe_op opv_ixT (XE.v (xe_var rfl)) (XE.v xe_c)))) (fun x20 => xc_nameY (xe_fn fnv_tupleF (xav_cons (XE.v (xe_fn fnv_sortedF (xav_cons (XE.v (xe_comp (XIy.i (xiy_seq (xe_var rfl))) (fun x21 => xc_nameY (xe_op opv_dgT (XE.v (xe_var rfl)) (XE.v (xe_var rfl)))))) xav_nil))) xav_nil))))) xav_nil)) fun ys16 => (xs_seq (xs_for (σ := List T) (P := fun s33 => [some p_book, some p_names, some (.ref a15), none, none, none, none, none, none]) (C := fun s33 => [(a15, .lst s33)]) (s0 := ys16) (xiy_seq (xe_sl (XE.v (xe_var rfl)) (xo_some xe_c) xo_no)) ⟨.inr rfl, .inr rfl, .inr rfl, .inl rfl, .inl rfl, .inl rfl, .inl rfl, .inl rfl, .inl rfl, trivial⟩ rfl (fun x39 s33 => xf_name (xs_set (xe_comp (XIy.i (xiy_seq (xe_var rfl))) (fun x40 => xc_unY xg_2 fun b41 => (xe_tup (xa_cons (xe_op opv_dgT (XE.v (xe_var rfl)) (XE.v (xe_var rfl))) (xa_cons (xe_fn fnv_tupleF (xav_cons (XE.v (xe_fn fnv_sortedF (xav_cons (XE.v (xe_comp (XIy.i (xiy_seq (xe_var rfl))) (fun x44 => xc_nameY (xe_op opv_dgT (XE.v (xe_var rfl)) (XE.v (xe_var rfl)))))) xav_nil))) xav_nil)) xa_nil))))) fun v57 => (xs_app (l1 := []) (l2 := []) rfl (xe_fn fnv_sortedF (xav_cons (XE.v (xe_var rfl)) xav_nil)) fun ys59 => (xs_skip rfl ⟨.inr rfl, .inr rfl, .inr rfl, .inl rfl, .inl rfl, .inl rfl, .inl rfl, .inl rfl, .inl rfl, trivial⟩))))) fun s33 => (xs_drop (i := 2) (l1 := []) (l2 := []) rfl (xs_ret (g := fun v => v) (fun _ => rfl) (XE.v (xe_fn fnv_tupleF (xav_cons (XE.v (xe_comp (XIy.i (xiy_seq (xe_var rfl))) (fun x63 => xc_nameY (xe_fn fnv_tupleF (xav_cons (XE.v (xe_var rfl)) xav_nil))))) xav_nil))))))))
def sp_law_book_renamed : SpT := spU (u2 m_law_book_renamed)
theorem len_law_book_renamed : ∀ ts S Q E, sp_law_book_renamed ts S Q E → ts.length = 2 := spU_len ar2
theorem vc_law_book_renamed : VC N_law_book_renamed sp_law_book_renamed c_law_book_renamed := vc_u2 x_law_book_renamed
/-! law_two_books -/
def N_law_two_books : List Str := ["_law_pen", "_law_whole", "_law_rates", "_law_one", "_law_other", "_law_olds", "_law_way", "_law_news", "_law_names", "_law_k", "_law_old", "_law_pairs", "_law_mixed"]
def c_law_two_books : TTS :=
  (cSeq (cSet 1 (cCall sp_law_any_book (cCons (cVar 0) (cCons (cC (.int 16)) cNil))))
    (cSeq (cSet 2 (cLst (cCons (cOp ixT (cLst (cCons (cC (.int 2)) (cCons (cC (.int 4)) (cCons (cC (.int 9)) cNil)))) (cCall sp_law_draw (cCons (cVar 0) (cCons (cC (.int 3)) cNil)))) (cCons (cOp ixT (cLst (cCons (cC (.int 2)) (cCons (cC (.int 4)) (cCons (cC (.int 9)) cNil)))) (cCall sp_law_draw (cCons (cVar 0) (cCons (cC (.int 3)) cNil)))) cNil))))
    (cSeq (cAsg (cTup (cCons (cCall sp_law_part_of (cCons (cVar 0) (cCons (cVar 1) (cCons (cOp ixT (cVar 2) (cC (.int 0))) cNil)))) (cCons (cCall sp_law_part_of (cCons (cVar 0) (cCons (cVar 1) (cCons (cOp ixT (cVar 2) (cC (.int 1))) cNil)))) cNil))) (gT (gC (gN 3) (gC (gN 4) gZ))))
    (cSeq (cSet 5 (cCall sp_law_names_in (cCons (cVar 4) cNil)))
    (cSeq (cSet 6 (cCall sp_law_draw (cCons (cVar 0) (cCons (cC (.int 3)) cNil))))
    (cSeq (cSet 7 (cCall sp_law_some_names (cCons (cVar 0) (cCons (cFn lenF (cCons (cVar 5) cNil)) cNil))))
    (cSeq (cSet 8 cDnewM)
    (cSeq (cFor (iEnum (cVar 5)) (gT (gC (gN 9) (gC (gN 10) gZ))) ((cSeq (cDput (cVar 8) (cVar 10) (cOp ixT (cLst (cCons (cVar 10) (cCons (cOp ixT (cVar 7) (cVar 9)) (cCons (cOp ixT (cLst (cCons (cVar 10) (cCons (cOp ixT (cVar 7) (cVar 9)) cNil))) (cCall sp_law_draw (cCons (cVar 0) (cCons (cC (.int 2)) cNil)))) cNil)))) (cVar 6)))
    cSkip)))
    (cDrop (cSeq (cIfS (bVal (cOp ltT (cUn slenT (cUn dvalsT (cVar 8))) (cFn lenF (cCons (cVar 5) cNil)))) (cSeq (cSet 8 (cFn dzipF (cCons (cVar 5) (cCons (cVar 5) cNil))))
    cSkip) cSkip)
    (cSeq (cSet 11 (cCompM (iSeq (cVar 5)) (gN 10) (bVal (cOp inT (cVar 10) (cCall sp_law_names_in (cCons (cVar 3) cNil)))) (cTup (cCons (cVar 10) (cCons (cOp dgT (cVar 8) (cVar 10)) cNil))) [10]))
    (cSeq (cSet 12 (cLstM cNil))
    (cSeq (cWhile (bVal (cOp neT (cVar 11) (cLst cNil))) ((cSeq (cDo (cApp (cVar 12) (cPopI (cVar 11) (cCall sp_law_draw (cCons (cVar 0) (cCons (cFn lenF (cCons (cVar 11) cNil)) cNil))))))
    cSkip)))
    (cDrop (cSeq (cRet (cTup (cCons (cVar 3) (cCons (cCall sp_law_book_renamed (cCons (cVar 4) (cCons (cVar 8) cNil))) (cCons (cFn tupleF (cCons (cVar 12) cNil)) cNil)))))
    cSkip)))))))))))))))
def m_law_two_books : PM Cell T :=
  bd (bd (pu (.int 16)) fun v1 => m_law_any_book v1) fun v2 => bd (bd (bd (bd (pu (.int 2)) fun v4 => bd (pu (.int 4)) fun v5 => bd (pu (.int 9)) fun v6 => pu (.lst [v4, v5, v6])) fun v8 => bd (bd (pu (.int 3)) fun v7 => m_law_draw v7) fun v9 => ofO (ixT emp v8 v9)) fun v16 => bd (bd (bd (pu (.int 2)) fun v10 => bd (pu (.int 4)) fun v11 => bd (pu (.int 9)) fun v12 => pu (.lst [v10, v11, v12])) fun v14 => bd (bd (pu (.int 3)) fun v13 => m_law_draw v13) fun v15 => ofO (ixT emp v14 v15)) fun v17 => pu (.lst [v16, v17])) fun v18 => bd (bd (bd (pu v2) fun v22 => bd (bd (pu v18) fun v20 => bd (pu (.int 0)) fun v21 => ofO (ixT emp v20 v21)) fun v23 => m_law_part_of v22 v23) fun v28 => bd (bd (pu v2) fun v26 => bd (bd (pu v18) fun v24 => bd (pu (.int 1)) fun v25 => ofO (ixT emp v24 v25)) fun v27 => m_law_part_of v26 v27) fun v29 => pu (.tup [v28, v29])) fun v30 => bd (ofO (un2 v30)) fun b31 => bd (bd (pu b31.2) fun v32 => lft (m_law_names_in v32)) fun v33 => bd (bd (pu (.int 3)) fun v35 => m_law_draw v35) fun v36 => bd (bd (bd (pu v33) fun v38 => ofO (lenF emp [v38])) fun v39 => m_law_some_names v39) fun v40 => bd (pu (([], []) : List T × List T)) fun ys42 => bd (bd (bd (pu v33) enumM) fun xs64 => forM (fun x45 (s44 : (List T × List T)) => bd (ofO (un2 x45)) fun b46 => bd (bd (bd (pu b46.2) fun v56 => bd (bd (pu v40) fun v47 => bd (pu b46.1) fun v48 => ofO (ixT emp v47 v48)) fun v57 => bd (bd (bd (pu b46.2) fun v51 => bd (bd (pu v40) fun v49 => bd (pu b46.1) fun v50 => ofO (ixT emp v49 v50)) fun v52 => pu (.lst [v51, v52])) fun v54 => bd (bd (pu (.int 2)) fun v53 => m_law_draw v53) fun v55 => ofO (ixT emp v54 v55)) fun v58 => pu (.lst [v56, v57, v58])) fun v59 => bd (pu v36) fun v60 => ofO (ixT emp v59 v60)) fun v62 => bd (pu b46.2) fun v63 => bd (dputM s44 v63 v62) fun ys61 => pu ys61) xs64 ys42) fun (s44 : (List T × List T)) => bd (bd (bd (bd (bd (bd (pu (.dct false s44.1 s44.2)) fun v65 => ofO (dvalsT emp v65)) fun v66 => ofO (slenT emp v66)) fun v68 => bd (bd (pu v33) fun v67 => ofO (lenF emp [v67])) fun v69 => ofO (ltT emp v68 v69)) tb) fun v70 => if v70 = true then (bd (bd (pu v33) fun v72 => bd (pu v33) fun v73 => ofO (dzipF emp [v72, v73])) fun v74 => pu v74 : PM _ (T)) else pu (.dct false s44.1 s44.2)) fun s71 => bd (bd (bd (pu v33) itemsM) fun xs86 => compG (fun x76 => bd (bd (bd (pu x76) fun v83 => bd (bd (pu b31.1) fun v82 => lft (m_law_names_in v82)) fun v84 => ofO (inT emp v83 v84)) tb) fun v85 => if v85 = true then bd (bd (pu x76) fun v79 => bd (bd (pu s71) fun v77 => bd (pu x76) fun v78 => ofO (dgT emp v77 v78)) fun v80 => pu (.tup [v79, v80])) fun v81 => pu (some v81) else pu none) xs86) fun ys87 => bd (pu ([] : List T)) fun ys89 => bd (whM (fun (s91 : List T × List T) => (bd (bd (pu (.lst s91.2)) fun v92 => bd (pu (.lst [])) fun v93 => ofO (neT emp v92 v93)) tb)) (fun s91 => bd (bd (bd (pu (.lst s91.2)) fun v96 => ofO (lenF emp [v96])) fun v97 => m_law_draw v97) fun v95 => bd (popIM s91.2 v95) fun b99 => bd (appM s91.1 b99.1) fun ys94 => pu (ys94, b99.2)) fuel (ys89, ys87)) fun (s91 : List T × List T) => bd (bd (pu b31.1) fun v104 => bd (bd (pu b31.2) fun v101 => bd (pu s71) fun v102 => lft (m_law_book_renamed v101 v102)) fun v105 => bd (bd (pu (.lst s91.1)) fun v103 => ofO (tupleF emp [v103])) fun v106 => pu (.tup [v104, v105, v106])) fun v107 => pu v107
theorem x_law_two_books (S : Sto) (pa : Addr) : XS (penW S pa) [some (.ref pa), none, none, none, none, none, none, none, none, none, none, none, none] [] c_law_two_books (m_law_two_books) .rt :=
  (xs_set (xe_callP rfl (xa_cons xe_c xa_nil)) fun v2 => (xs_set (xe_lst (xa_cons (xe_op opv_ixT (XE.v (xe_lst (xa_cons xe_c (xa_cons xe_c (xa_cons xe_c xa_nil))))) (XE.v (xe_callP rfl (xa_cons xe_c xa_nil)))) (xa_cons (xe_op opv_ixT (XE.v (xe_lst (xa_cons xe_c (xa_cons xe_c (xa_cons xe_c xa_nil))))) (XE.v (xe_callP rfl (xa_cons xe_c xa_nil)))) xa_nil))) fun v18 => (xs_asg (xe_tup (xa_cons (xe_callP rfl (xa_cons (xe_var rfl) (xa_cons (xe_op opv_ixT (XE.v (xe_var rfl)) (XE.v xe_c)) xa_nil))) (xa_cons (xe_callP rfl (xa_cons (xe_var rfl) (xa_cons (xe_op opv_ixT (XE.v (xe_var rfl)) (XE.v xe_c)) xa_nil))) xa_nil))) xg_2 fun b31 => (xs_set (xe_call (xa_cons (xe_var rfl) xa_nil)) fun v33 => (xs_set (xe_callP rfl (xa_cons xe_c xa_nil)) fun v36 => (xs_set (xe_callP rfl (xa_cons (xe_fn fnv_lenF (xav_cons (XE.v (xe_var rfl)) xav_nil)) xa_nil)) fun v40 => (xs_new xn_dnew fun ys42 a43 => (xs_seq (xs_for (σ := (List T × List T)) (P := fun s44 => [some (.ref pa), some v2, some v18, some b31.1, some b31.2, some v33, some v36, some v40, some (.ref a43), none, none, none, none]) (C := fun s44 => [(a43, .dct false s44.1 s44.2)]) (s0 := ys42) (xiy_enum (xe_var rfl)) ⟨.inr rfl, .inr rfl, .inr rfl, .inr rfl, .inr rfl, .inr rfl, .inr rfl, .inr rfl, .inr rfl, .inl rfl, .inl rfl, .inl rfl, .inl rfl, trivial⟩ rfl (fun x45 s44 => xf_un xg_2 fun b46 => (xs_dput (r := s44) (l1 := []) (l2 := []) rfl (xe_op opv_ixT (XE.v (xe_lst (xa_cons (xe_var rfl) (xa_cons (xe_op opv_ixT (XE.v (xe_var rfl)) (XE.v (xe_var rfl))) (xa_cons (xe_op opv_ixT (XE.v (xe_lst (xa_cons (xe_var rfl) (xa_cons (xe_op opv_ixT (XE.v (xe_var rfl)) (XE.v (xe_var rfl))) xa_nil)))) (XE.v (xe_callP rfl (xa_cons xe_c xa_nil)))) xa_nil))))) (XE.v (xe_var rfl))) (xe_var rfl) fun ys61 => (xs_skip rfl ⟨.inr rfl, .inr rfl, .inr rfl, .inr rfl, .inr rfl, .inr rfl, .inr rfl, .inr rfl, .inr rfl, .inl rfl, .inl rfl, .inl rfl, .inl rfl, trivial⟩)))) fun s44 => (xs_dropD (i := 8) (l1 := []) (l2 := []) rfl (xs_seq (σ := T) (P := fun s71 => [some (.ref pa), some v2, some v18, some b31.1, some b31.2, some v33, some v36, some v40, some s71, none, none, none, none]) (C := fun s71 => []) (xs_if (xb_val (xe_opx opx_ltT (xe_un unv_slenT (XE.v (xe_un unv_dvalsT (XE.v (xe_var rfl))))) (xe_fn fnv_lenF (xav_cons (XE.v (xe_var rfl)) xav_nil)))) (xs_set (xe_fn fnv_dzipF (xav_cons (XE.v (xe_var rfl)) (xav_cons (XE.v (xe_var rfl)) xav_nil))) fun v74 => (xs_skip rfl ⟨.inr rfl, .inr rfl, .inr rfl, .inr rfl, .inr rfl, .inr rfl, .inr rfl, .inr rfl, .inr rfl, .inl rfl, .inl rfl, .inl rfl, .inl rfl, trivial⟩)) (xs_skip rfl ⟨.inr rfl, .inr rfl, .inr rfl, .inr rfl, .inr rfl, .inr rfl, .inr rfl, .inr rfl, .inr rfl, .inl rfl, .inl rfl, .inl rfl, .inl rfl, trivial⟩)) fun s71 => (xs_new (xn_comp (XIy.i (xiy_seq (xe_var rfl))) (fun x76 => xc_name (xb_val (xe_opr opv_inT (xe_var rfl) (XE.v (xe_call (xa_cons (xe_var rfl) xa_nil))))) (xe_tup (xa_cons (xe_var rfl) (xa_cons (xe_op opv_dgT (XE.v (xe_var rfl)) (XE.v (xe_var rfl))) xa_nil))))) fun ys87 a88 => (xs_new (xn_lst xa_nil) fun ys89 a90 => (xs_seq (xs_wh (σ := List T × List T) (P := fun s91 => [some (.ref pa), some v2, some v18, some b31.1, some b31.2, some v33, some v36, some v40, some s71, none, none, some (.ref a88), some (.ref a90)]) (C := fun s91 => [(a90, .lst s91.1), (a88, .lst s91.2)]) (s0 := (ys89, ys87)) ⟨.inr rfl, .inr rfl, .inr rfl, .inr rfl, .inr rfl, .inr rfl, .inr rfl, .inr rfl, .inr rfl, .inl rfl, .inl rfl, .inr rfl, .inr rfl, trivial⟩ rfl (fun s91 => (xb_val (xe_op opv_neT (xv_cell rfl (.tail _ (.head _))) (XE.v (xe_lst xa_nil))))) (fun s91 => (xs_apppop (m1 := [(a90, .lst s91.1)]) (m2 := []) (l1 := (fun c100 => [])) (l2 := (fun c100 => [(a88, c100)])) rfl rfl (fun _ => rfl) (xe_callP rfl (xa_cons (xe_fn fnv_lenF (xav_cons (xv_cell rfl (.tail _ (.head _))) xav_nil)) xa_nil)) fun b99 ys94 => (xs_skip rfl ⟨.inr rfl, .inr rfl, .inr rfl, .inr rfl, .inr rfl, .inr rfl, .inr rfl, .inr rfl, .inr rfl, .inl rfl, .inl rfl, .inr rfl, .inr rfl, trivial⟩)))) fun s91 => (xs_drop (i := 12) (l1 := []) (l2 := [(a88, .lst s91.2)]) rfl (xs_ret (g := fun v => v) (fun _ => rfl) (XE.v (xe_tup (xa_cons (xe_var rfl) (xa_cons (xe_call (xa_cons (xe_var rfl) (xa_cons (xe_var rfl) xa_nil))) (xa_cons (xe_fn fnv_tupleF (xav_cons (XE.v (xe_var rfl)) xav_nil)) xa_nil))))))))))))))))))))
def sp_law_two_books : SpT := spP (u0 m_law_two_books)
theorem len_law_two_books : ∀ ts S Q E, sp_law_two_books ts S Q E → ts.length = 1 := spP_len ar0
theorem vc_law_two_books : VC N_law_two_books sp_law_two_books c_law_two_books := vc_p0 x_law_two_books
/-! the_law -/
def N_the_law : List Str := ["_law_script", "_law_pen", "_law_one", "_law_other", "_law_pairs", "_law_third", "_law_first", "_law_second", "_law_names", "_law_name"]
def t_the_law : TTS :=
  (cSeq (cAsg (cCall sp_law_two_books (cCons (cVar 1) cNil)) (gT (gC (gN 2) (gC (gN 3) (gC (gN 4) gZ)))))
    (cSeq (cSet 5 (cCall sp_law_any_book (cCons (cVar 1) (cCons (cC (.int 16)) cNil))))
    (cSeq (cFor (iSeq (cLst (cCons (cTup (cCons (cVar 2) (cCons (cVar 3) cNil))) (cCons (cTup (cCons (cVar 3) (cCons (cVar 2) cNil))) (cCons (cTup (cCons (cVar 2) (cCons (cVar 5) cNil))) (cCons (cTup (cCons (cVar 2) (cCons (cVar 2) cNil))) (cCons (cTup (cCons (cVar 2) (cCons (cVar 3) cNil))) cNil))))))) (gT (gC (gN 6) (gC (gN 7) gZ))) ((cSeq (cSet 8 (cComp (iSeq (cCall sp_law_names_in (cCons (cVar 6) cNil))) (gN 9) (bVal (cOp inT (cVar 9) (cCall sp_law_names_in (cCons (cVar 7) cNil)))) (cVar 9) [9]))
    (cSeq (cIfS (bNot (bVal (cCall sp_law_are_same (cCons (cCall sp_by_names (cCons (cVar 6) (cCons (cVar 7) cNil))) (cCons (cFn tupleF (cCons (cComp (iSeq (cVar 8)) (gN 9) bYes (cTup (cCons (cVar 9) (cCons (cVar 9) cNil))) [9]) cNil)) cNil))))) (cSeq (cRet (cC (.bl false)))
    cSkip) cSkip)
    cSkip))))
    (cSeq (cRet (cC (.bl true)))
    cSkip))))
def c_the_law : TTS := cSeq (cSet 1 (cCall sp_law_pen_of (cCons (cVar 0) cNil))) t_the_law
def sp_the_law : SpT := sp_law1
def m_the_law : PM Cell T :=
  bd (m_law_two_books) fun v1 => bd (ofO (un3 v1)) fun b2 => bd (bd (pu (.int 16)) fun v3 => m_law_any_book v3) fun v4 => bd (bd (bd (bd (bd (pu b2.1) fun v7 => bd (pu b2.2.1) fun v8 => pu (.tup [v7, v8])) fun v17 => bd (bd (pu b2.2.1) fun v9 => bd (pu b2.1) fun v10 => pu (.tup [v9, v10])) fun v18 => bd (bd (pu b2.1) fun v11 => bd (pu v4) fun v12 => pu (.tup [v11, v12])) fun v19 => bd (bd (pu b2.1) fun v13 => bd (pu b2.1) fun v14 => pu (.tup [v13, v14])) fun v20 => bd (bd (pu b2.1) fun v15 => bd (pu b2.2.1) fun v16 => pu (.tup [v15, v16])) fun v21 => pu (.lst [v17, v18, v19, v20, v21])) itemsM) fun xs49 => forR (fun x22 (s6 : Unit) => bd (ofO (un2 x22)) fun b23 => bd (bd (bd (bd (pu b23.1) fun v24 => lft (m_law_names_in v24)) itemsM) fun xs31 => bd (compG (fun x25 => bd (bd (bd (pu x25) fun v28 => bd (bd (pu b23.2) fun v27 => lft (m_law_names_in v27)) fun v29 => ofO (inT emp v28 v29)) tb) fun v30 => if v30 = true then bd (pu x25) fun v26 => pu (some v26) else pu none) xs31) fun ys32 => pu (.lst ys32)) fun v33 => bd (bd (bd (bd (bd (pu b23.1) fun v35 => bd (pu b23.2) fun v36 => lft (m_by_names v35 v36)) fun v44 => bd (bd (bd (bd (pu v33) itemsM) fun xs41 => bd (compG (fun x37 => bd (bd (pu x37) fun v38 => bd (pu x37) fun v39 => pu (.tup [v38, v39])) fun v40 => pu (some v40)) xs41) fun ys42 => pu (.lst ys42)) fun v43 => ofO (tupleF emp [v43])) fun v45 => lft (m_law_are_same v44 v45)) tb) fun v46 => pu !v46) fun v47 => if v47 = true then bd (pu (.bl false)) fun v48 => pu (.rt v48) else pu (.nx ())) xs49 ()) fun r51 => Sum.elim (fun (s6 : Unit) => bd (pu (.bl true)) fun v50 => pu v50) (fun v => pu v) r51
theorem x_the_law (S : Sto) (pa : Addr) (a : T) : XS (penW S pa) [some a, some (.ref pa), none, none, none, none, none, none, none, none] [] t_the_law m_the_law .rt :=
  (xs_asg (xe_callP rfl xa_nil) xg_3 fun b2 => (xs_set (xe_callP rfl (xa_cons xe_c xa_nil)) fun v4 => (xs_seqR (g := fun v => v) (fun _ => rfl) (xs_forR (σ := Unit) (P := fun s6 => [some a, some (.ref pa), some b2.1, some b2.2.1, some b2.2.2, some v4, none, none, none, none]) (C := fun s6 => []) (s0 := ()) (xiy_seq (xe_lst (xa_cons (xe_tup (xa_cons (xe_var rfl) (xa_cons (xe_var rfl) xa_nil))) (xa_cons (xe_tup (xa_cons (xe_var rfl) (xa_cons (xe_var rfl) xa_nil))) (xa_cons (xe_tup (xa_cons (xe_var rfl) (xa_cons (xe_var rfl) xa_nil))) (xa_cons (xe_tup (xa_cons (xe_var rfl) (xa_cons (xe_var rfl) xa_nil))) (xa_cons (xe_tup (xa_cons (xe_var rfl) (xa_cons (xe_var rfl) xa_nil))) xa_nil))))))) ⟨.inr rfl, .inr rfl, .inr rfl, .inr rfl, .inr rfl, .inr rfl, .inl rfl, .inl rfl, .inl rfl, .inl rfl, trivial⟩ rfl (fun x22 s6 => xf_un xg_2 fun b23 => (xs_set (xe_comp (XIy.i (xiy_seq (xe_call (xa_cons (xe_var rfl) xa_nil)))) (fun x25 => xc_name (xb_val (xe_opr opv_inT (xe_var rfl) (XE.v (xe_call (xa_cons (xe_var rfl) xa_nil))))) (xe_var rfl))) fun v33 => (xs_ifE (xb_not (xb_val (xe_call (xa_cons (xe_call (xa_cons (xe_var rfl) (xa_cons (xe_var rfl) xa_nil))) (xa_cons (xe_fn fnv_tupleF (xav_cons (XE.v (xe_comp (XIy.i (xiy_seq (xe_var rfl))) (fun x37 => xc_nameY (xe_tup (xa_cons (xe_var rfl) (xa_cons (xe_var rfl) xa_nil)))))) xav_nil)) xa_nil))))) (xs_assoc (xs_ret (g := Fl.rt) (fun _ => rfl) (XE.v xe_c))) (xs_skipseq (xs_skip rfl ⟨.inr rfl, .inr rfl, .inr rfl, .inr rfl, .inr rfl, .inr rfl, .inl rfl, .inl rfl, .inl rfl, .inl rfl, trivial⟩)))))) fun s6 => (xs_ret (g := fun v => v) (fun _ => rfl) (XE.v xe_c)))))
end K58

namespace K58
open PySem PySem.Spec PyProof.Rows L2 TL
theorem names_of_eq {B : Bk} (h : BkOk B) : m_names_of (bkT B) = pu (.lst (B.names.map T.str)) := by
  have hs := sizeLine_eq
  have := h.lf
  unfold m_names_of bkT
  simp (implicitDefEqProofs := false) only [pu_bd, bd_bd, bd_pu, ofO_some, ofO_none, ofO_ite, stuck_bd, thr_bd, lft_pu, lft_bd, lft_gdc, lft_ite, lft_stuck, tb_bl, intO_int, itemsM_tup, itemsM_lst, itemsM_str, gd_c, gdc_T, compG_map, compA_pu, compA_gd, compA_if, compA_gdif, forM_map, forR_map, un2_tup, un3_tup, un4_tup, sum_inl, sum_inr, isStr_str, isTup_tup, joinF_l, joinF_t, strsOf_nil, strsOf_cons, strsOf_map, Option.bind_some, Option.bind_none, addT_int, addT_str, addT_lst, addT_tup, subT_int, mulT2_int, mulT2_str, fdivT_int, modT_int, powT_int, negT_int, eqT_int, neT_int, eqT_str, neT_str, eqT_bl, neT_bl, ltT_int, gtT_int, leT_int, geT_int, ixT_lst, ixT_tup, atI_0, atI_1, atI_2, atI_3, lenF_lst, lenF_tup, lenF_str, absF_int, intF_int, intF_bl, max2F_int, min2F_int, strF_int, isi_str, isi_int, isi_tup, isi_lst, slT_lst, slT_tup, slT_str, tupleF_lst, tupleF_tup, listF_lst, listF_tup, inT_strs, ninT_strs, inT_strsT, ninT_strsT, ite_pu, decide_eq_true_eq, Bool.not_eq_true', if_true, if_false, Bool.false_eq_true, Bool.true_eq_false, Option.map_some, Option.map_none, extM_l, appM_c, compA_ifo, fkT, kinT, famT, List.cons_append, List.nil_append]
  refine gdc_e (by omega) ?_
  unfold Bk.names
  rw [List.map_map]
  rfl
theorem by_names_eq {A B : Bk} (h : BkOk A) (g : BkOk B) : m_by_names (bkT A) (bkT B) = pu (.tup (((A.names.filter fun n => decide (n ∈ B.names)).map fun n => (n, n)).map fkT)) := by
  have hs := sizeLine_eq
  have := h.lf
  have nl : A.names.length ≤ 16 := by unfold Bk.names; rw [List.length_map]; exact this
  unfold m_by_names
  simp (implicitDefEqProofs := false) only [pu_bd, bd_bd, bd_pu, ofO_some, ofO_none, ofO_ite, stuck_bd, thr_bd, lft_pu, lft_bd, lft_gdc, lft_ite, lft_stuck, tb_bl, intO_int, itemsM_tup, itemsM_lst, itemsM_str, gd_c, gdc_T, compG_map, compA_pu, compA_gd, compA_if, compA_gdif, forM_map, forR_map, un2_tup, un3_tup, un4_tup, sum_inl, sum_inr, isStr_str, isTup_tup, joinF_l, joinF_t, strsOf_nil, strsOf_cons, strsOf_map, Option.bind_some, Option.bind_none, addT_int, addT_str, addT_lst, addT_tup, subT_int, mulT2_int, mulT2_str, fdivT_int, modT_int, powT_int, negT_int, eqT_int, neT_int, eqT_str, neT_str, eqT_bl, neT_bl, ltT_int, gtT_int, leT_int, geT_int, ixT_lst, ixT_tup, atI_0, atI_1, atI_2, atI_3, lenF_lst, lenF_tup, lenF_str, absF_int, intF_int, intF_bl, max2F_int, min2F_int, strF_int, isi_str, isi_int, isi_tup, isi_lst, slT_lst, slT_tup, slT_str, tupleF_lst, tupleF_tup, listF_lst, listF_tup, inT_strs, ninT_strs, inT_strsT, ninT_strsT, ite_pu, decide_eq_true_eq, Bool.not_eq_true', if_true, if_false, Bool.false_eq_true, Bool.true_eq_false, Option.map_some, Option.map_none, extM_l, appM_c, compA_ifo, fkT, kinT, famT, List.cons_append, List.nil_append, names_of_eq h, names_of_eq g]
  refine gdc_e (by omega) ?_
  rw [List.map_map]
  rfl
theorem zip_self {α : Type} : ∀ {xs : List α} {a b : α}, (a, b) ∈ xs.zip xs → a = b
  | [], _, _, h => by cases h
  | x :: xs, a, b, h => by
    rw [List.zip_cons_cons] at h
    rcases List.mem_cons.mp h with z | z
    · injection z with z1 z2; rw [z1, z2]
    · exact zip_self z
theorem same_refl : ∀ (n : Nat) (v : T), Dt n v → r_law_are_same (n + 1) v v = pu (.bl true) := by
  intro n v h
  have hs := sizeLine_eq
  induction h with
  | str n x =>
    unfold r_law_are_same
    simp (implicitDefEqProofs := false) only [pu_bd, bd_bd, bd_pu, ofO_some, ofO_none, ofO_ite, stuck_bd, thr_bd, lft_pu, lft_bd, lft_gdc, lft_ite, lft_stuck, tb_bl, intO_int, itemsM_tup, itemsM_lst, itemsM_str, gd_c, gdc_T, compG_map, compA_pu, compA_gd, compA_if, compA_gdif, forM_map, forR_map, un2_tup, un3_tup, un4_tup, sum_inl, sum_inr, isStr_str, isTup_tup, joinF_l, joinF_t, strsOf_nil, strsOf_cons, strsOf_map, Option.bind_some, Option.bind_none, addT_int, addT_str, addT_lst, addT_tup, subT_int, mulT2_int, mulT2_str, fdivT_int, modT_int, powT_int, negT_int, eqT_int, neT_int, eqT_str, neT_str, eqT_bl, neT_bl, ltT_int, gtT_int, leT_int, geT_int, ixT_lst, ixT_tup, atI_0, atI_1, atI_2, atI_3, lenF_lst, lenF_tup, lenF_str, absF_int, intF_int, intF_bl, max2F_int, min2F_int, strF_int, isi_str, isi_int, isi_tup, isi_lst, slT_lst, slT_tup, slT_str, tupleF_lst, tupleF_tup, listF_lst, listF_tup, inT_strs, ninT_strs, inT_strsT, ninT_strsT, ite_pu, decide_eq_true_eq, Bool.not_eq_true', if_true, if_false, Bool.false_eq_true, Bool.true_eq_false, Option.map_some, Option.map_none, kis_non_non, kis_non_bool, kis_non_int, kis_non_str, kis_non_tup, kis_non_lst, kis_non_dct, kis_bool_non, kis_bool_bool, kis_bool_int, kis_bool_str, kis_bool_tup, kis_bool_lst, kis_bool_dct, kis_int_non, kis_int_bool, kis_int_int, kis_int_str, kis_int_tup, kis_int_lst, kis_int_dct, kis_str_non, kis_str_bool, kis_str_int, kis_str_str, kis_str_tup, kis_str_lst, kis_str_dct, kis_tup_non, kis_tup_bool, kis_tup_int, kis_tup_str, kis_tup_tup, kis_tup_lst, kis_tup_dct, kis_lst_non, kis_lst_bool, kis_lst_int, kis_lst_str, kis_lst_tup, kis_lst_lst, kis_lst_dct, kis_dct_non, kis_dct_bool, kis_dct_int, kis_dct_str, kis_dct_tup, kis_dct_lst, kis_dct_dct, isi_bl, isi_non, List.any_cons, List.any_nil, Bool.or_false, Bool.or_true, Bool.false_or, Bool.true_or, Bool.not_true, Bool.not_false, beq_self_eq_true, bne_self_eq_false, decide_true]
  | int n x =>
    unfold r_law_are_same
    simp (implicitDefEqProofs := false) only [pu_bd, bd_bd, bd_pu, ofO_some, ofO_none, ofO_ite, stuck_bd, thr_bd, lft_pu, lft_bd, lft_gdc, lft_ite, lft_stuck, tb_bl, intO_int, itemsM_tup, itemsM_lst, itemsM_str, gd_c, gdc_T, compG_map, compA_pu, compA_gd, compA_if, compA_gdif, forM_map, forR_map, un2_tup, un3_tup, un4_tup, sum_inl, sum_inr, isStr_str, isTup_tup, joinF_l, joinF_t, strsOf_nil, strsOf_cons, strsOf_map, Option.bind_some, Option.bind_none, addT_int, addT_str, addT_lst, addT_tup, subT_int, mulT2_int, mulT2_str, fdivT_int, modT_int, powT_int, negT_int, eqT_int, neT_int, eqT_str, neT_str, eqT_bl, neT_bl, ltT_int, gtT_int, leT_int, geT_int, ixT_lst, ixT_tup, atI_0, atI_1, atI_2, atI_3, lenF_lst, lenF_tup, lenF_str, absF_int, intF_int, intF_bl, max2F_int, min2F_int, strF_int, isi_str, isi_int, isi_tup, isi_lst, slT_lst, slT_tup, slT_str, tupleF_lst, tupleF_tup, listF_lst, listF_tup, inT_strs, ninT_strs, inT_strsT, ninT_strsT, ite_pu, decide_eq_true_eq, Bool.not_eq_true', if_true, if_false, Bool.false_eq_true, Bool.true_eq_false, Option.map_some, Option.map_none, kis_non_non, kis_non_bool, kis_non_int, kis_non_str, kis_non_tup, kis_non_lst, kis_non_dct, kis_bool_non, kis_bool_bool, kis_bool_int, kis_bool_str, kis_bool_tup, kis_bool_lst, kis_bool_dct, kis_int_non, kis_int_bool, kis_int_int, kis_int_str, kis_int_tup, kis_int_lst, kis_int_dct, kis_str_non, kis_str_bool, kis_str_int, kis_str_str, kis_str_tup, kis_str_lst, kis_str_dct, kis_tup_non, kis_tup_bool, kis_tup_int, kis_tup_str, kis_tup_tup, kis_tup_lst, kis_tup_dct, kis_lst_non, kis_lst_bool, kis_lst_int, kis_lst_str, kis_lst_tup, kis_lst_lst, kis_lst_dct, kis_dct_non, kis_dct_bool, kis_dct_int, kis_dct_str, kis_dct_tup, kis_dct_lst, kis_dct_dct, isi_bl, isi_non, List.any_cons, List.any_nil, Bool.or_false, Bool.or_true, Bool.false_or, Bool.true_or, Bool.not_true, Bool.not_false, beq_self_eq_true, bne_self_eq_false, decide_true]
  | bl n x =>
    unfold r_law_are_same
    simp (implicitDefEqProofs := false) only [pu_bd, bd_bd, bd_pu, ofO_some, ofO_none, ofO_ite, stuck_bd, thr_bd, lft_pu, lft_bd, lft_gdc, lft_ite, lft_stuck, tb_bl, intO_int, itemsM_tup, itemsM_lst, itemsM_str, gd_c, gdc_T, compG_map, compA_pu, compA_gd, compA_if, compA_gdif, forM_map, forR_map, un2_tup, un3_tup, un4_tup, sum_inl, sum_inr, isStr_str, isTup_tup, joinF_l, joinF_t, strsOf_nil, strsOf_cons, strsOf_map, Option.bind_some, Option.bind_none, addT_int, addT_str, addT_lst, addT_tup, subT_int, mulT2_int, mulT2_str, fdivT_int, modT_int, powT_int, negT_int, eqT_int, neT_int, eqT_str, neT_str, eqT_bl, neT_bl, ltT_int, gtT_int, leT_int, geT_int, ixT_lst, ixT_tup, atI_0, atI_1, atI_2, atI_3, lenF_lst, lenF_tup, lenF_str, absF_int, intF_int, intF_bl, max2F_int, min2F_int, strF_int, isi_str, isi_int, isi_tup, isi_lst, slT_lst, slT_tup, slT_str, tupleF_lst, tupleF_tup, listF_lst, listF_tup, inT_strs, ninT_strs, inT_strsT, ninT_strsT, ite_pu, decide_eq_true_eq, Bool.not_eq_true', if_true, if_false, Bool.false_eq_true, Bool.true_eq_false, Option.map_some, Option.map_none, kis_non_non, kis_non_bool, kis_non_int, kis_non_str, kis_non_tup, kis_non_lst, kis_non_dct, kis_bool_non, kis_bool_bool, kis_bool_int, kis_bool_str, kis_bool_tup, kis_bool_lst, kis_bool_dct, kis_int_non, kis_int_bool, kis_int_int, kis_int_str, kis_int_tup, kis_int_lst, kis_int_dct, kis_str_non, kis_str_bool, kis_str_int, kis_str_str, kis_str_tup, kis_str_lst, kis_str_dct, kis_tup_non, kis_tup_bool, kis_tup_int, kis_tup_str, kis_tup_tup, kis_tup_lst, kis_tup_dct, kis_lst_non, kis_lst_bool, kis_lst_int, kis_lst_str, kis_lst_tup, kis_lst_lst, kis_lst_dct, kis_dct_non, kis_dct_bool, kis_dct_int, kis_dct_str, kis_dct_tup, kis_dct_lst, kis_dct_dct, isi_bl, isi_non, List.any_cons, List.any_nil, Bool.or_false, Bool.or_true, Bool.false_or, Bool.true_or, Bool.not_true, Bool.not_false, beq_self_eq_true, bne_self_eq_false, decide_true]
  | tup h l ih =>
    unfold r_law_are_same
    simp (implicitDefEqProofs := false) only [pu_bd, bd_bd, bd_pu, ofO_some, ofO_none, ofO_ite, stuck_bd, thr_bd, lft_pu, lft_bd, lft_gdc, lft_ite, lft_stuck, tb_bl, intO_int, itemsM_tup, itemsM_lst, itemsM_str, gd_c, gdc_T, compG_map, compA_pu, compA_gd, compA_if, compA_gdif, forM_map, forR_map, un2_tup, un3_tup, un4_tup, sum_inl, sum_inr, isStr_str, isTup_tup, joinF_l, joinF_t, strsOf_nil, strsOf_cons, strsOf_map, Option.bind_some, Option.bind_none, addT_int, addT_str, addT_lst, addT_tup, subT_int, mulT2_int, mulT2_str, fdivT_int, modT_int, powT_int, negT_int, eqT_int, neT_int, eqT_str, neT_str, eqT_bl, neT_bl, ltT_int, gtT_int, leT_int, geT_int, ixT_lst, ixT_tup, atI_0, atI_1, atI_2, atI_3, lenF_lst, lenF_tup, lenF_str, absF_int, intF_int, intF_bl, max2F_int, min2F_int, strF_int, isi_str, isi_int, isi_tup, isi_lst, slT_lst, slT_tup, slT_str, tupleF_lst, tupleF_tup, listF_lst, listF_tup, inT_strs, ninT_strs, inT_strsT, ninT_strsT, ite_pu, decide_eq_true_eq, Bool.not_eq_true', if_true, if_false, Bool.false_eq_true, Bool.true_eq_false, Option.map_some, Option.map_none, kis_non_non, kis_non_bool, kis_non_int, kis_non_str, kis_non_tup, kis_non_lst, kis_non_dct, kis_bool_non, kis_bool_bool, kis_bool_int, kis_bool_str, kis_bool_tup, kis_bool_lst, kis_bool_dct, kis_int_non, kis_int_bool, kis_int_int, kis_int_str, kis_int_tup, kis_int_lst, kis_int_dct, kis_str_non, kis_str_bool, kis_str_int, kis_str_str, kis_str_tup, kis_str_lst, kis_str_dct, kis_tup_non, kis_tup_bool, kis_tup_int, kis_tup_str, kis_tup_tup, kis_tup_lst, kis_tup_dct, kis_lst_non, kis_lst_bool, kis_lst_int, kis_lst_str, kis_lst_tup, kis_lst_lst, kis_lst_dct, kis_dct_non, kis_dct_bool, kis_dct_int, kis_dct_str, kis_dct_tup, kis_dct_lst, kis_dct_dct, isi_bl, isi_non, List.any_cons, List.any_nil, Bool.or_false, Bool.or_true, Bool.false_or, Bool.true_or, Bool.not_true, Bool.not_false, beq_self_eq_true, bne_self_eq_false, decide_true, zipM_tt, zipL]
    refine gdc_e (by rw [List.length_zip]; omega) ?_
    rw [compA_congr (g := fun _ => pu (some (T.bl true))) (fun b hb => by
      obtain ⟨b1, b2⟩ := b
      have e := List.of_mem_zip hb
      have q : b1 = b2 := zip_self hb
      subst q
      rw [ih b1 e.1]
      rfl)]
    rw [compA_pu, pu_bd, all_true, ofO_some]
  | lst h l ih =>
    unfold r_law_are_same
    simp (implicitDefEqProofs := false) only [pu_bd, bd_bd, bd_pu, ofO_some, ofO_none, ofO_ite, stuck_bd, thr_bd, lft_pu, lft_bd, lft_gdc, lft_ite, lft_stuck, tb_bl, intO_int, itemsM_tup, itemsM_lst, itemsM_str, gd_c, gdc_T, compG_map, compA_pu, compA_gd, compA_if, compA_gdif, forM_map, forR_map, un2_tup, un3_tup, un4_tup, sum_inl, sum_inr, isStr_str, isTup_tup, joinF_l, joinF_t, strsOf_nil, strsOf_cons, strsOf_map, Option.bind_some, Option.bind_none, addT_int, addT_str, addT_lst, addT_tup, subT_int, mulT2_int, mulT2_str, fdivT_int, modT_int, powT_int, negT_int, eqT_int, neT_int, eqT_str, neT_str, eqT_bl, neT_bl, ltT_int, gtT_int, leT_int, geT_int, ixT_lst, ixT_tup, atI_0, atI_1, atI_2, atI_3, lenF_lst, lenF_tup, lenF_str, absF_int, intF_int, intF_bl, max2F_int, min2F_int, strF_int, isi_str, isi_int, isi_tup, isi_lst, slT_lst, slT_tup, slT_str, tupleF_lst, tupleF_tup, listF_lst, listF_tup, inT_strs, ninT_strs, inT_strsT, ninT_strsT, ite_pu, decide_eq_true_eq, Bool.not_eq_true', if_true, if_false, Bool.false_eq_true, Bool.true_eq_false, Option.map_some, Option.map_none, kis_non_non, kis_non_bool, kis_non_int, kis_non_str, kis_non_tup, kis_non_lst, kis_non_dct, kis_bool_non, kis_bool_bool, kis_bool_int, kis_bool_str, kis_bool_tup, kis_bool_lst, kis_bool_dct, kis_int_non, kis_int_bool, kis_int_int, kis_int_str, kis_int_tup, kis_int_lst, kis_int_dct, kis_str_non, kis_str_bool, kis_str_int, kis_str_str, kis_str_tup, kis_str_lst, kis_str_dct, kis_tup_non, kis_tup_bool, kis_tup_int, kis_tup_str, kis_tup_tup, kis_tup_lst, kis_tup_dct, kis_lst_non, kis_lst_bool, kis_lst_int, kis_lst_str, kis_lst_tup, kis_lst_lst, kis_lst_dct, kis_dct_non, kis_dct_bool, kis_dct_int, kis_dct_str, kis_dct_tup, kis_dct_lst, kis_dct_dct, isi_bl, isi_non, List.any_cons, List.any_nil, Bool.or_false, Bool.or_true, Bool.false_or, Bool.true_or, Bool.not_true, Bool.not_false, beq_self_eq_true, bne_self_eq_false, decide_true, zipM_ll, zipL]
    refine gdc_e (by rw [List.length_zip]; omega) ?_
    rw [compA_congr (g := fun _ => pu (some (T.bl true))) (fun b hb => by
      obtain ⟨b1, b2⟩ := b
      have e := List.of_mem_zip hb
      have q : b1 = b2 := zip_self hb
      subst q
      rw [ih b1 e.1]
      rfl)]
    rw [compA_pu, pu_bd, all_true, ofO_some]
theorem are_same_refl {v : T} {n : Nat} (h : Dt n v) (hn : n ≤ 11) : m_law_are_same v v = pu (.bl true) := same_refl 11 v (h.le hn)
def someWords : List Nm := (["of", "w", "m", "o", "folk", "union", "born", "adopted", "away", "who", "lead", "back", "show"] : List Str).map q
theorem someWords_ok : ∀ x ∈ someWords, NameOk x := by decide +kernel
theorem pick4 {a b c d : Int} {j : Int} (h0 : 0 ≤ j) (h1 : j < 4) (lo hi : Int) (ha : lo ≤ a ∧ a ≤ hi) (hb : lo ≤ b ∧ b ≤ hi) (hc : lo ≤ c ∧ c ≤ hi) (hd : lo ≤ d ∧ d ≤ hi) : ∃ k : Int, ixT emp (.lst [.int a, .int b, .int c, .int d]) (.int j) = some (.int k) ∧ lo ≤ k ∧ k ≤ hi := by
  rcases (by omega : j = 0 ∨ j = 1 ∨ j = 2 ∨ j = 3) with rfl | rfl | rfl | rfl
  · exact ⟨a, rfl, ha⟩
  · exact ⟨b, rfl, hb⟩
  · exact ⟨c, rfl, hc⟩
  · exact ⟨d, rfl, hd⟩
theorem letters_ht {size : Int} (h0 : 1 ≤ size) (h1 : size ≤ 8) : HT 100 (compA (fun _ : Nat => bd (m_draw (.int 26)) fun a => bd (ofO (ixT emp (.str lowers) a)) fun v => pu (some v)) (List.range size.toNat)) fun ys => ∃ cs : List Sg, ys = (cs.map fun c => [c]).map T.str ∧ NameOk cs := by
  refine HT.le ((HT.compN 1 8 (I := fun rest acc => ∃ cs : List Sg, acc = (cs.map fun c => [c]).map T.str ∧ (cs.length : Int) + rest.length = size ∧ ∀ c ∈ cs, c ∈ lowers) ?_ ?_ ?_).mono ?_) (by omega)
  · rw [List.length_range]; omega
  · exact ⟨[], rfl, by simp; omega, nofun⟩
  · rintro x rest acc ⟨cs, rfl, hl, hm⟩
    refine HT.drawB (by omega) (by omega) fun d d0 d1 => ?_
    obtain ⟨c, hc, e⟩ := at_ones (x := lowers) d0 (by rw [lowers_len]; omega) (by rw [lowers_len, sizeLine_eq]; omega)
    rw [e]
    refine HT.pu ⟨cs ++ [c], by simp [Option.toList], ?_, fun z hz => ?_⟩
    · rw [List.length_append]; simp at hl ⊢; omega
    · rcases List.mem_append.mp hz with k | k
      · exact hm z k
      · rw [List.mem_singleton.mp k]; exact hc
  · rintro ys ⟨cs, rfl, hl, hm⟩
    simp at hl
    exact ⟨cs, rfl, by omega, by omega, hm⟩
theorem nm_take {x : Nm} {c : Sg} (h : NameOk x) (hc : c ∈ lowers) : NameOk ((x ++ [c]).take 8) := by
  obtain ⟨h1, h2, h3⟩ := h
  refine ⟨by rw [List.length_take, List.length_append]; simp; omega, by rw [List.length_take]; omega, fun z hz => ?_⟩
  rcases List.mem_append.mp (List.mem_of_mem_take hz) with k | k
  · exact h3 z k
  · rw [List.mem_singleton.mp k]; exact hc
theorem nm_last {x : Nm} {c : Sg} (h : NameOk x) (hc : c ∈ lowers) : NameOk (x.take (x.length - 1) ++ [c]) := by
  obtain ⟨h1, h2, h3⟩ := h
  refine ⟨by simp, by rw [List.length_append, List.length_take]; simp; omega, fun z hz => ?_⟩
  rcases List.mem_append.mp hz with k | k
  · exact h3 z (List.mem_of_mem_take k)
  · rw [List.mem_singleton.mp k]; exact hc
theorem some_names_full {many : Nat} (hm : many ≤ 40) : HT 1000000 (m_law_some_names (.int many)) fun v => ∃ xs : List Nm, v = .lst (xs.map T.str) ∧ xs.Nodup ∧ (∀ x ∈ xs, NameOk x) ∧ xs.length ≤ many ∧ (0 < many → xs ≠ []) ∧ (many ≤ 26 → xs.length = many) := by
  have hs := sizeLine_eq
  have e0 : q "" = [] := by decide +kernel
  have el : q "abcdefghijklmnopqrstuvwxyz" = lowers := rfl
  have ew : [T.str (q "of"), .str (q "w"), .str (q "m"), .str (q "o"), .str (q "folk"), .str (q "union"), .str (q "born"), .str (q "adopted"), .str (q "away"), .str (q "who"), .str (q "lead"), .str (q "back"), .str (q "show")] = someWords.map T.str := rfl
  have l26 := lowers_len
  unfold m_law_some_names
  simp (implicitDefEqProofs := false) only [pu_bd, bd_bd, bd_pu, ofO_some, ofO_none, ofO_ite, stuck_bd, thr_bd, lft_pu, lft_bd, lft_gdc, lft_ite, lft_stuck, tb_bl, intO_int, itemsM_tup, itemsM_lst, itemsM_str, gd_c, gdc_T, compG_map, compA_pu, compA_gd, compA_if, compA_gdif, forM_map, forR_map, un2_tup, un3_tup, un4_tup, sum_inl, sum_inr, isStr_str, isTup_tup, joinF_l, joinF_t, strsOf_nil, strsOf_cons, strsOf_map, Option.bind_some, Option.bind_none, addT_int, addT_str, addT_lst, addT_tup, subT_int, mulT2_int, mulT2_str, fdivT_int, modT_int, powT_int, negT_int, eqT_int, neT_int, eqT_str, neT_str, eqT_bl, neT_bl, ltT_int, gtT_int, leT_int, geT_int, ixT_lst, ixT_tup, atI_0, atI_1, atI_2, atI_3, lenF_lst, lenF_tup, lenF_str, absF_int, intF_int, intF_bl, max2F_int, min2F_int, strF_int, isi_str, isi_int, isi_tup, isi_lst, slT_lst, slT_tup, slT_str, tupleF_lst, tupleF_tup, listF_lst, listF_tup, inT_strs, ninT_strs, inT_strsT, ninT_strsT, ite_pu, decide_eq_true_eq, Bool.not_eq_true', if_true, if_false, Bool.false_eq_true, Bool.true_eq_false, Option.map_some, Option.map_none, ew, el, e0]
  rw [rng1_int (by omega)]
  simp (implicitDefEqProofs := false) only [pu_bd, bd_bd, bd_pu, ofO_some, ofO_none, ofO_ite, stuck_bd, thr_bd, lft_pu, lft_bd, lft_gdc, lft_ite, lft_stuck, tb_bl, intO_int, itemsM_tup, itemsM_lst, itemsM_str, gd_c, gdc_T, compG_map, compA_pu, compA_gd, compA_if, compA_gdif, forM_map, forR_map, un2_tup, un3_tup, un4_tup, sum_inl, sum_inr, isStr_str, isTup_tup, joinF_l, joinF_t, strsOf_nil, strsOf_cons, strsOf_map, Option.bind_some, Option.bind_none, addT_int, addT_str, addT_lst, addT_tup, subT_int, mulT2_int, mulT2_str, fdivT_int, modT_int, powT_int, negT_int, eqT_int, neT_int, eqT_str, neT_str, eqT_bl, neT_bl, ltT_int, gtT_int, leT_int, geT_int, ixT_lst, ixT_tup, atI_0, atI_1, atI_2, atI_3, lenF_lst, lenF_tup, lenF_str, absF_int, intF_int, intF_bl, max2F_int, min2F_int, strF_int, isi_str, isi_int, isi_tup, isi_lst, slT_lst, slT_tup, slT_str, tupleF_lst, tupleF_tup, listF_lst, listF_tup, inT_strs, ninT_strs, inT_strsT, ninT_strsT, ite_pu, decide_eq_true_eq, Bool.not_eq_true', if_true, if_false, Bool.false_eq_true, Bool.true_eq_false, Option.map_some, Option.map_none]
  refine HT.le (HT.bd (d2 := 0) (HT.forN 1000 40 (I := fun rest s => ∃ xs : List Nm, s = xs.map T.str ∧ xs.Nodup ∧ (∀ x ∈ xs, NameOk x) ∧ xs.length + rest.length ≤ many ∧ (xs = [] → rest.length = many) ∧ (many ≤ 26 → xs.length + rest.length = many)) ?_ ?_ ?_) fun s hs => HT.pu ?_) (by omega)
  · simp; omega
  · exact ⟨[], rfl, List.nodup_nil, nofun, by simp, by simp, fun _ => by simp⟩
  · rintro x rest s ⟨xs, rfl, nd, ok, hl, _, hq⟩
    refine HT.drawB (by omega) (by omega) fun i i0 i1 => ?_
    simp (implicitDefEqProofs := false) only [pu_bd, bd_bd, bd_pu, ofO_some, ofO_none, ofO_ite, stuck_bd, thr_bd, lft_pu, lft_bd, lft_gdc, lft_ite, lft_stuck, tb_bl, intO_int, itemsM_tup, itemsM_lst, itemsM_str, gd_c, gdc_T, compG_map, compA_pu, compA_gd, compA_if, compA_gdif, forM_map, forR_map, un2_tup, un3_tup, un4_tup, sum_inl, sum_inr, isStr_str, isTup_tup, joinF_l, joinF_t, strsOf_nil, strsOf_cons, strsOf_map, Option.bind_some, Option.bind_none, addT_int, addT_str, addT_lst, addT_tup, subT_int, mulT2_int, mulT2_str, fdivT_int, modT_int, powT_int, negT_int, eqT_int, neT_int, eqT_str, neT_str, eqT_bl, neT_bl, ltT_int, gtT_int, leT_int, geT_int, ixT_lst, ixT_tup, atI_0, atI_1, atI_2, atI_3, lenF_lst, lenF_tup, lenF_str, absF_int, intF_int, intF_bl, max2F_int, min2F_int, strF_int, isi_str, isi_int, isi_tup, isi_lst, slT_lst, slT_tup, slT_str, tupleF_lst, tupleF_tup, listF_lst, listF_tup, inT_strs, ninT_strs, inT_strsT, ninT_strsT, ite_pu, decide_eq_true_eq, Bool.not_eq_true', if_true, if_false, Bool.false_eq_true, Bool.true_eq_false, Option.map_some, Option.map_none]
    refine HT.drawB (by omega) (by omega) fun j j0 j1 => ?_
    obtain ⟨size, e1, s0, s1⟩ := pick4 (a := 1) (b := 2) (c := 8) (d := 1 + i) j0 j1 1 8 (by omega) (by omega) (by omega) (by omega)
    simp (implicitDefEqProofs := false) only [pu_bd, bd_bd, bd_pu, ofO_some, ofO_none, ofO_ite, stuck_bd, thr_bd, lft_pu, lft_bd, lft_gdc, lft_ite, lft_stuck, tb_bl, intO_int, itemsM_tup, itemsM_lst, itemsM_str, gd_c, gdc_T, compG_map, compA_pu, compA_gd, compA_if, compA_gdif, forM_map, forR_map, un2_tup, un3_tup, un4_tup, sum_inl, sum_inr, isStr_str, isTup_tup, joinF_l, joinF_t, strsOf_nil, strsOf_cons, strsOf_map, Option.bind_some, Option.bind_none, addT_int, addT_str, addT_lst, addT_tup, subT_int, mulT2_int, mulT2_str, fdivT_int, modT_int, powT_int, negT_int, eqT_int, neT_int, eqT_str, neT_str, eqT_bl, neT_bl, ltT_int, gtT_int, leT_int, geT_int, ixT_lst, ixT_tup, atI_0, atI_1, atI_2, atI_3, lenF_lst, lenF_tup, lenF_str, absF_int, intF_int, intF_bl, max2F_int, min2F_int, strF_int, isi_str, isi_int, isi_tup, isi_lst, slT_lst, slT_tup, slT_str, tupleF_lst, tupleF_tup, listF_lst, listF_tup, inT_strs, ninT_strs, inT_strsT, ninT_strsT, ite_pu, decide_eq_true_eq, Bool.not_eq_true', if_true, if_false, Bool.false_eq_true, Bool.true_eq_false, Option.map_some, Option.map_none] at e1
    simp (implicitDefEqProofs := false) only [pu_bd, bd_bd, bd_pu, ofO_some, ofO_none, ofO_ite, stuck_bd, thr_bd, lft_pu, lft_bd, lft_gdc, lft_ite, lft_stuck, tb_bl, intO_int, itemsM_tup, itemsM_lst, itemsM_str, gd_c, gdc_T, compG_map, compA_pu, compA_gd, compA_if, compA_gdif, forM_map, forR_map, un2_tup, un3_tup, un4_tup, sum_inl, sum_inr, isStr_str, isTup_tup, joinF_l, joinF_t, strsOf_nil, strsOf_cons, strsOf_map, Option.bind_some, Option.bind_none, addT_int, addT_str, addT_lst, addT_tup, subT_int, mulT2_int, mulT2_str, fdivT_int, modT_int, powT_int, negT_int, eqT_int, neT_int, eqT_str, neT_str, eqT_bl, neT_bl, ltT_int, gtT_int, leT_int, geT_int, ixT_lst, ixT_tup, atI_0, atI_1, atI_2, atI_3, lenF_lst, lenF_tup, lenF_str, absF_int, intF_int, intF_bl, max2F_int, min2F_int, strF_int, isi_str, isi_int, isi_tup, isi_lst, slT_lst, slT_tup, slT_str, tupleF_lst, tupleF_tup, listF_lst, listF_tup, inT_strs, ninT_strs, inT_strsT, ninT_strsT, ite_pu, decide_eq_true_eq, Bool.not_eq_true', if_true, if_false, Bool.false_eq_true, Bool.true_eq_false, Option.map_some, Option.map_none, e1]
    rw [rng1_int (by omega)]
    simp (implicitDefEqProofs := false) only [pu_bd, bd_bd, bd_pu, ofO_some, ofO_none, ofO_ite, stuck_bd, thr_bd, lft_pu, lft_bd, lft_gdc, lft_ite, lft_stuck, tb_bl, intO_int, itemsM_tup, itemsM_lst, itemsM_str, gd_c, gdc_T, compG_map, compA_pu, compA_gd, compA_if, compA_gdif, forM_map, forR_map, un2_tup, un3_tup, un4_tup, sum_inl, sum_inr, isStr_str, isTup_tup, joinF_l, joinF_t, strsOf_nil, strsOf_cons, strsOf_map, Option.bind_some, Option.bind_none, addT_int, addT_str, addT_lst, addT_tup, subT_int, mulT2_int, mulT2_str, fdivT_int, modT_int, powT_int, negT_int, eqT_int, neT_int, eqT_str, neT_str, eqT_bl, neT_bl, ltT_int, gtT_int, leT_int, geT_int, ixT_lst, ixT_tup, atI_0, atI_1, atI_2, atI_3, lenF_lst, lenF_tup, lenF_str, absF_int, intF_int, intF_bl, max2F_int, min2F_int, strF_int, isi_str, isi_int, isi_tup, isi_lst, slT_lst, slT_tup, slT_str, tupleF_lst, tupleF_tup, listF_lst, listF_tup, inT_strs, ninT_strs, inT_strsT, ninT_strsT, ite_pu, decide_eq_true_eq, Bool.not_eq_true', if_true, if_false, Bool.false_eq_true, Bool.true_eq_false, Option.map_some, Option.map_none]
    refine HT.gdc (by simp; omega) (HT.bd (d1 := 100) (letters_ht s0 s1) ?_)
    rintro ys ⟨name, rfl, okn⟩
    have js : joinSz [] (name.map fun c => [c]) = true := joinSz_ok (k := 1) (fun x hx => by obtain ⟨c, _, rfl⟩ := List.mem_map.mp hx; simp) (by have := okn.2.1; simp; omega)
    simp (implicitDefEqProofs := false) only [pu_bd, bd_bd, bd_pu, ofO_some, ofO_none, ofO_ite, stuck_bd, thr_bd, lft_pu, lft_bd, lft_gdc, lft_ite, lft_stuck, tb_bl, intO_int, itemsM_tup, itemsM_lst, itemsM_str, gd_c, gdc_T, compG_map, compA_pu, compA_gd, compA_if, compA_gdif, forM_map, forR_map, un2_tup, un3_tup, un4_tup, sum_inl, sum_inr, isStr_str, isTup_tup, joinF_l, joinF_t, strsOf_nil, strsOf_cons, strsOf_map, Option.bind_some, Option.bind_none, addT_int, addT_str, addT_lst, addT_tup, subT_int, mulT2_int, mulT2_str, fdivT_int, modT_int, powT_int, negT_int, eqT_int, neT_int, eqT_str, neT_str, eqT_bl, neT_bl, ltT_int, gtT_int, leT_int, geT_int, ixT_lst, ixT_tup, atI_0, atI_1, atI_2, atI_3, lenF_lst, lenF_tup, lenF_str, absF_int, intF_int, intF_bl, max2F_int, min2F_int, strF_int, isi_str, isi_int, isi_tup, isi_lst, slT_lst, slT_tup, slT_str, tupleF_lst, tupleF_tup, listF_lst, listF_tup, inT_strs, ninT_strs, inT_strsT, ninT_strsT, ite_pu, decide_eq_true_eq, Bool.not_eq_true', if_true, if_false, Bool.false_eq_true, Bool.true_eq_false, Option.map_some, Option.map_none, js, jn_ones, neT_nilL ke_str, Bool.not_true]
    have pick : HT 3 (bd (m_law_draw (T.int 3)) fun a => bd (ofO (TL.eqT emp a (T.int 0))) tb) fun _ => True := HT.le (HT.drawB (d := 0) (by omega) (by omega) fun i i0 i1 => by simp (implicitDefEqProofs := false) only [pu_bd, bd_bd, bd_pu, ofO_some, ofO_none, ofO_ite, stuck_bd, thr_bd, lft_pu, lft_bd, lft_gdc, lft_ite, lft_stuck, tb_bl, intO_int, itemsM_tup, itemsM_lst, itemsM_str, gd_c, gdc_T, compG_map, compA_pu, compA_gd, compA_if, compA_gdif, forM_map, forR_map, un2_tup, un3_tup, un4_tup, sum_inl, sum_inr, isStr_str, isTup_tup, joinF_l, joinF_t, strsOf_nil, strsOf_cons, strsOf_map, Option.bind_some, Option.bind_none, addT_int, addT_str, addT_lst, addT_tup, subT_int, mulT2_int, mulT2_str, fdivT_int, modT_int, powT_int, negT_int, eqT_int, neT_int, eqT_str, neT_str, eqT_bl, neT_bl, ltT_int, gtT_int, leT_int, geT_int, ixT_lst, ixT_tup, atI_0, atI_1, atI_2, atI_3, lenF_lst, lenF_tup, lenF_str, absF_int, intF_int, intF_bl, max2F_int, min2F_int, strF_int, isi_str, isi_int, isi_tup, isi_lst, slT_lst, slT_tup, slT_str, tupleF_lst, tupleF_tup, listF_lst, listF_tup, inT_strs, ninT_strs, inT_strsT, ninT_strsT, ite_pu, decide_eq_true_eq, Bool.not_eq_true', if_true, if_false, Bool.false_eq_true, Bool.true_eq_false, Option.map_some, Option.map_none]; exact HT.pu trivial) (by omega)
    refine HT.bd (d1 := 3) (P := fun b => b = true → xs ≠ []) ?_ ?_
    · refine HT.ite (fun h => pick.mono fun b _ _ z => ?_) fun _ => HT.pu (by simp)
      subst z; cases h
    rintro b hb
    refine HT.bd (d1 := 100) (P := fun v => ∃ name : Nm, v = .str name ∧ NameOk name) ?_ ?_
    · refine HT.ite (fun h => ?_) fun _ => HT.pu ⟨name, rfl, okn⟩
      have xl := List.length_pos_iff.mpr (hb h)
      rw [List.length_map]
      refine HT.drawB (by omega) (by omega) fun i i0 i1 => ?_
      obtain ⟨w, hw, e2, _⟩ := ix_map (e := T.str) (xs := xs) i0 i1
      simp (implicitDefEqProofs := false) only [pu_bd, bd_bd, bd_pu, ofO_some, ofO_none, ofO_ite, stuck_bd, thr_bd, lft_pu, lft_bd, lft_gdc, lft_ite, lft_stuck, tb_bl, intO_int, itemsM_tup, itemsM_lst, itemsM_str, gd_c, gdc_T, compG_map, compA_pu, compA_gd, compA_if, compA_gdif, forM_map, forR_map, un2_tup, un3_tup, un4_tup, sum_inl, sum_inr, isStr_str, isTup_tup, joinF_l, joinF_t, strsOf_nil, strsOf_cons, strsOf_map, Option.bind_some, Option.bind_none, addT_int, addT_str, addT_lst, addT_tup, subT_int, mulT2_int, mulT2_str, fdivT_int, modT_int, powT_int, negT_int, eqT_int, neT_int, eqT_str, neT_str, eqT_bl, neT_bl, ltT_int, gtT_int, leT_int, geT_int, ixT_lst, ixT_tup, atI_0, atI_1, atI_2, atI_3, lenF_lst, lenF_tup, lenF_str, absF_int, intF_int, intF_bl, max2F_int, min2F_int, strF_int, isi_str, isi_int, isi_tup, isi_lst, slT_lst, slT_tup, slT_str, tupleF_lst, tupleF_tup, listF_lst, listF_tup, inT_strs, ninT_strs, inT_strsT, ninT_strsT, ite_pu, decide_eq_true_eq, Bool.not_eq_true', if_true, if_false, Bool.false_eq_true, Bool.true_eq_false, Option.map_some, Option.map_none] at e2
      simp (implicitDefEqProofs := false) only [pu_bd, bd_bd, bd_pu, ofO_some, ofO_none, ofO_ite, stuck_bd, thr_bd, lft_pu, lft_bd, lft_gdc, lft_ite, lft_stuck, tb_bl, intO_int, itemsM_tup, itemsM_lst, itemsM_str, gd_c, gdc_T, compG_map, compA_pu, compA_gd, compA_if, compA_gdif, forM_map, forR_map, un2_tup, un3_tup, un4_tup, sum_inl, sum_inr, isStr_str, isTup_tup, joinF_l, joinF_t, strsOf_nil, strsOf_cons, strsOf_map, Option.bind_some, Option.bind_none, addT_int, addT_str, addT_lst, addT_tup, subT_int, mulT2_int, mulT2_str, fdivT_int, modT_int, powT_int, negT_int, eqT_int, neT_int, eqT_str, neT_str, eqT_bl, neT_bl, ltT_int, gtT_int, leT_int, geT_int, ixT_lst, ixT_tup, atI_0, atI_1, atI_2, atI_3, lenF_lst, lenF_tup, lenF_str, absF_int, intF_int, intF_bl, max2F_int, min2F_int, strF_int, isi_str, isi_int, isi_tup, isi_lst, slT_lst, slT_tup, slT_str, tupleF_lst, tupleF_tup, listF_lst, listF_tup, inT_strs, ninT_strs, inT_strsT, ninT_strsT, ite_pu, decide_eq_true_eq, Bool.not_eq_true', if_true, if_false, Bool.false_eq_true, Bool.true_eq_false, Option.map_some, Option.map_none, e2]
      refine HT.drawB (by omega) (by omega) fun i i0 i1 => ?_
      obtain ⟨c, hc, e3⟩ := at_ones (x := lowers) i0 (by omega) (by omega)
      have wo := (ok w hw).2.1
      simp (implicitDefEqProofs := false) only [pu_bd, bd_bd, bd_pu, ofO_some, ofO_none, ofO_ite, stuck_bd, thr_bd, lft_pu, lft_bd, lft_gdc, lft_ite, lft_stuck, tb_bl, intO_int, itemsM_tup, itemsM_lst, itemsM_str, gd_c, gdc_T, compG_map, compA_pu, compA_gd, compA_if, compA_gdif, forM_map, forR_map, un2_tup, un3_tup, un4_tup, sum_inl, sum_inr, isStr_str, isTup_tup, joinF_l, joinF_t, strsOf_nil, strsOf_cons, strsOf_map, Option.bind_some, Option.bind_none, addT_int, addT_str, addT_lst, addT_tup, subT_int, mulT2_int, mulT2_str, fdivT_int, modT_int, powT_int, negT_int, eqT_int, neT_int, eqT_str, neT_str, eqT_bl, neT_bl, ltT_int, gtT_int, leT_int, geT_int, ixT_lst, ixT_tup, atI_0, atI_1, atI_2, atI_3, lenF_lst, lenF_tup, lenF_str, absF_int, intF_int, intF_bl, max2F_int, min2F_int, strF_int, isi_str, isi_int, isi_tup, isi_lst, slT_lst, slT_tup, slT_str, tupleF_lst, tupleF_tup, listF_lst, listF_tup, inT_strs, ninT_strs, inT_strsT, ninT_strsT, ite_pu, decide_eq_true_eq, Bool.not_eq_true', if_true, if_false, Bool.false_eq_true, Bool.true_eq_false, Option.map_some, Option.map_none, e3]
      refine HT.gdc (by simp; omega) ?_
      refine HT.gdc (by simp; omega) (HT.pu ⟨_, rfl, ?_⟩)
      rw [show cutT (w ++ [c]) none (some 8) = (w ++ [c]).take 8 from cut_to _ 8]
      exact nm_take (ok w hw) hc
    rintro v ⟨name, rfl, okn⟩
    refine HT.drawB (by omega) (by omega) fun i i0 i1 => ?_
    simp (implicitDefEqProofs := false) only [pu_bd, bd_bd, bd_pu, ofO_some, ofO_none, ofO_ite, stuck_bd, thr_bd, lft_pu, lft_bd, lft_gdc, lft_ite, lft_stuck, tb_bl, intO_int, itemsM_tup, itemsM_lst, itemsM_str, gd_c, gdc_T, compG_map, compA_pu, compA_gd, compA_if, compA_gdif, forM_map, forR_map, un2_tup, un3_tup, un4_tup, sum_inl, sum_inr, isStr_str, isTup_tup, joinF_l, joinF_t, strsOf_nil, strsOf_cons, strsOf_map, Option.bind_some, Option.bind_none, addT_int, addT_str, addT_lst, addT_tup, subT_int, mulT2_int, mulT2_str, fdivT_int, modT_int, powT_int, negT_int, eqT_int, neT_int, eqT_str, neT_str, eqT_bl, neT_bl, ltT_int, gtT_int, leT_int, geT_int, ixT_lst, ixT_tup, atI_0, atI_1, atI_2, atI_3, lenF_lst, lenF_tup, lenF_str, absF_int, intF_int, intF_bl, max2F_int, min2F_int, strF_int, isi_str, isi_int, isi_tup, isi_lst, slT_lst, slT_tup, slT_str, tupleF_lst, tupleF_tup, listF_lst, listF_tup, inT_strs, ninT_strs, inT_strsT, ninT_strsT, ite_pu, decide_eq_true_eq, Bool.not_eq_true', if_true, if_false, Bool.false_eq_true, Bool.true_eq_false, Option.map_some, Option.map_none]
    refine HT.bd (d1 := 100) (P := fun v => ∃ name : Nm, v = .str name ∧ NameOk name) ?_ ?_
    · refine HT.ite (fun h => ?_) fun _ => HT.pu ⟨name, rfl, okn⟩
      refine HT.drawB (by omega) (by omega) fun i i0 i1 => ?_
      obtain ⟨w, hw, e2, _⟩ := ix_map (e := T.str) (xs := someWords) i0 (by rw [show someWords.length = 13 from rfl]; omega)
      simp (implicitDefEqProofs := false) only [pu_bd, bd_bd, bd_pu, ofO_some, ofO_none, ofO_ite, stuck_bd, thr_bd, lft_pu, lft_bd, lft_gdc, lft_ite, lft_stuck, tb_bl, intO_int, itemsM_tup, itemsM_lst, itemsM_str, gd_c, gdc_T, compG_map, compA_pu, compA_gd, compA_if, compA_gdif, forM_map, forR_map, un2_tup, un3_tup, un4_tup, sum_inl, sum_inr, isStr_str, isTup_tup, joinF_l, joinF_t, strsOf_nil, strsOf_cons, strsOf_map, Option.bind_some, Option.bind_none, addT_int, addT_str, addT_lst, addT_tup, subT_int, mulT2_int, mulT2_str, fdivT_int, modT_int, powT_int, negT_int, eqT_int, neT_int, eqT_str, neT_str, eqT_bl, neT_bl, ltT_int, gtT_int, leT_int, geT_int, ixT_lst, ixT_tup, atI_0, atI_1, atI_2, atI_3, lenF_lst, lenF_tup, lenF_str, absF_int, intF_int, intF_bl, max2F_int, min2F_int, strF_int, isi_str, isi_int, isi_tup, isi_lst, slT_lst, slT_tup, slT_str, tupleF_lst, tupleF_tup, listF_lst, listF_tup, inT_strs, ninT_strs, inT_strsT, ninT_strsT, ite_pu, decide_eq_true_eq, Bool.not_eq_true', if_true, if_false, Bool.false_eq_true, Bool.true_eq_false, Option.map_some, Option.map_none] at e2
      simp (implicitDefEqProofs := false) only [pu_bd, bd_bd, bd_pu, ofO_some, ofO_none, ofO_ite, stuck_bd, thr_bd, lft_pu, lft_bd, lft_gdc, lft_ite, lft_stuck, tb_bl, intO_int, itemsM_tup, itemsM_lst, itemsM_str, gd_c, gdc_T, compG_map, compA_pu, compA_gd, compA_if, compA_gdif, forM_map, forR_map, un2_tup, un3_tup, un4_tup, sum_inl, sum_inr, isStr_str, isTup_tup, joinF_l, joinF_t, strsOf_nil, strsOf_cons, strsOf_map, Option.bind_some, Option.bind_none, addT_int, addT_str, addT_lst, addT_tup, subT_int, mulT2_int, mulT2_str, fdivT_int, modT_int, powT_int, negT_int, eqT_int, neT_int, eqT_str, neT_str, eqT_bl, neT_bl, ltT_int, gtT_int, leT_int, geT_int, ixT_lst, ixT_tup, atI_0, atI_1, atI_2, atI_3, lenF_lst, lenF_tup, lenF_str, absF_int, intF_int, intF_bl, max2F_int, min2F_int, strF_int, isi_str, isi_int, isi_tup, isi_lst, slT_lst, slT_tup, slT_str, tupleF_lst, tupleF_tup, listF_lst, listF_tup, inT_strs, ninT_strs, inT_strsT, ninT_strsT, ite_pu, decide_eq_true_eq, Bool.not_eq_true', if_true, if_false, Bool.false_eq_true, Bool.true_eq_false, Option.map_some, Option.map_none, e2]
      exact HT.pu ⟨w, rfl, someWords_ok w hw⟩
    rintro v ⟨name, rfl, okn⟩
    refine HT.bd (d1 := 100) (P := fun v => ∃ name : Nm, v = .str name ∧ NameOk name ∧ (xs.length < 26 → name ∉ xs)) ?_ ?_
    · refine (HT.le (HT.forN 1 26 (I := fun rest v => ∃ (done : List Sg) (name : Nm), done ++ rest = lowers ∧ v = .str name ∧ NameOk name ∧ (name ∈ xs → ∀ c ∈ done, name.take (name.length - 1) ++ [c] ∈ xs)) (Nat.le_of_eq l26) ⟨[], name, rfl, rfl, okn, fun _ => nofun⟩ ?_) (by omega)).mono ?_
      · rintro c cs v ⟨done, name, hd, rfl, okn, hst⟩
        have hc1 : c ∈ lowers := by rw [← hd]; simp
        obtain ⟨n1, n2, _⟩ := id okn
        simp (implicitDefEqProofs := false) only [pu_bd, bd_bd, bd_pu, ofO_some, ofO_none, ofO_ite, stuck_bd, thr_bd, lft_pu, lft_bd, lft_gdc, lft_ite, lft_stuck, tb_bl, intO_int, itemsM_tup, itemsM_lst, itemsM_str, gd_c, gdc_T, compG_map, compA_pu, compA_gd, compA_if, compA_gdif, forM_map, forR_map, un2_tup, un3_tup, un4_tup, sum_inl, sum_inr, isStr_str, isTup_tup, joinF_l, joinF_t, strsOf_nil, strsOf_cons, strsOf_map, Option.bind_some, Option.bind_none, addT_int, addT_str, addT_lst, addT_tup, subT_int, mulT2_int, mulT2_str, fdivT_int, modT_int, powT_int, negT_int, eqT_int, neT_int, eqT_str, neT_str, eqT_bl, neT_bl, ltT_int, gtT_int, leT_int, geT_int, ixT_lst, ixT_tup, atI_0, atI_1, atI_2, atI_3, lenF_lst, lenF_tup, lenF_str, absF_int, intF_int, intF_bl, max2F_int, min2F_int, strF_int, isi_str, isi_int, isi_tup, isi_lst, slT_lst, slT_tup, slT_str, tupleF_lst, tupleF_tup, listF_lst, listF_tup, inT_strs, ninT_strs, inT_strsT, ninT_strsT, ite_pu, decide_eq_true_eq, Bool.not_eq_true', if_true, if_false, Bool.false_eq_true, Bool.true_eq_false, Option.map_some, Option.map_none]
        refine HT.ite (fun hin => ?_) fun hin => HT.pu ⟨done ++ [c], name, by rw [← hd]; simp, rfl, okn, fun z => absurd z (by simpa using hin)⟩
        have hin : name ∈ xs := by simpa using hin
        refine HT.gdc (by omega) (HT.gdc (by omega) ?_)
        rw [show (name.length : Int) - 1 = ((name.length - 1 : Nat) : Int) by omega, cut_to]
        have e9 : (name.take (name.length - 1) ++ [c]).take ((name.take (name.length - 1) ++ [c]).length - 1) = name.take (name.length - 1) := by
          rw [List.length_append, List.length_singleton, Nat.add_sub_cancel, List.take_left]
        refine HT.gdc (by rw [List.length_take]; simp; omega) (HT.pu ⟨done ++ [c], _, by rw [← hd]; simp, rfl, nm_last okn hc1, fun hz c' hc' => ?_⟩)
        rw [e9]
        rcases List.mem_append.mp hc' with k | k
        · exact hst hin c' k
        · rw [List.mem_singleton.mp k]; exact hz
      · rintro v ⟨done, name, hd, rfl, okn, hst⟩
        refine ⟨name, rfl, okn, fun hx hin => ?_⟩
        rw [List.append_nil] at hd
        subst hd
        have nd2 : (lowers.map fun c => name.take (name.length - 1) ++ [c]).Nodup := nodup_map (fun a b e => by simpa using e) (by decide +kernel)
        have := nodup_le nd2 (m := xs) fun z hz => by
          obtain ⟨c, hc, rfl⟩ := List.mem_map.mp hz
          exact hst hin c hc
        rw [List.length_map, l26] at this
        omega
    rintro v ⟨name, rfl, okn, hnot⟩
    rw [List.length_cons] at hl hq
    simp (implicitDefEqProofs := false) only [pu_bd, bd_bd, bd_pu, ofO_some, ofO_none, ofO_ite, stuck_bd, thr_bd, lft_pu, lft_bd, lft_gdc, lft_ite, lft_stuck, tb_bl, intO_int, itemsM_tup, itemsM_lst, itemsM_str, gd_c, gdc_T, compG_map, compA_pu, compA_gd, compA_if, compA_gdif, forM_map, forR_map, un2_tup, un3_tup, un4_tup, sum_inl, sum_inr, isStr_str, isTup_tup, joinF_l, joinF_t, strsOf_nil, strsOf_cons, strsOf_map, Option.bind_some, Option.bind_none, addT_int, addT_str, addT_lst, addT_tup, subT_int, mulT2_int, mulT2_str, fdivT_int, modT_int, powT_int, negT_int, eqT_int, neT_int, eqT_str, neT_str, eqT_bl, neT_bl, ltT_int, gtT_int, leT_int, geT_int, ixT_lst, ixT_tup, atI_0, atI_1, atI_2, atI_3, lenF_lst, lenF_tup, lenF_str, absF_int, intF_int, intF_bl, max2F_int, min2F_int, strF_int, isi_str, isi_int, isi_tup, isi_lst, slT_lst, slT_tup, slT_str, tupleF_lst, tupleF_tup, listF_lst, listF_tup, inT_strs, ninT_strs, inT_strsT, ninT_strsT, ite_pu, decide_eq_true_eq, Bool.not_eq_true', if_true, if_false, Bool.false_eq_true, Bool.true_eq_false, Option.map_some, Option.map_none]
    refine HT.ite (fun h => ?_) fun h => HT.pu ⟨xs, rfl, nd, ok, by omega, fun z => by subst z; simp at h, fun hm26 => absurd (hnot (by have := hq hm26; omega)) (by simpa using h)⟩
    unfold appM
    rw [gd_c]
    refine HT.gdc (by rw [List.length_map]; omega) (HT.pu ⟨xs ++ [name], by simp, ?_, ?_, by simp; omega, by simp, fun hm26 => by have := hq hm26; simp; omega⟩)
    · exact List.nodup_append.mpr ⟨nd, by simp, fun a ha b hb => by rw [List.mem_singleton.mp hb]; intro e; subst e; exact absurd ha (by simpa using h)⟩
    · intro z hz
      rcases List.mem_append.mp hz with k | k
      · exact ok z k
      · rw [List.mem_singleton.mp k]; exact okn
  · obtain ⟨xs, rfl, nd, ok, hl, hz, hq⟩ := hs
    exact ⟨xs, rfl, nd, ok, by simpa using hl, fun h z => by have := hz z; simp at this; omega, fun h => by simpa using hq h⟩
theorem some_names_ht {many : Nat} (hm : many ≤ 40) : HT 1000000 (m_law_some_names (.int many)) fun v => ∃ xs : List Nm, v = .lst (xs.map T.str) ∧ xs.Nodup ∧ (∀ x ∈ xs, NameOk x) ∧ xs.length ≤ many ∧ (0 < many → xs ≠ []) :=
  (some_names_full hm).mono fun v ⟨xs, a, b, c, d, e, _⟩ => ⟨xs, a, b, c, d, e⟩
theorem some_family_ht {names : List Nm} (h1 : names ≠ []) (h2 : names.length ≤ 1000) : HT 2 (m_law_some_family (.lst (names.map T.str))) fun v => ∃ f : List Nm, v = famT f ∧ f.Nodup ∧ 1 ≤ f.length ∧ f.length ≤ 2 ∧ ∀ x ∈ f, x ∈ names := by
  have l0 : 0 < names.length := List.length_pos_iff.mpr h1
  unfold m_law_some_family
  simp only [pu_bd, bd_bd, bd_pu, ofO_some, ofO_none, ofO_ite, stuck_bd, thr_bd, lft_pu, lft_bd, lft_gdc, lft_ite, lft_stuck, tb_bl, intO_int, itemsM_tup, itemsM_lst, itemsM_str, gd_c, gdc_T, compG_map, compA_pu, compA_gd, compA_if, compA_gdif, forM_map, forR_map, un2_tup, un3_tup, un4_tup, sum_inl, sum_inr, isStr_str, isTup_tup, joinF_l, joinF_t, strsOf_nil, strsOf_cons, strsOf_map, Option.bind_some, Option.bind_none, addT_int, addT_str, addT_lst, addT_tup, subT_int, mulT2_int, mulT2_str, fdivT_int, modT_int, powT_int, negT_int, eqT_int, neT_int, eqT_str, neT_str, eqT_bl, neT_bl, ltT_int, gtT_int, leT_int, geT_int, ixT_lst, ixT_tup, atI_0, atI_1, atI_2, atI_3, lenF_lst, lenF_tup, lenF_str, absF_int, intF_int, intF_bl, max2F_int, min2F_int, strF_int, isi_str, isi_int, isi_tup, isi_lst, slT_lst, slT_tup, slT_str, tupleF_lst, tupleF_tup, listF_lst, listF_tup, inT_strs, ninT_strs, inT_strsT, ninT_strsT, ite_pu, decide_eq_true_eq, Bool.not_eq_true', if_true, if_false, Bool.false_eq_true, Bool.true_eq_false, Option.map_some, Option.map_none, List.length_map]
  refine HT.drawB (by omega) (by omega) fun d d0 d1 => ?_
  obtain ⟨x, hx, ex, _⟩ := ix_map (e := T.str) (xs := names) d0 d1
  simp only [pu_bd, bd_bd, bd_pu, ofO_some, ofO_none, ofO_ite, stuck_bd, thr_bd, lft_pu, lft_bd, lft_gdc, lft_ite, lft_stuck, tb_bl, intO_int, itemsM_tup, itemsM_lst, itemsM_str, gd_c, gdc_T, compG_map, compA_pu, compA_gd, compA_if, compA_gdif, forM_map, forR_map, un2_tup, un3_tup, un4_tup, sum_inl, sum_inr, isStr_str, isTup_tup, joinF_l, joinF_t, strsOf_nil, strsOf_cons, strsOf_map, Option.bind_some, Option.bind_none, addT_int, addT_str, addT_lst, addT_tup, subT_int, mulT2_int, mulT2_str, fdivT_int, modT_int, powT_int, negT_int, eqT_int, neT_int, eqT_str, neT_str, eqT_bl, neT_bl, ltT_int, gtT_int, leT_int, geT_int, ixT_lst, ixT_tup, atI_0, atI_1, atI_2, atI_3, lenF_lst, lenF_tup, lenF_str, absF_int, intF_int, intF_bl, max2F_int, min2F_int, strF_int, isi_str, isi_int, isi_tup, isi_lst, slT_lst, slT_tup, slT_str, tupleF_lst, tupleF_tup, listF_lst, listF_tup, inT_strs, ninT_strs, inT_strsT, ninT_strsT, ite_pu, decide_eq_true_eq, Bool.not_eq_true', if_true, if_false, Bool.false_eq_true, Bool.true_eq_false, Option.map_some, Option.map_none, ex, List.length_map]
  refine HT.drawB (d := 0) (by omega) (by omega) fun d d0 d1 => ?_
  obtain ⟨y, hy, ey, _⟩ := ix_map (e := T.str) (xs := names) d0 d1
  simp only [pu_bd, bd_bd, bd_pu, ofO_some, ofO_none, ofO_ite, stuck_bd, thr_bd, lft_pu, lft_bd, lft_gdc, lft_ite, lft_stuck, tb_bl, intO_int, itemsM_tup, itemsM_lst, itemsM_str, gd_c, gdc_T, compG_map, compA_pu, compA_gd, compA_if, compA_gdif, forM_map, forR_map, un2_tup, un3_tup, un4_tup, sum_inl, sum_inr, isStr_str, isTup_tup, joinF_l, joinF_t, strsOf_nil, strsOf_cons, strsOf_map, Option.bind_some, Option.bind_none, addT_int, addT_str, addT_lst, addT_tup, subT_int, mulT2_int, mulT2_str, fdivT_int, modT_int, powT_int, negT_int, eqT_int, neT_int, eqT_str, neT_str, eqT_bl, neT_bl, ltT_int, gtT_int, leT_int, geT_int, ixT_lst, ixT_tup, atI_0, atI_1, atI_2, atI_3, lenF_lst, lenF_tup, lenF_str, absF_int, intF_int, intF_bl, max2F_int, min2F_int, strF_int, isi_str, isi_int, isi_tup, isi_lst, slT_lst, slT_tup, slT_str, tupleF_lst, tupleF_tup, listF_lst, listF_tup, inT_strs, ninT_strs, inT_strsT, ninT_strsT, ite_pu, decide_eq_true_eq, Bool.not_eq_true', if_true, if_false, Bool.false_eq_true, Bool.true_eq_false, Option.map_some, Option.map_none, ey]
  split
  · exact HT.pu ⟨[x], rfl, by simp, by simp, by simp, fun z hz => by rw [List.mem_singleton.mp hz]; exact hx⟩
  · rename_i hne
    refine HT.pu ⟨[x, y], rfl, by simpa using hne, by simp, by simp, fun z hz => ?_⟩
    rcases List.mem_cons.mp hz with w | w
    · rw [w]; exact hx
    · rw [List.mem_singleton.mp w]; exact hy
/-- births, adoptions drawn -/
theorem kin_loop_ht {names : List Nm} {unions : List (List Nm)} {k : Int} (ln : names.length ≤ 1000) (une : unions ≠ [] → names ≠ []) (lu : unions.length ≤ 1000) (k0 : 0 ≤ k) (k1 : k ≤ 40) :
    HT 200 (forA (fun (_ : Nat) (s64 : List T) => bd (m_draw (.int unions.length)) fun a => bd (ofO (ixT emp (.lst (unions.map famT)) a)) fun v80 => bd (m_draw (.int names.length)) fun a => bd (ofO (ixT emp (.lst (names.map T.str)) a)) fun v86 =>
      bd (ofO (ninT emp v86 v80)) fun a => bd (tb a) fun v90 => if v90 = true then appM s64 (.tup [v86, v80]) else pu s64) (List.range (k * if unions.isEmpty = false then 1 else 0).toNat) []) fun s => ∃ bs : List (Nm × List Nm), s = bs.map kinT ∧ (∀ b ∈ bs, KinOk names unions b) ∧ bs.length ≤ 40 := by
  have hs := sizeLine_eq
  refine (HT.le (HT.forN 2 40 (I := fun rest s => ∃ bs : List (Nm × List Nm), s = bs.map kinT ∧ (∀ b ∈ bs, KinOk names unions b) ∧ bs.length + rest.length ≤ 40 ∧ (rest ≠ [] → unions ≠ [])) ?_ ?_ ?_) (by omega)).mono ?_
  · rw [List.length_range]; split <;> omega
  · refine ⟨[], rfl, nofun, ?_, fun h z => h ?_⟩
    · rw [List.length_range]; simp only [List.length_nil]; split <;> omega
    · subst z
      simp
  · rintro x rest s ⟨bs, rfl, ok, hl, hu⟩
    have u1 := hu (by simp)
    have u0 := List.length_pos_iff.mpr u1
    have n0 := List.length_pos_iff.mpr (une u1)
    rw [List.length_cons] at hl
    refine HT.drawB (by omega) (by omega) fun i i0 i1 => ?_
    obtain ⟨f, hf, e1, _⟩ := ix_map (e := famT) (xs := unions) i0 i1
    rw [e1]
    simp (implicitDefEqProofs := false) only [pu_bd, bd_bd, bd_pu, ofO_some, ofO_none, ofO_ite, stuck_bd, thr_bd, lft_pu, lft_bd, lft_gdc, lft_ite, lft_stuck, tb_bl, intO_int, itemsM_tup, itemsM_lst, itemsM_str, gd_c, gdc_T, compG_map, compA_pu, compA_gd, compA_if, compA_gdif, forM_map, forR_map, un2_tup, un3_tup, un4_tup, sum_inl, sum_inr, isStr_str, isTup_tup, joinF_l, joinF_t, strsOf_nil, strsOf_cons, strsOf_map, Option.bind_some, Option.bind_none, addT_int, addT_str, addT_lst, addT_tup, subT_int, mulT2_int, mulT2_str, fdivT_int, modT_int, powT_int, negT_int, eqT_int, neT_int, eqT_str, neT_str, eqT_bl, neT_bl, ltT_int, gtT_int, leT_int, geT_int, ixT_lst, ixT_tup, atI_0, atI_1, atI_2, atI_3, lenF_lst, lenF_tup, lenF_str, absF_int, intF_int, intF_bl, max2F_int, min2F_int, strF_int, isi_str, isi_int, isi_tup, isi_lst, slT_lst, slT_tup, slT_str, tupleF_lst, tupleF_tup, listF_lst, listF_tup, inT_strs, ninT_strs, inT_strsT, ninT_strsT, ite_pu, decide_eq_true_eq, Bool.not_eq_true', if_true, if_false, Bool.false_eq_true, Bool.true_eq_false, Option.map_some, Option.map_none]
    refine HT.drawB (by omega) (by omega) fun i i0 i1 => ?_
    obtain ⟨c, hc, e2, _⟩ := ix_map (e := T.str) (xs := names) i0 i1
    simp (implicitDefEqProofs := false) only [pu_bd, bd_bd, bd_pu, ofO_some, ofO_none, ofO_ite, stuck_bd, thr_bd, lft_pu, lft_bd, lft_gdc, lft_ite, lft_stuck, tb_bl, intO_int, itemsM_tup, itemsM_lst, itemsM_str, gd_c, gdc_T, compG_map, compA_pu, compA_gd, compA_if, compA_gdif, forM_map, forR_map, un2_tup, un3_tup, un4_tup, sum_inl, sum_inr, isStr_str, isTup_tup, joinF_l, joinF_t, strsOf_nil, strsOf_cons, strsOf_map, Option.bind_some, Option.bind_none, addT_int, addT_str, addT_lst, addT_tup, subT_int, mulT2_int, mulT2_str, fdivT_int, modT_int, powT_int, negT_int, eqT_int, neT_int, eqT_str, neT_str, eqT_bl, neT_bl, ltT_int, gtT_int, leT_int, geT_int, ixT_lst, ixT_tup, atI_0, atI_1, atI_2, atI_3, lenF_lst, lenF_tup, lenF_str, absF_int, intF_int, intF_bl, max2F_int, min2F_int, strF_int, isi_str, isi_int, isi_tup, isi_lst, slT_lst, slT_tup, slT_str, tupleF_lst, tupleF_tup, listF_lst, listF_tup, inT_strs, ninT_strs, inT_strsT, ninT_strsT, ite_pu, decide_eq_true_eq, Bool.not_eq_true', if_true, if_false, Bool.false_eq_true, Bool.true_eq_false, Option.map_some, Option.map_none] at e2
    simp (implicitDefEqProofs := false) only [pu_bd, bd_bd, bd_pu, ofO_some, ofO_none, ofO_ite, stuck_bd, thr_bd, lft_pu, lft_bd, lft_gdc, lft_ite, lft_stuck, tb_bl, intO_int, itemsM_tup, itemsM_lst, itemsM_str, gd_c, gdc_T, compG_map, compA_pu, compA_gd, compA_if, compA_gdif, forM_map, forR_map, un2_tup, un3_tup, un4_tup, sum_inl, sum_inr, isStr_str, isTup_tup, joinF_l, joinF_t, strsOf_nil, strsOf_cons, strsOf_map, Option.bind_some, Option.bind_none, addT_int, addT_str, addT_lst, addT_tup, subT_int, mulT2_int, mulT2_str, fdivT_int, modT_int, powT_int, negT_int, eqT_int, neT_int, eqT_str, neT_str, eqT_bl, neT_bl, ltT_int, gtT_int, leT_int, geT_int, ixT_lst, ixT_tup, atI_0, atI_1, atI_2, atI_3, lenF_lst, lenF_tup, lenF_str, absF_int, intF_int, intF_bl, max2F_int, min2F_int, strF_int, isi_str, isi_int, isi_tup, isi_lst, slT_lst, slT_tup, slT_str, tupleF_lst, tupleF_tup, listF_lst, listF_tup, inT_strs, ninT_strs, inT_strsT, ninT_strsT, ite_pu, decide_eq_true_eq, Bool.not_eq_true', if_true, if_false, Bool.false_eq_true, Bool.true_eq_false, Option.map_some, Option.map_none, e2, ninT_fam]
    refine HT.ite (fun h => ?_) fun _ => HT.pu ⟨bs, rfl, ok, by omega, fun _ => u1⟩
    unfold appM
    rw [gd_c]
    refine HT.gdc (by rw [List.length_map]; omega) (HT.pu ⟨bs ++ [(c, f)], by simp [kinT], fun b hb => ?_, by simp; omega, fun _ => u1⟩)
    rcases List.mem_append.mp hb with z | z
    · exact ok b z
    · rw [List.mem_singleton.mp z]
      exact ⟨hc, hf, by simpa using h⟩
  · rintro s ⟨bs, rfl, ok, hl, _⟩
    exact ⟨bs, rfl, ok, by simpa using hl⟩
theorem any_book_ht {most : Nat} (hm : most ≤ 16) : HT 10000000 (m_law_any_book (.int most)) fun v => ∃ B : Bk, v = bkT B ∧ BkOk B := by
  have hs := sizeLine_eq
  unfold m_law_any_book
  simp (implicitDefEqProofs := false) only [pu_bd, bd_bd, bd_pu, ofO_some, ofO_none, ofO_ite, stuck_bd, thr_bd, lft_pu, lft_bd, lft_gdc, lft_ite, lft_stuck, tb_bl, intO_int, itemsM_tup, itemsM_lst, itemsM_str, gd_c, gdc_T, compG_map, compA_pu, compA_gd, compA_if, compA_gdif, forM_map, forR_map, un2_tup, un3_tup, un4_tup, sum_inl, sum_inr, isStr_str, isTup_tup, joinF_l, joinF_t, strsOf_nil, strsOf_cons, strsOf_map, Option.bind_some, Option.bind_none, addT_int, addT_str, addT_lst, addT_tup, subT_int, mulT2_int, mulT2_str, fdivT_int, modT_int, powT_int, negT_int, eqT_int, neT_int, eqT_str, neT_str, eqT_bl, neT_bl, ltT_int, gtT_int, leT_int, geT_int, ixT_lst, ixT_tup, atI_0, atI_1, atI_2, atI_3, lenF_lst, lenF_tup, lenF_str, absF_int, intF_int, intF_bl, max2F_int, min2F_int, strF_int, isi_str, isi_int, isi_tup, isi_lst, slT_lst, slT_tup, slT_str, tupleF_lst, tupleF_tup, listF_lst, listF_tup, inT_strs, ninT_strs, inT_strsT, ninT_strsT, ite_pu, decide_eq_true_eq, Bool.not_eq_true', if_true, if_false, Bool.false_eq_true, Bool.true_eq_false, Option.map_some, Option.map_none]
  refine HT.drawB (by omega) (by omega) fun great g0 g1 => ?_
  simp (implicitDefEqProofs := false) only [pu_bd, bd_bd, bd_pu, ofO_some, ofO_none, ofO_ite, stuck_bd, thr_bd, lft_pu, lft_bd, lft_gdc, lft_ite, lft_stuck, tb_bl, intO_int, itemsM_tup, itemsM_lst, itemsM_str, gd_c, gdc_T, compG_map, compA_pu, compA_gd, compA_if, compA_gdif, forM_map, forR_map, un2_tup, un3_tup, un4_tup, sum_inl, sum_inr, isStr_str, isTup_tup, joinF_l, joinF_t, strsOf_nil, strsOf_cons, strsOf_map, Option.bind_some, Option.bind_none, addT_int, addT_str, addT_lst, addT_tup, subT_int, mulT2_int, mulT2_str, fdivT_int, modT_int, powT_int, negT_int, eqT_int, neT_int, eqT_str, neT_str, eqT_bl, neT_bl, ltT_int, gtT_int, leT_int, geT_int, ixT_lst, ixT_tup, atI_0, atI_1, atI_2, atI_3, lenF_lst, lenF_tup, lenF_str, absF_int, intF_int, intF_bl, max2F_int, min2F_int, strF_int, isi_str, isi_int, isi_tup, isi_lst, slT_lst, slT_tup, slT_str, tupleF_lst, tupleF_tup, listF_lst, listF_tup, inT_strs, ninT_strs, inT_strsT, ninT_strsT, ite_pu, decide_eq_true_eq, Bool.not_eq_true', if_true, if_false, Bool.false_eq_true, Bool.true_eq_false, Option.map_some, Option.map_none]
  refine HT.drawB (by omega) (by omega) fun i i0 i1 => ?_
  obtain ⟨k, ek, k0, k1⟩ := pick2i (a := i) (b := most) (c := great = 0) 0 most (by omega) (by omega)
  rw [ek, ofO_some, pu_bd]
  obtain ⟨many, rfl⟩ := Int.eq_ofNat_of_zero_le k0
  refine HT.bd (d1 := 1000000) (some_names_ht (by omega)) ?_
  rintro v ⟨names, rfl, nd, ok, ln, nz⟩
  simp (implicitDefEqProofs := false) only [pu_bd, bd_bd, bd_pu, ofO_some, ofO_none, ofO_ite, stuck_bd, thr_bd, lft_pu, lft_bd, lft_gdc, lft_ite, lft_stuck, tb_bl, intO_int, itemsM_tup, itemsM_lst, itemsM_str, gd_c, gdc_T, compG_map, compA_pu, compA_gd, compA_if, compA_gdif, forM_map, forR_map, un2_tup, un3_tup, un4_tup, sum_inl, sum_inr, isStr_str, isTup_tup, joinF_l, joinF_t, strsOf_nil, strsOf_cons, strsOf_map, Option.bind_some, Option.bind_none, addT_int, addT_str, addT_lst, addT_tup, subT_int, mulT2_int, mulT2_str, fdivT_int, modT_int, powT_int, negT_int, eqT_int, neT_int, eqT_str, neT_str, eqT_bl, neT_bl, ltT_int, gtT_int, leT_int, geT_int, ixT_lst, ixT_tup, atI_0, atI_1, atI_2, atI_3, lenF_lst, lenF_tup, lenF_str, absF_int, intF_int, intF_bl, max2F_int, min2F_int, strF_int, isi_str, isi_int, isi_tup, isi_lst, slT_lst, slT_tup, slT_str, tupleF_lst, tupleF_tup, listF_lst, listF_tup, inT_strs, ninT_strs, inT_strsT, ninT_strsT, ite_pu, decide_eq_true_eq, Bool.not_eq_true', if_true, if_false, Bool.false_eq_true, Bool.true_eq_false, Option.map_some, Option.map_none]
  refine HT.gdc (by omega) ?_
  refine HT.bd (d1 := 100) (P := fun ys => ∃ folk : List (Nm × Nm), ys = folk.map fkT ∧ folk.map (·.1) = names ∧ ∀ x ∈ folk, x.2 ∈ MKS) ?_ ?_
  · refine (HT.le (HT.compN 1 16 (I := fun rest acc => ∃ folk : List (Nm × Nm), acc = folk.map fkT ∧ folk.map (·.1) ++ rest = names ∧ ∀ x ∈ folk, x.2 ∈ MKS) (by omega) ⟨[], rfl, rfl, nofun⟩ ?_) (by omega)).mono ?_
    · rintro x rest acc ⟨folk, rfl, e, ms⟩
      refine HT.drawB (by omega) (by omega) fun i i0 i1 => ?_
      obtain ⟨w, hw, e2⟩ := wmo_pick i0 i1
      simp (implicitDefEqProofs := false) only [pu_bd, bd_bd, bd_pu, ofO_some, ofO_none, ofO_ite, stuck_bd, thr_bd, lft_pu, lft_bd, lft_gdc, lft_ite, lft_stuck, tb_bl, intO_int, itemsM_tup, itemsM_lst, itemsM_str, gd_c, gdc_T, compG_map, compA_pu, compA_gd, compA_if, compA_gdif, forM_map, forR_map, un2_tup, un3_tup, un4_tup, sum_inl, sum_inr, isStr_str, isTup_tup, joinF_l, joinF_t, strsOf_nil, strsOf_cons, strsOf_map, Option.bind_some, Option.bind_none, addT_int, addT_str, addT_lst, addT_tup, subT_int, mulT2_int, mulT2_str, fdivT_int, modT_int, powT_int, negT_int, eqT_int, neT_int, eqT_str, neT_str, eqT_bl, neT_bl, ltT_int, gtT_int, leT_int, geT_int, ixT_lst, ixT_tup, atI_0, atI_1, atI_2, atI_3, lenF_lst, lenF_tup, lenF_str, absF_int, intF_int, intF_bl, max2F_int, min2F_int, strF_int, isi_str, isi_int, isi_tup, isi_lst, slT_lst, slT_tup, slT_str, tupleF_lst, tupleF_tup, listF_lst, listF_tup, inT_strs, ninT_strs, inT_strsT, ninT_strsT, ite_pu, decide_eq_true_eq, Bool.not_eq_true', if_true, if_false, Bool.false_eq_true, Bool.true_eq_false, Option.map_some, Option.map_none, e2]
      refine HT.pu ⟨folk ++ [(x, w)], by simp [fkT], by simp [← e], fun y hy => ?_⟩
      rcases List.mem_append.mp hy with z | z
      · exact ms y z
      · rw [List.mem_singleton.mp z]; exact hw
    · rintro ys ⟨folk, rfl, e, ms⟩
      exact ⟨folk, rfl, by simpa using e, ms⟩
  rintro ys ⟨folk, rfl, en, ms⟩
  simp (implicitDefEqProofs := false) only [pu_bd, bd_bd, bd_pu, ofO_some, ofO_none, ofO_ite, stuck_bd, thr_bd, lft_pu, lft_bd, lft_gdc, lft_ite, lft_stuck, tb_bl, intO_int, itemsM_tup, itemsM_lst, itemsM_str, gd_c, gdc_T, compG_map, compA_pu, compA_gd, compA_if, compA_gdif, forM_map, forR_map, un2_tup, un3_tup, un4_tup, sum_inl, sum_inr, isStr_str, isTup_tup, joinF_l, joinF_t, strsOf_nil, strsOf_cons, strsOf_map, Option.bind_some, Option.bind_none, addT_int, addT_str, addT_lst, addT_tup, subT_int, mulT2_int, mulT2_str, fdivT_int, modT_int, powT_int, negT_int, eqT_int, neT_int, eqT_str, neT_str, eqT_bl, neT_bl, ltT_int, gtT_int, leT_int, geT_int, ixT_lst, ixT_tup, atI_0, atI_1, atI_2, atI_3, lenF_lst, lenF_tup, lenF_str, absF_int, intF_int, intF_bl, max2F_int, min2F_int, strF_int, isi_str, isi_int, isi_tup, isi_lst, slT_lst, slT_tup, slT_str, tupleF_lst, tupleF_tup, listF_lst, listF_tup, inT_strs, ninT_strs, inT_strsT, ninT_strsT, ite_pu, decide_eq_true_eq, Bool.not_eq_true', if_true, if_false, Bool.false_eq_true, Bool.true_eq_false, Option.map_some, Option.map_none, neT_nilL ke_str]
  refine HT.bd (d1 := 1000) (P := fun v => ∃ us : List (List Nm), v = .lst (us.map famT) ∧ (∀ f ∈ us, FamOk names f) ∧ Rise (us.map famT) ∧ us.length ≤ 16 ∧ (us ≠ [] → names ≠ [])) ?_ ?_
  · refine HT.ite (fun h => ?_) fun _ => HT.pu ⟨[], rfl, nofun, List.Pairwise.nil, by simp, nofun⟩
    have hne : names ≠ [] := fun z => by subst z; cases h
    refine HT.drawB (by omega) (by omega) fun i i0 i1 => ?_
    obtain ⟨k, ek, k0, k1⟩ := pick2i (a := i) (b := 40) (c := great = 0) 0 40 (by omega) (by omega)
    rw [ek, ofO_some, pu_bd, rng1_int (by omega)]
    simp (implicitDefEqProofs := false) only [pu_bd, bd_bd, bd_pu, ofO_some, ofO_none, ofO_ite, stuck_bd, thr_bd, lft_pu, lft_bd, lft_gdc, lft_ite, lft_stuck, tb_bl, intO_int, itemsM_tup, itemsM_lst, itemsM_str, gd_c, gdc_T, compG_map, compA_pu, compA_gd, compA_if, compA_gdif, forM_map, forR_map, un2_tup, un3_tup, un4_tup, sum_inl, sum_inr, isStr_str, isTup_tup, joinF_l, joinF_t, strsOf_nil, strsOf_cons, strsOf_map, Option.bind_some, Option.bind_none, addT_int, addT_str, addT_lst, addT_tup, subT_int, mulT2_int, mulT2_str, fdivT_int, modT_int, powT_int, negT_int, eqT_int, neT_int, eqT_str, neT_str, eqT_bl, neT_bl, ltT_int, gtT_int, leT_int, geT_int, ixT_lst, ixT_tup, atI_0, atI_1, atI_2, atI_3, lenF_lst, lenF_tup, lenF_str, absF_int, intF_int, intF_bl, max2F_int, min2F_int, strF_int, isi_str, isi_int, isi_tup, isi_lst, slT_lst, slT_tup, slT_str, tupleF_lst, tupleF_tup, listF_lst, listF_tup, inT_strs, ninT_strs, inT_strsT, ninT_strsT, ite_pu, decide_eq_true_eq, Bool.not_eq_true', if_true, if_false, Bool.false_eq_true, Bool.true_eq_false, Option.map_some, Option.map_none]
    refine HT.gdc (by rw [List.length_range]; omega) ?_
    refine HT.bd (d1 := 100) (P := fun ys => ∃ fs : List (List Nm), ys = fs.map famT ∧ (∀ f ∈ fs, FamOk names f) ∧ fs.length ≤ 40) ?_ ?_
    · refine (HT.le (HT.compN 2 40 (I := fun rest acc => ∃ fs : List (List Nm), acc = fs.map famT ∧ (∀ f ∈ fs, FamOk names f) ∧ fs.length + rest.length ≤ 40) (by rw [List.length_range]; omega) ⟨[], rfl, nofun, by rw [List.length_range]; simp; omega⟩ ?_) (by omega)).mono ?_
      · rintro x rest acc ⟨fs, rfl, okf, hl⟩
        rw [List.length_cons] at hl
        refine HT.bd (d1 := 2) (d2 := 0) (some_family_ht hne (by omega)) ?_
        rintro v ⟨f, rfl, f1, f2, f3, f4⟩
        obtain ⟨g, eg, og⟩ := fam_sorted f1 f2 f3 f4
        unfold famT
        rw [sortedF_tup, sortOk_strs, List.length_map, decide_eq_true (by omega), eg]
        simp (implicitDefEqProofs := false) only [pu_bd, bd_bd, bd_pu, ofO_some, ofO_none, ofO_ite, stuck_bd, thr_bd, lft_pu, lft_bd, lft_gdc, lft_ite, lft_stuck, tb_bl, intO_int, itemsM_tup, itemsM_lst, itemsM_str, gd_c, gdc_T, compG_map, compA_pu, compA_gd, compA_if, compA_gdif, forM_map, forR_map, un2_tup, un3_tup, un4_tup, sum_inl, sum_inr, isStr_str, isTup_tup, joinF_l, joinF_t, strsOf_nil, strsOf_cons, strsOf_map, Option.bind_some, Option.bind_none, addT_int, addT_str, addT_lst, addT_tup, subT_int, mulT2_int, mulT2_str, fdivT_int, modT_int, powT_int, negT_int, eqT_int, neT_int, eqT_str, neT_str, eqT_bl, neT_bl, ltT_int, gtT_int, leT_int, geT_int, ixT_lst, ixT_tup, atI_0, atI_1, atI_2, atI_3, lenF_lst, lenF_tup, lenF_str, absF_int, intF_int, intF_bl, max2F_int, min2F_int, strF_int, isi_str, isi_int, isi_tup, isi_lst, slT_lst, slT_tup, slT_str, tupleF_lst, tupleF_tup, listF_lst, listF_tup, inT_strs, ninT_strs, inT_strsT, ninT_strsT, ite_pu, decide_eq_true_eq, Bool.not_eq_true', if_true, if_false, Bool.false_eq_true, Bool.true_eq_false, Option.map_some, Option.map_none, Bool.and_self]
        refine HT.pu ⟨fs ++ [g], by simp [famT], fun z hz => ?_, by simp; omega⟩
        rcases List.mem_append.mp hz with w | w
        · exact okf z w
        · rw [List.mem_singleton.mp w]; exact og
      · rintro ys ⟨fs, rfl, okf, hl⟩
        exact ⟨fs, rfl, okf, by simpa using hl⟩
    rintro ys ⟨fs, rfl, okf, hl⟩
    have hp : ∀ f ∈ fs, f ≠ [] := fun f hf z => by have := (okf f hf).lo; subst z; cases this
    rw [(se_fam.sset hp (fun _ => rfl) (by omega)).1]
    simp (implicitDefEqProofs := false) only [pu_bd, bd_bd, bd_pu, ofO_some, ofO_none, ofO_ite, stuck_bd, thr_bd, lft_pu, lft_bd, lft_gdc, lft_ite, lft_stuck, tb_bl, intO_int, itemsM_tup, itemsM_lst, itemsM_str, gd_c, gdc_T, compG_map, compA_pu, compA_gd, compA_if, compA_gdif, forM_map, forR_map, un2_tup, un3_tup, un4_tup, sum_inl, sum_inr, isStr_str, isTup_tup, joinF_l, joinF_t, strsOf_nil, strsOf_cons, strsOf_map, Option.bind_some, Option.bind_none, addT_int, addT_str, addT_lst, addT_tup, subT_int, mulT2_int, mulT2_str, fdivT_int, modT_int, powT_int, negT_int, eqT_int, neT_int, eqT_str, neT_str, eqT_bl, neT_bl, ltT_int, gtT_int, leT_int, geT_int, ixT_lst, ixT_tup, atI_0, atI_1, atI_2, atI_3, lenF_lst, lenF_tup, lenF_str, absF_int, intF_int, intF_bl, max2F_int, min2F_int, strF_int, isi_str, isi_int, isi_tup, isi_lst, slT_lst, slT_tup, slT_str, tupleF_lst, tupleF_tup, listF_lst, listF_tup, inT_strs, ninT_strs, inT_strsT, ninT_strsT, ite_pu, decide_eq_true_eq, Bool.not_eq_true', if_true, if_false, Bool.false_eq_true, Bool.true_eq_false, Option.map_some, Option.map_none]
    rw [show cutT ((srtU famT fs).map famT) none (some 16) = ((srtU famT fs).map famT).take 16 from cut_to _ 16, ← List.map_take]
    refine HT.pu ⟨_, rfl, fun f hf => okf f (ke_fam.srtU_mem.mp (List.mem_of_mem_take hf)), ?_, by rw [List.length_take]; omega, fun _ => hne⟩
    rw [List.map_take]
    exact rise_take (se_fam.riseU hp) 16
  rintro v ⟨us, rfl, oku, ru, lu, une⟩
  refine HT.drawB (by omega) (by omega) fun i i0 i1 => ?_
  obtain ⟨k, ek, k0, k1⟩ := pick2i (a := i) (b := 40) (c := great = 0) 0 40 (by omega) (by omega)
  have mk : ∀ k : Int, 0 ≤ k → k ≤ 40 → mulI k (if us.isEmpty = false then 1 else 0) = true := fun k k0 k1 => mulI_b (by omega) (by split <;> omega)
  have rk : ∀ k : Int, 0 ≤ k → k ≤ 40 → rng1 (κ := Cell) (.int (k * if us.isEmpty = false then 1 else 0)) = pu ((List.range (k * if us.isEmpty = false then 1 else 0).toNat).map fun i => T.int (0 + (i : Nat))) := fun k k0 k1 => rng1_int (by split <;> omega)
  rw [ek]
  simp (implicitDefEqProofs := false) only [pu_bd, bd_bd, bd_pu, ofO_some, ofO_none, ofO_ite, stuck_bd, thr_bd, lft_pu, lft_bd, lft_gdc, lft_ite, lft_stuck, tb_bl, intO_int, itemsM_tup, itemsM_lst, itemsM_str, gd_c, gdc_T, compG_map, compA_pu, compA_gd, compA_if, compA_gdif, forM_map, forR_map, un2_tup, un3_tup, un4_tup, sum_inl, sum_inr, isStr_str, isTup_tup, joinF_l, joinF_t, strsOf_nil, strsOf_cons, strsOf_map, Option.bind_some, Option.bind_none, addT_int, addT_str, addT_lst, addT_tup, subT_int, mulT2_int, mulT2_str, fdivT_int, modT_int, powT_int, negT_int, eqT_int, neT_int, eqT_str, neT_str, eqT_bl, neT_bl, ltT_int, gtT_int, leT_int, geT_int, ixT_lst, ixT_tup, atI_0, atI_1, atI_2, atI_3, lenF_lst, lenF_tup, lenF_str, absF_int, intF_int, intF_bl, max2F_int, min2F_int, strF_int, isi_str, isi_int, isi_tup, isi_lst, slT_lst, slT_tup, slT_str, tupleF_lst, tupleF_tup, listF_lst, listF_tup, inT_strs, ninT_strs, inT_strsT, ninT_strsT, ite_pu, decide_eq_true_eq, Bool.not_eq_true', if_true, if_false, Bool.false_eq_true, Bool.true_eq_false, Option.map_some, Option.map_none, neT_nilL ke_fam, mk k k0 k1, rk k k0 k1, List.length_map]
  refine HT.bd (d1 := 200) (kin_loop_ht (by omega) une (by omega) k0 k1) ?_
  rintro s ⟨bs, rfl, okb, lb⟩
  refine HT.drawB (by omega) (by omega) fun i i0 i1 => ?_
  obtain ⟨j, ej, j0, j1⟩ := pick2i (a := i) (b := 16) (c := great = 0) 0 40 (by omega) (by omega)
  rw [ej]
  simp (implicitDefEqProofs := false) only [pu_bd, bd_bd, bd_pu, ofO_some, ofO_none, ofO_ite, stuck_bd, thr_bd, lft_pu, lft_bd, lft_gdc, lft_ite, lft_stuck, tb_bl, intO_int, itemsM_tup, itemsM_lst, itemsM_str, gd_c, gdc_T, compG_map, compA_pu, compA_gd, compA_if, compA_gdif, forM_map, forR_map, un2_tup, un3_tup, un4_tup, sum_inl, sum_inr, isStr_str, isTup_tup, joinF_l, joinF_t, strsOf_nil, strsOf_cons, strsOf_map, Option.bind_some, Option.bind_none, addT_int, addT_str, addT_lst, addT_tup, subT_int, mulT2_int, mulT2_str, fdivT_int, modT_int, powT_int, negT_int, eqT_int, neT_int, eqT_str, neT_str, eqT_bl, neT_bl, ltT_int, gtT_int, leT_int, geT_int, ixT_lst, ixT_tup, atI_0, atI_1, atI_2, atI_3, lenF_lst, lenF_tup, lenF_str, absF_int, intF_int, intF_bl, max2F_int, min2F_int, strF_int, isi_str, isi_int, isi_tup, isi_lst, slT_lst, slT_tup, slT_str, tupleF_lst, tupleF_tup, listF_lst, listF_tup, inT_strs, ninT_strs, inT_strsT, ninT_strsT, ite_pu, decide_eq_true_eq, Bool.not_eq_true', if_true, if_false, Bool.false_eq_true, Bool.true_eq_false, Option.map_some, Option.map_none, mk j j0 j1, rk j j0 j1]
  refine HT.bd (d1 := 200) (kin_loop_ht (by omega) une (by omega) j0 j1) ?_
  rintro s ⟨as, rfl, oka, la⟩
  rw [(se_kin.sset (fun _ _ => trivial) (fun _ => rfl) (by omega)).1, (se_kin.sset (xs := as) (fun _ _ => trivial) (fun _ => rfl) (by omega)).1]
  simp (implicitDefEqProofs := false) only [pu_bd, bd_bd, bd_pu, ofO_some, ofO_none, ofO_ite, stuck_bd, thr_bd, lft_pu, lft_bd, lft_gdc, lft_ite, lft_stuck, tb_bl, intO_int, itemsM_tup, itemsM_lst, itemsM_str, gd_c, gdc_T, compG_map, compA_pu, compA_gd, compA_if, compA_gdif, forM_map, forR_map, un2_tup, un3_tup, un4_tup, sum_inl, sum_inr, isStr_str, isTup_tup, joinF_l, joinF_t, strsOf_nil, strsOf_cons, strsOf_map, Option.bind_some, Option.bind_none, addT_int, addT_str, addT_lst, addT_tup, subT_int, mulT2_int, mulT2_str, fdivT_int, modT_int, powT_int, negT_int, eqT_int, neT_int, eqT_str, neT_str, eqT_bl, neT_bl, ltT_int, gtT_int, leT_int, geT_int, ixT_lst, ixT_tup, atI_0, atI_1, atI_2, atI_3, lenF_lst, lenF_tup, lenF_str, absF_int, intF_int, intF_bl, max2F_int, min2F_int, strF_int, isi_str, isi_int, isi_tup, isi_lst, slT_lst, slT_tup, slT_str, tupleF_lst, tupleF_tup, listF_lst, listF_tup, inT_strs, ninT_strs, inT_strsT, ninT_strsT, ite_pu, decide_eq_true_eq, Bool.not_eq_true', if_true, if_false, Bool.false_eq_true, Bool.true_eq_false, Option.map_some, Option.map_none]
  have lf : folk.length = names.length := by rw [← en, List.length_map]
  rw [(se_fk.sorted (xs := folk) (fun _ _ => trivial) (by omega)).1]
  simp (implicitDefEqProofs := false) only [pu_bd, bd_bd, bd_pu, ofO_some, ofO_none, ofO_ite, stuck_bd, thr_bd, lft_pu, lft_bd, lft_gdc, lft_ite, lft_stuck, tb_bl, intO_int, itemsM_tup, itemsM_lst, itemsM_str, gd_c, gdc_T, compG_map, compA_pu, compA_gd, compA_if, compA_gdif, forM_map, forR_map, un2_tup, un3_tup, un4_tup, sum_inl, sum_inr, isStr_str, isTup_tup, joinF_l, joinF_t, strsOf_nil, strsOf_cons, strsOf_map, Option.bind_some, Option.bind_none, addT_int, addT_str, addT_lst, addT_tup, subT_int, mulT2_int, mulT2_str, fdivT_int, modT_int, powT_int, negT_int, eqT_int, neT_int, eqT_str, neT_str, eqT_bl, neT_bl, ltT_int, gtT_int, leT_int, geT_int, ixT_lst, ixT_tup, atI_0, atI_1, atI_2, atI_3, lenF_lst, lenF_tup, lenF_str, absF_int, intF_int, intF_bl, max2F_int, min2F_int, strF_int, isi_str, isi_int, isi_tup, isi_lst, slT_lst, slT_tup, slT_str, tupleF_lst, tupleF_tup, listF_lst, listF_tup, inT_strs, ninT_strs, inT_strsT, ninT_strsT, ite_pu, decide_eq_true_eq, Bool.not_eq_true', if_true, if_false, Bool.false_eq_true, Bool.true_eq_false, Option.map_some, Option.map_none]
  rw [show ∀ xs : List T, cutT xs none (some 24) = xs.take 24 from fun xs => cut_to _ 24, show ∀ xs : List T, cutT xs none (some 12) = xs.take 12 from fun xs => cut_to _ 12, ← List.map_take, ← List.map_take]
  have nn : ∀ x, x ∈ ((srt fkT folk).map (·.1)) ↔ x ∈ names := fun x => by
    rw [← en]
    exact ((srt_perm folk).map (·.1)).mem_iff
  refine HT.pu ⟨⟨srt fkT folk, us, (srtU kinT bs).take 24, (srtU kinT as).take 12⟩, rfl, ?_⟩
  refine ⟨fun x hx => ?_, ?_, ?_, ?_, fun f hf => famOk_sub (oku f hf) fun x hx => (nn x).mpr hx, ru, lu, fun b hb => ?_, ?_, ?_, fun b hb => ?_, ?_, ?_⟩
  · have hx := srt_mem.mp hx
    exact ⟨ok _ (en ▸ List.mem_map_of_mem hx), ms x hx⟩
  · exact (((srt_perm folk).map (·.1)).nodup_iff).mpr (en ▸ nd)
  · exact se_fk.rise (fun _ _ => trivial) (TL.nodup_of_map (f := (·.1)) (by rw [en]; exact nd))
  · show (srt fkT folk).length ≤ 16
    rw [srt_len]; omega
  · exact kinOk_sub (okb b (ke_kin.srtU_mem.mp (List.mem_of_mem_take hb))) fun x hx => (nn x).mpr hx
  · show Rise (((srtU kinT bs).take 24).map kinT)
    rw [List.map_take]; exact rise_take (se_kin.riseU fun _ _ => trivial) 24
  · show ((srtU kinT bs).take 24).length ≤ 24
    rw [List.length_take]; omega
  · exact kinOk_sub (oka b (ke_kin.srtU_mem.mp (List.mem_of_mem_take hb))) fun x hx => (nn x).mpr hx
  · show Rise (((srtU kinT as).take 12).map kinT)
    rw [List.map_take]; exact rise_take (se_kin.riseU fun _ _ => trivial) 12
  · show ((srtU kinT as).take 12).length ≤ 12
    rw [List.length_take]; omega
theorem names_in_eq {B : Bk} (h : BkOk B) : m_law_names_in (bkT B) = pu (.lst (B.names.map T.str)) := by
  have hs := sizeLine_eq
  have := h.lf
  unfold m_law_names_in bkT
  simp (implicitDefEqProofs := false) only [pu_bd, bd_bd, bd_pu, ofO_some, ofO_none, ofO_ite, stuck_bd, thr_bd, lft_pu, lft_bd, lft_gdc, lft_ite, lft_stuck, tb_bl, intO_int, itemsM_tup, itemsM_lst, itemsM_str, gd_c, gdc_T, compG_map, compA_pu, compA_gd, compA_if, compA_gdif, forM_map, forR_map, un2_tup, un3_tup, un4_tup, sum_inl, sum_inr, isStr_str, isTup_tup, joinF_l, joinF_t, strsOf_nil, strsOf_cons, strsOf_map, Option.bind_some, Option.bind_none, addT_int, addT_str, addT_lst, addT_tup, subT_int, mulT2_int, mulT2_str, fdivT_int, modT_int, powT_int, negT_int, eqT_int, neT_int, eqT_str, neT_str, eqT_bl, neT_bl, ltT_int, gtT_int, leT_int, geT_int, ixT_lst, ixT_tup, atI_0, atI_1, atI_2, atI_3, lenF_lst, lenF_tup, lenF_str, absF_int, intF_int, intF_bl, max2F_int, min2F_int, strF_int, isi_str, isi_int, isi_tup, isi_lst, slT_lst, slT_tup, slT_str, tupleF_lst, tupleF_tup, listF_lst, listF_tup, inT_strs, ninT_strs, inT_strsT, ninT_strsT, ite_pu, decide_eq_true_eq, Bool.not_eq_true', if_true, if_false, Bool.false_eq_true, Bool.true_eq_false, Option.map_some, Option.map_none, extM_l, appM_c, compA_ifo, fkT, kinT, famT, List.cons_append, List.nil_append]
  refine gdc_e (by omega) ?_
  unfold Bk.names
  rw [List.map_map]
  rfl
theorem part_kin {ns : List Nm} {us : List (List Nm)} {rate : Int} (r0 : 0 < rate) (r1 : rate < 1000000000) (b : Nm × List Nm) : HT 1 (TL.bd (ofO (ixT emp (kinT b) (.int 0))) fun a => TL.bd (ofO (inT emp a (.lst (ns.map T.str)))) fun a => TL.bd (tb a) fun a => TL.bd (if a = true then TL.bd (ofO (ixT emp (kinT b) (.int 1))) fun a => TL.bd (ofO (inT emp a (.lst (us.map famT)))) fun a => TL.bd (tb a) fun v => if v = true then TL.bd (m_law_draw (.int rate)) fun a => TL.bd (ofO (gtT emp a (.int 0))) tb else TL.pu false else TL.pu false) fun v => TL.pu (if v = true then some (kinT b) else none)) fun o => o = none ∨ (o = some (kinT b) ∧ b.1 ∈ ns ∧ b.2 ∈ us) := by
  unfold kinT
  simp (implicitDefEqProofs := false) only [pu_bd, bd_bd, bd_pu, ofO_some, ofO_none, ofO_ite, stuck_bd, thr_bd, lft_pu, lft_bd, lft_gdc, lft_ite, lft_stuck, tb_bl, intO_int, itemsM_tup, itemsM_lst, itemsM_str, gd_c, gdc_T, compG_map, compA_pu, compA_gd, compA_if, compA_gdif, forM_map, forR_map, un2_tup, un3_tup, un4_tup, sum_inl, sum_inr, isStr_str, isTup_tup, joinF_l, joinF_t, strsOf_nil, strsOf_cons, strsOf_map, Option.bind_some, Option.bind_none, addT_int, addT_str, addT_lst, addT_tup, subT_int, mulT2_int, mulT2_str, fdivT_int, modT_int, powT_int, negT_int, eqT_int, neT_int, eqT_str, neT_str, eqT_bl, neT_bl, ltT_int, gtT_int, leT_int, geT_int, ixT_lst, ixT_tup, atI_0, atI_1, atI_2, atI_3, lenF_lst, lenF_tup, lenF_str, absF_int, intF_int, intF_bl, max2F_int, min2F_int, strF_int, isi_str, isi_int, isi_tup, isi_lst, slT_lst, slT_tup, slT_str, tupleF_lst, tupleF_tup, listF_lst, listF_tup, inT_strs, ninT_strs, inT_strsT, ninT_strsT, ite_pu, decide_eq_true_eq, Bool.not_eq_true', if_true, if_false, Bool.false_eq_true, Bool.true_eq_false, Option.map_some, Option.map_none, (ke_fam.inT _ us).2]
  show HT (0 + 1) _ _
  refine HT.bd (d1 := 1) (P := fun v => v = true → b.1 ∈ ns ∧ b.2 ∈ us) (HT.ite (fun h1 => HT.ite (fun h2 => HT.drawB (d := 0) r0 r1 fun i i0 i1 => ?_) fun _ => HT.pu nofun) fun _ => HT.pu nofun) ?_
  · simp (implicitDefEqProofs := false) only [pu_bd, bd_bd, bd_pu, ofO_some, ofO_none, ofO_ite, stuck_bd, thr_bd, lft_pu, lft_bd, lft_gdc, lft_ite, lft_stuck, tb_bl, intO_int, itemsM_tup, itemsM_lst, itemsM_str, gd_c, gdc_T, compG_map, compA_pu, compA_gd, compA_if, compA_gdif, forM_map, forR_map, un2_tup, un3_tup, un4_tup, sum_inl, sum_inr, isStr_str, isTup_tup, joinF_l, joinF_t, strsOf_nil, strsOf_cons, strsOf_map, Option.bind_some, Option.bind_none, addT_int, addT_str, addT_lst, addT_tup, subT_int, mulT2_int, mulT2_str, fdivT_int, modT_int, powT_int, negT_int, eqT_int, neT_int, eqT_str, neT_str, eqT_bl, neT_bl, ltT_int, gtT_int, leT_int, geT_int, ixT_lst, ixT_tup, atI_0, atI_1, atI_2, atI_3, lenF_lst, lenF_tup, lenF_str, absF_int, intF_int, intF_bl, max2F_int, min2F_int, strF_int, isi_str, isi_int, isi_tup, isi_lst, slT_lst, slT_tup, slT_str, tupleF_lst, tupleF_tup, listF_lst, listF_tup, inT_strs, ninT_strs, inT_strsT, ninT_strsT, ite_pu, decide_eq_true_eq, Bool.not_eq_true', if_true, if_false, Bool.false_eq_true, Bool.true_eq_false, Option.map_some, Option.map_none]
    exact HT.pu fun _ => ⟨h1, h2⟩
  · intro v hv
    refine HT.pu ?_
    cases v
    · exact .inl rfl
    · exact .inr ⟨rfl, hv rfl⟩
theorem part_kins {ns : List Nm} {us : List (List Nm)} {rate : Int} (r0 : 0 < rate) (r1 : rate < 1000000000) {n : Nat} {xs : List (Nm × List Nm)} (hn : xs.length ≤ n) {f : Nm × List Nm → PM Cell (Option T)}
    (hf : ∀ b, f b = TL.bd (ofO (ixT emp (kinT b) (.int 0))) fun a => TL.bd (ofO (inT emp a (.lst (ns.map T.str)))) fun a => TL.bd (tb a) fun a => TL.bd (if a = true then TL.bd (ofO (ixT emp (kinT b) (.int 1))) fun a => TL.bd (ofO (inT emp a (.lst (us.map famT)))) fun a => TL.bd (tb a) fun v => if v = true then TL.bd (m_law_draw (.int rate)) fun a => TL.bd (ofO (gtT emp a (.int 0))) tb else TL.pu false else TL.pu false) fun v => TL.pu (if v = true then some (kinT b) else none)) :
    HT (n * 1) (compA f xs) fun ys => ∃ zs : List (Nm × List Nm), zs.Sublist xs ∧ (∀ b ∈ zs, b.1 ∈ ns ∧ b.2 ∈ us) ∧ ys = zs.map kinT := by
  refine (HT.compR (e := kinT) (R := fun b o => o = none ∨ (o = some b ∧ b.1 ∈ ns ∧ b.2 ∈ us)) 1 n hn fun b _ => ?_).mono ?_
  · rw [hf b]
    refine (part_kin r0 r1 b).mono fun o ho => ?_
    rcases ho with rfl | ⟨rfl, h⟩
    · exact ⟨none, rfl, .inl rfl⟩
    · exact ⟨some b, rfl, .inr ⟨rfl, h⟩⟩
  · rintro ys ⟨os, hp, rfl⟩
    refine ⟨os.filterMap id, ?_, ?_, rfl⟩
    · induction hp with
      | nil => exact List.Sublist.refl _
      | cons h t ih =>
        rcases h with rfl | ⟨rfl, _⟩
        · exact (ih (by simp at hn; omega)).cons _
        · exact (ih (by simp at hn; omega)).cons₂ _
    · induction hp with
      | nil => exact nofun
      | cons h t ih =>
        rcases h with rfl | ⟨rfl, h2⟩
        · exact ih (by simp at hn; omega)
        · intro b hb
          rcases List.mem_cons.mp hb with rfl | hb
          · exact h2
          · exact ih (by simp at hn; omega) b hb
theorem part_of_ht {B : Bk} (h : BkOk B) {rate : Int} (r0 : 0 < rate) (r1 : rate < 1000000000) : HT 1000 (m_law_part_of (bkT B) (.int rate)) fun v => ∃ P, v = bkT P ∧ BkOk P ∧ Part P B := by
  have hs := sizeLine_eq
  have lf := h.lf
  have lu := h.lu
  have lb := h.lb
  have la := h.la
  have ln : B.names.length ≤ 16 := by unfold Bk.names; rw [List.length_map]; exact lf
  unfold m_law_part_of
  simp (implicitDefEqProofs := false) only [pu_bd, bd_bd, bd_pu, ofO_some, ofO_none, ofO_ite, stuck_bd, thr_bd, lft_pu, lft_bd, lft_gdc, lft_ite, lft_stuck, tb_bl, intO_int, itemsM_tup, itemsM_lst, itemsM_str, gd_c, gdc_T, compG_map, compA_pu, compA_gd, compA_if, compA_gdif, forM_map, forR_map, un2_tup, un3_tup, un4_tup, sum_inl, sum_inr, isStr_str, isTup_tup, joinF_l, joinF_t, strsOf_nil, strsOf_cons, strsOf_map, Option.bind_some, Option.bind_none, addT_int, addT_str, addT_lst, addT_tup, subT_int, mulT2_int, mulT2_str, fdivT_int, modT_int, powT_int, negT_int, eqT_int, neT_int, eqT_str, neT_str, eqT_bl, neT_bl, ltT_int, gtT_int, leT_int, geT_int, ixT_lst, ixT_tup, atI_0, atI_1, atI_2, atI_3, lenF_lst, lenF_tup, lenF_str, absF_int, intF_int, intF_bl, max2F_int, min2F_int, strF_int, isi_str, isi_int, isi_tup, isi_lst, slT_lst, slT_tup, slT_str, tupleF_lst, tupleF_tup, listF_lst, listF_tup, inT_strs, ninT_strs, inT_strsT, ninT_strsT, ite_pu, decide_eq_true_eq, Bool.not_eq_true', if_true, if_false, Bool.false_eq_true, Bool.true_eq_false, Option.map_some, Option.map_none, names_in_eq h]
  refine HT.gdc (by omega) ?_
  refine HT.bd (d1 := 100) (HT.le (HT.compS (e := T.str) 1 16 ln fun x hx => ?_) (by omega)) ?_
  · refine HT.drawB (d := 0) r0 r1 fun i i0 i1 => ?_
    simp (implicitDefEqProofs := false) only [pu_bd, bd_bd, bd_pu, ofO_some, ofO_none, ofO_ite, stuck_bd, thr_bd, lft_pu, lft_bd, lft_gdc, lft_ite, lft_stuck, tb_bl, intO_int, itemsM_tup, itemsM_lst, itemsM_str, gd_c, gdc_T, compG_map, compA_pu, compA_gd, compA_if, compA_gdif, forM_map, forR_map, un2_tup, un3_tup, un4_tup, sum_inl, sum_inr, isStr_str, isTup_tup, joinF_l, joinF_t, strsOf_nil, strsOf_cons, strsOf_map, Option.bind_some, Option.bind_none, addT_int, addT_str, addT_lst, addT_tup, subT_int, mulT2_int, mulT2_str, fdivT_int, modT_int, powT_int, negT_int, eqT_int, neT_int, eqT_str, neT_str, eqT_bl, neT_bl, ltT_int, gtT_int, leT_int, geT_int, ixT_lst, ixT_tup, atI_0, atI_1, atI_2, atI_3, lenF_lst, lenF_tup, lenF_str, absF_int, intF_int, intF_bl, max2F_int, min2F_int, strF_int, isi_str, isi_int, isi_tup, isi_lst, slT_lst, slT_tup, slT_str, tupleF_lst, tupleF_tup, listF_lst, listF_tup, inT_strs, ninT_strs, inT_strsT, ninT_strsT, ite_pu, decide_eq_true_eq, Bool.not_eq_true', if_true, if_false, Bool.false_eq_true, Bool.true_eq_false, Option.map_some, Option.map_none]
    exact HT.pu (by split <;> simp)
  rintro v ⟨ns, hns, rfl⟩
  unfold bkT
  simp (implicitDefEqProofs := false) only [pu_bd, bd_bd, bd_pu, ofO_some, ofO_none, ofO_ite, stuck_bd, thr_bd, lft_pu, lft_bd, lft_gdc, lft_ite, lft_stuck, tb_bl, intO_int, itemsM_tup, itemsM_lst, itemsM_str, gd_c, gdc_T, compG_map, compA_pu, compA_gd, compA_if, compA_gdif, forM_map, forR_map, un2_tup, un3_tup, un4_tup, sum_inl, sum_inr, isStr_str, isTup_tup, joinF_l, joinF_t, strsOf_nil, strsOf_cons, strsOf_map, Option.bind_some, Option.bind_none, addT_int, addT_str, addT_lst, addT_tup, subT_int, mulT2_int, mulT2_str, fdivT_int, modT_int, powT_int, negT_int, eqT_int, neT_int, eqT_str, neT_str, eqT_bl, neT_bl, ltT_int, gtT_int, leT_int, geT_int, ixT_lst, ixT_tup, atI_0, atI_1, atI_2, atI_3, lenF_lst, lenF_tup, lenF_str, absF_int, intF_int, intF_bl, max2F_int, min2F_int, strF_int, isi_str, isi_int, isi_tup, isi_lst, slT_lst, slT_tup, slT_str, tupleF_lst, tupleF_tup, listF_lst, listF_tup, inT_strs, ninT_strs, inT_strsT, ninT_strsT, ite_pu, decide_eq_true_eq, Bool.not_eq_true', if_true, if_false, Bool.false_eq_true, Bool.true_eq_false, Option.map_some, Option.map_none, extM_l, appM_c, compA_ifo, fkT, kinT, famT, List.cons_append, List.nil_append]
  refine HT.gdc (by omega) ?_
  refine HT.bd (d1 := 100) (HT.le (HT.compR (e := fkT) (R := fun p o => if p.1 ∈ ns then o = some p ∨ o = some (p.1, q "o") else o = none) 1 16 lf fun p hp => ?_) (by omega)) ?_
  · refine HT.ite (fun hm => ?_) fun hm => HT.pu ⟨none, rfl, by rw [if_neg hm]⟩
    refine HT.drawB (d := 0) (by omega) (by omega) fun i i0 i1 => ?_
    simp (implicitDefEqProofs := false) only [pu_bd, bd_bd, bd_pu, ofO_some, ofO_none, ofO_ite, stuck_bd, thr_bd, lft_pu, lft_bd, lft_gdc, lft_ite, lft_stuck, tb_bl, intO_int, itemsM_tup, itemsM_lst, itemsM_str, gd_c, gdc_T, compG_map, compA_pu, compA_gd, compA_if, compA_gdif, forM_map, forR_map, un2_tup, un3_tup, un4_tup, sum_inl, sum_inr, isStr_str, isTup_tup, joinF_l, joinF_t, strsOf_nil, strsOf_cons, strsOf_map, Option.bind_some, Option.bind_none, addT_int, addT_str, addT_lst, addT_tup, subT_int, mulT2_int, mulT2_str, fdivT_int, modT_int, powT_int, negT_int, eqT_int, neT_int, eqT_str, neT_str, eqT_bl, neT_bl, ltT_int, gtT_int, leT_int, geT_int, ixT_lst, ixT_tup, atI_0, atI_1, atI_2, atI_3, lenF_lst, lenF_tup, lenF_str, absF_int, intF_int, intF_bl, max2F_int, min2F_int, strF_int, isi_str, isi_int, isi_tup, isi_lst, slT_lst, slT_tup, slT_str, tupleF_lst, tupleF_tup, listF_lst, listF_tup, inT_strs, ninT_strs, inT_strsT, ninT_strsT, ite_pu, decide_eq_true_eq, Bool.not_eq_true', if_true, if_false, Bool.false_eq_true, Bool.true_eq_false, Option.map_some, Option.map_none]
    by_cases hi : i = 0
    · rw [if_pos hi]
      simp (implicitDefEqProofs := false) only [pu_bd, bd_bd, bd_pu, ofO_some, ofO_none, ofO_ite, stuck_bd, thr_bd, lft_pu, lft_bd, lft_gdc, lft_ite, lft_stuck, tb_bl, intO_int, itemsM_tup, itemsM_lst, itemsM_str, gd_c, gdc_T, compG_map, compA_pu, compA_gd, compA_if, compA_gdif, forM_map, forR_map, un2_tup, un3_tup, un4_tup, sum_inl, sum_inr, isStr_str, isTup_tup, joinF_l, joinF_t, strsOf_nil, strsOf_cons, strsOf_map, Option.bind_some, Option.bind_none, addT_int, addT_str, addT_lst, addT_tup, subT_int, mulT2_int, mulT2_str, fdivT_int, modT_int, powT_int, negT_int, eqT_int, neT_int, eqT_str, neT_str, eqT_bl, neT_bl, ltT_int, gtT_int, leT_int, geT_int, ixT_lst, ixT_tup, atI_0, atI_1, atI_2, atI_3, lenF_lst, lenF_tup, lenF_str, absF_int, intF_int, intF_bl, max2F_int, min2F_int, strF_int, isi_str, isi_int, isi_tup, isi_lst, slT_lst, slT_tup, slT_str, tupleF_lst, tupleF_tup, listF_lst, listF_tup, inT_strs, ninT_strs, inT_strsT, ninT_strsT, ite_pu, decide_eq_true_eq, Bool.not_eq_true', if_true, if_false, Bool.false_eq_true, Bool.true_eq_false, Option.map_some, Option.map_none]
      exact HT.pu ⟨some (p.1, q "o"), rfl, by rw [if_pos hm]; exact .inr rfl⟩
    · rw [if_neg hi]
      simp (implicitDefEqProofs := false) only [pu_bd, bd_bd, bd_pu, ofO_some, ofO_none, ofO_ite, stuck_bd, thr_bd, lft_pu, lft_bd, lft_gdc, lft_ite, lft_stuck, tb_bl, intO_int, itemsM_tup, itemsM_lst, itemsM_str, gd_c, gdc_T, compG_map, compA_pu, compA_gd, compA_if, compA_gdif, forM_map, forR_map, un2_tup, un3_tup, un4_tup, sum_inl, sum_inr, isStr_str, isTup_tup, joinF_l, joinF_t, strsOf_nil, strsOf_cons, strsOf_map, Option.bind_some, Option.bind_none, addT_int, addT_str, addT_lst, addT_tup, subT_int, mulT2_int, mulT2_str, fdivT_int, modT_int, powT_int, negT_int, eqT_int, neT_int, eqT_str, neT_str, eqT_bl, neT_bl, ltT_int, gtT_int, leT_int, geT_int, ixT_lst, ixT_tup, atI_0, atI_1, atI_2, atI_3, lenF_lst, lenF_tup, lenF_str, absF_int, intF_int, intF_bl, max2F_int, min2F_int, strF_int, isi_str, isi_int, isi_tup, isi_lst, slT_lst, slT_tup, slT_str, tupleF_lst, tupleF_tup, listF_lst, listF_tup, inT_strs, ninT_strs, inT_strsT, ninT_strsT, ite_pu, decide_eq_true_eq, Bool.not_eq_true', if_true, if_false, Bool.false_eq_true, Bool.true_eq_false, Option.map_some, Option.map_none]
      exact HT.pu ⟨some p, rfl, by rw [if_pos hm]; exact .inl rfl⟩
  rintro v ⟨os, hos, rfl⟩
  obtain ⟨f1, f2⟩ := fk_part hos
  refine HT.gdc (by omega) (HT.gdc (fun f hf => by have := (h.un f hf).hi; omega) ?_)
  simp (implicitDefEqProofs := false) only [eqT_nilL ke_str, pu_bd, bd_bd, bd_pu, ofO_some, ofO_none, ofO_ite, stuck_bd, thr_bd, lft_pu, lft_bd, lft_gdc, lft_ite, lft_stuck, tb_bl, intO_int, itemsM_tup, itemsM_lst, itemsM_str, gd_c, gdc_T, compG_map, compA_pu, compA_gd, compA_if, compA_gdif, forM_map, forR_map, un2_tup, un3_tup, un4_tup, sum_inl, sum_inr, isStr_str, isTup_tup, joinF_l, joinF_t, strsOf_nil, strsOf_cons, strsOf_map, Option.bind_some, Option.bind_none, addT_int, addT_str, addT_lst, addT_tup, subT_int, mulT2_int, mulT2_str, fdivT_int, modT_int, powT_int, negT_int, eqT_int, neT_int, eqT_str, neT_str, eqT_bl, neT_bl, ltT_int, gtT_int, leT_int, geT_int, ixT_lst, ixT_tup, atI_0, atI_1, atI_2, atI_3, lenF_lst, lenF_tup, lenF_str, absF_int, intF_int, intF_bl, max2F_int, min2F_int, strF_int, isi_str, isi_int, isi_tup, isi_lst, slT_lst, slT_tup, slT_str, tupleF_lst, tupleF_tup, listF_lst, listF_tup, inT_strs, ninT_strs, inT_strsT, ninT_strsT, ite_pu, decide_eq_true_eq, Bool.not_eq_true', if_true, if_false, Bool.false_eq_true, Bool.true_eq_false, Option.map_some, Option.map_none, extM_l, appM_c, compA_ifo, fkT, kinT, famT, List.cons_append, List.nil_append]
  have hmem : ∀ f ∈ B.unions.filter (fun f => decide ((f.filter fun a => decide (decide (a ∈ ns) = false)).isEmpty = true)), f ∈ B.unions ∧ ∀ x ∈ f, x ∈ ns := by
    intro f hf
    obtain ⟨h1, h2⟩ := List.mem_filter.mp hf
    refine ⟨h1, fun x hx => ?_⟩
    have h3 := List.isEmpty_iff.mp (of_decide_eq_true h2)
    have h4 := List.filter_eq_nil_iff.mp h3 x hx
    simpa using h4
  have hsub : (B.unions.filter (fun f => decide ((f.filter fun a => decide (decide (a ∈ ns) = false)).isEmpty = true))).Sublist B.unions := List.filter_sublist
  revert hmem hsub
  generalize (B.unions.filter (fun f => decide ((f.filter fun a => decide (decide (a ∈ ns) = false)).isEmpty = true))) = us1
  intro hmem hsub
  have l1 := hsub.length_le
  refine HT.gdc (by omega) ?_
  refine HT.bd (d1 := 100) (HT.le (HT.compS (e := famT) 1 16 (by omega) fun x hx => ?_) (by omega)) ?_
  · refine HT.drawB (d := 0) r0 r1 fun i i0 i1 => ?_
    simp (implicitDefEqProofs := false) only [pu_bd, bd_bd, bd_pu, ofO_some, ofO_none, ofO_ite, stuck_bd, thr_bd, lft_pu, lft_bd, lft_gdc, lft_ite, lft_stuck, tb_bl, intO_int, itemsM_tup, itemsM_lst, itemsM_str, gd_c, gdc_T, compG_map, compA_pu, compA_gd, compA_if, compA_gdif, forM_map, forR_map, un2_tup, un3_tup, un4_tup, sum_inl, sum_inr, isStr_str, isTup_tup, joinF_l, joinF_t, strsOf_nil, strsOf_cons, strsOf_map, Option.bind_some, Option.bind_none, addT_int, addT_str, addT_lst, addT_tup, subT_int, mulT2_int, mulT2_str, fdivT_int, modT_int, powT_int, negT_int, eqT_int, neT_int, eqT_str, neT_str, eqT_bl, neT_bl, ltT_int, gtT_int, leT_int, geT_int, ixT_lst, ixT_tup, atI_0, atI_1, atI_2, atI_3, lenF_lst, lenF_tup, lenF_str, absF_int, intF_int, intF_bl, max2F_int, min2F_int, strF_int, isi_str, isi_int, isi_tup, isi_lst, slT_lst, slT_tup, slT_str, tupleF_lst, tupleF_tup, listF_lst, listF_tup, inT_strs, ninT_strs, inT_strsT, ninT_strsT, ite_pu, decide_eq_true_eq, Bool.not_eq_true', if_true, if_false, Bool.false_eq_true, Bool.true_eq_false, Option.map_some, Option.map_none]
    exact HT.pu (by unfold famT; split <;> simp)
  rintro v ⟨us, hus, rfl⟩
  rw [show ∀ a b c d : T, cutT [a, b, c, d] (some 2) none = [c, d] from fun _ _ _ _ => rfl, forM_two]
  simp (implicitDefEqProofs := false) only [pu_bd, bd_bd, bd_pu, ofO_some, ofO_none, ofO_ite, stuck_bd, thr_bd, lft_pu, lft_bd, lft_gdc, lft_ite, lft_stuck, tb_bl, intO_int, itemsM_tup, itemsM_lst, itemsM_str, gd_c, gdc_T, compG_map, compA_pu, compA_gd, compA_if, compA_gdif, forM_map, forR_map, un2_tup, un3_tup, un4_tup, sum_inl, sum_inr, isStr_str, isTup_tup, joinF_l, joinF_t, strsOf_nil, strsOf_cons, strsOf_map, Option.bind_some, Option.bind_none, addT_int, addT_str, addT_lst, addT_tup, subT_int, mulT2_int, mulT2_str, fdivT_int, modT_int, powT_int, negT_int, eqT_int, neT_int, eqT_str, neT_str, eqT_bl, neT_bl, ltT_int, gtT_int, leT_int, geT_int, ixT_lst, ixT_tup, atI_0, atI_1, atI_2, atI_3, lenF_lst, lenF_tup, lenF_str, absF_int, intF_int, intF_bl, max2F_int, min2F_int, strF_int, isi_str, isi_int, isi_tup, isi_lst, slT_lst, slT_tup, slT_str, tupleF_lst, tupleF_tup, listF_lst, listF_tup, inT_strs, ninT_strs, inT_strsT, ninT_strsT, ite_pu, decide_eq_true_eq, Bool.not_eq_true', if_true, if_false, Bool.false_eq_true, Bool.true_eq_false, Option.map_some, Option.map_none, extM_l, appM_c, compA_ifo, fkT, kinT, famT, List.cons_append, List.nil_append]
  refine HT.gdc (by omega) ?_
  refine HT.bd (d1 := 100) (HT.le (part_kins (ns := ns) (us := us) r0 r1 (n := 24) lb fun b => by unfold kinT; simp (implicitDefEqProofs := false) only [pu_bd, bd_bd, bd_pu, ofO_some, ofO_none, ofO_ite, stuck_bd, thr_bd, lft_pu, lft_bd, lft_gdc, lft_ite, lft_stuck, tb_bl, intO_int, itemsM_tup, itemsM_lst, itemsM_str, gd_c, gdc_T, compG_map, compA_pu, compA_gd, compA_if, compA_gdif, forM_map, forR_map, un2_tup, un3_tup, un4_tup, sum_inl, sum_inr, isStr_str, isTup_tup, joinF_l, joinF_t, strsOf_nil, strsOf_cons, strsOf_map, Option.bind_some, Option.bind_none, addT_int, addT_str, addT_lst, addT_tup, subT_int, mulT2_int, mulT2_str, fdivT_int, modT_int, powT_int, negT_int, eqT_int, neT_int, eqT_str, neT_str, eqT_bl, neT_bl, ltT_int, gtT_int, leT_int, geT_int, ixT_lst, ixT_tup, atI_0, atI_1, atI_2, atI_3, lenF_lst, lenF_tup, lenF_str, absF_int, intF_int, intF_bl, max2F_int, min2F_int, strF_int, isi_str, isi_int, isi_tup, isi_lst, slT_lst, slT_tup, slT_str, tupleF_lst, tupleF_tup, listF_lst, listF_tup, inT_strs, ninT_strs, inT_strsT, ninT_strsT, ite_pu, decide_eq_true_eq, Bool.not_eq_true', if_true, if_false, Bool.false_eq_true, Bool.true_eq_false, Option.map_some, Option.map_none]; rfl) (by omega)) ?_
  rintro v ⟨bs, hbs, mbs, rfl⟩
  refine HT.gdc (by simp [hs]) (HT.gdc (by omega) ?_)
  refine HT.bd (d1 := 100) (HT.le (part_kins (ns := ns) (us := us) r0 r1 (n := 12) la fun b => by unfold kinT; simp (implicitDefEqProofs := false) only [pu_bd, bd_bd, bd_pu, ofO_some, ofO_none, ofO_ite, stuck_bd, thr_bd, lft_pu, lft_bd, lft_gdc, lft_ite, lft_stuck, tb_bl, intO_int, itemsM_tup, itemsM_lst, itemsM_str, gd_c, gdc_T, compG_map, compA_pu, compA_gd, compA_if, compA_gdif, forM_map, forR_map, un2_tup, un3_tup, un4_tup, sum_inl, sum_inr, isStr_str, isTup_tup, joinF_l, joinF_t, strsOf_nil, strsOf_cons, strsOf_map, Option.bind_some, Option.bind_none, addT_int, addT_str, addT_lst, addT_tup, subT_int, mulT2_int, mulT2_str, fdivT_int, modT_int, powT_int, negT_int, eqT_int, neT_int, eqT_str, neT_str, eqT_bl, neT_bl, ltT_int, gtT_int, leT_int, geT_int, ixT_lst, ixT_tup, atI_0, atI_1, atI_2, atI_3, lenF_lst, lenF_tup, lenF_str, absF_int, intF_int, intF_bl, max2F_int, min2F_int, strF_int, isi_str, isi_int, isi_tup, isi_lst, slT_lst, slT_tup, slT_str, tupleF_lst, tupleF_tup, listF_lst, listF_tup, inT_strs, ninT_strs, inT_strsT, ninT_strsT, ite_pu, decide_eq_true_eq, Bool.not_eq_true', if_true, if_false, Bool.false_eq_true, Bool.true_eq_false, Option.map_some, Option.map_none]; rfl) (by omega)) ?_
  rintro v ⟨as, has, mas, rfl⟩
  refine HT.gdc (by simp [hs]) (HT.pu ⟨⟨os.filterMap id, us, bs, as⟩, rfl, ?_, ?_⟩)
  · have fsub : ((os.filterMap id).map (·.1)).Sublist B.names := by rw [f1]; exact List.filter_sublist
    have nd' := fsub.nodup h.nd
    have mem' : ∀ {x}, x ∈ B.names → x ∈ ns → x ∈ (os.filterMap id).map (·.1) := fun hx hn => by rw [f1]; exact List.mem_filter.mpr ⟨hx, by simpa using hn⟩
    have kin : ∀ b, KinOk B.names B.unions b → b.1 ∈ ns ∧ b.2 ∈ us → KinOk ((os.filterMap id).map (·.1)) us b := fun b k m => ⟨mem' k.kid m.1, m.2, k.own⟩
    refine ⟨fun x hx => ?_, nd', ?_, ?_, fun f hf => ?_, h.ru.sub (hus.trans hsub), Nat.le_trans (hus.trans hsub).length_le lu, fun b hb => kin b (h.bi b (hbs.subset hb)) (mbs b hb), h.rb.sub hbs, Nat.le_trans hbs.length_le lb, fun b hb => kin b (h.ad b (has.subset hb)) (mas b hb), h.ra.sub has, Nat.le_trans has.length_le la⟩
    · obtain ⟨m, hm, e⟩ := f2 x hx
      refine ⟨(h.name _ hm).1, ?_⟩
      rcases e with e | e
      · rw [e]; exact (h.name _ hm).2
      · rw [e]; decide +kernel
    · refine fk_rise' ?_ nd'
      exact (fk_rise h.rf h.nd).sub fsub
    · have := fsub.length_le
      rw [List.length_map] at this
      exact Nat.le_trans this ln
    · obtain ⟨h1, h2⟩ := hmem f (hus.subset hf)
      have k := h.un f h1
      exact ⟨k.lo, k.hi, k.rise, k.nd, fun x hx => mem' (k.mem x hx) (h2 x hx)⟩
  · exact ⟨by show ((os.filterMap id).map (·.1)).Sublist B.names; rw [f1]; exact List.filter_sublist, f2, hus.trans hsub, hbs, has⟩
theorem renamed_eq {B : Bk} (h : BkOk B) {F : Nm → Nm} : m_law_book_renamed (bkT B) (.dct false (B.names.map T.str) (B.names.map fun n => T.str (F n))) = pu (bkT (B.ren F)) := by
  have hs := sizeLine_eq
  have lf := h.lf
  have lu := h.lu
  have lb := h.lb
  have la := h.la
  have memf : ∀ p ∈ B.folk, p.1 ∈ B.names := fun p hp => List.mem_map_of_mem hp
  have dg : ∀ {n}, n ∈ B.names → dgT emp (.dct false (B.names.map T.str) (B.names.map fun n => T.str (F n))) (.str n) = some (.str (F n)) := fun hn => dgT_strs (F := fun n => T.str (F n)) hn
  generalize hD : T.dct false (B.names.map T.str) (B.names.map fun n => T.str (F n)) = D at dg ⊢
  have fam1 : ∀ f, FamOk B.names f → compA (κ := Unit) (fun a => bd (ofO (dgT emp D (.str a))) fun v => pu (some v)) f = pu ((f.map F).map T.str) := fun f k => by
    rw [compA_congr (g := fun n => pu (some (T.str (F n)))) (fun n hn => by rw [dg (k.mem n hn)]; rfl), compA_pu, List.map_map]
    rfl
  have kin1 : ∀ xs : List (Nm × List Nm), (∀ b ∈ xs, KinOk B.names B.unions b) → compA (κ := Unit) (fun b => bd (ofO (dgT emp D (.str b.1))) fun v => bd (gdc (b.2.length ≤ sizeLine)) fun _ => bd (compA (fun a => bd (ofO (dgT emp D (.str a))) fun v => pu (some v)) b.2) fun ys => bd (ofO (sortedF emp [.lst ys])) fun y => bd (ofO (tupleF emp [y])) fun z => pu (some (.tup [v, z]))) xs = pu ((xs.map fun b => (F b.1, renF F b.2)).map kinT) := by
    intro xs hx
    rw [compA_congr (g := fun b => pu (some (kinT (F b.1, renF F b.2)))) (fun b hb => by
      have k := h.un _ (hx b hb).fam
      have := k.hi
      rw [dg (hx b hb).kid, ofO_some, pu_bd, gdc_t (by omega), pu_bd, fam1 _ k, pu_bd, (se_str.sorted (fun _ _ => trivial) (by rw [List.length_map]; omega)).1]
      rfl), compA_pu, List.map_map]
    rfl
  unfold m_law_book_renamed
  unfold bkT
  simp (implicitDefEqProofs := false) only [pu_bd, bd_bd, bd_pu, ofO_some, ofO_none, ofO_ite, stuck_bd, thr_bd, lft_pu, lft_bd, lft_gdc, lft_ite, lft_stuck, tb_bl, intO_int, itemsM_tup, itemsM_lst, itemsM_str, gd_c, gdc_T, compG_map, compA_pu, compA_gd, compA_if, compA_gdif, forM_map, forR_map, un2_tup, un3_tup, un4_tup, sum_inl, sum_inr, isStr_str, isTup_tup, joinF_l, joinF_t, strsOf_nil, strsOf_cons, strsOf_map, Option.bind_some, Option.bind_none, addT_int, addT_str, addT_lst, addT_tup, subT_int, mulT2_int, mulT2_str, fdivT_int, modT_int, powT_int, negT_int, eqT_int, neT_int, eqT_str, neT_str, eqT_bl, neT_bl, ltT_int, gtT_int, leT_int, geT_int, ixT_lst, ixT_tup, atI_0, atI_1, atI_2, atI_3, lenF_lst, lenF_tup, lenF_str, absF_int, intF_int, intF_bl, max2F_int, min2F_int, strF_int, isi_str, isi_int, isi_tup, isi_lst, slT_lst, slT_tup, slT_str, tupleF_lst, tupleF_tup, listF_lst, listF_tup, inT_strs, ninT_strs, inT_strsT, ninT_strsT, ite_pu, decide_eq_true_eq, Bool.not_eq_true', if_true, if_false, Bool.false_eq_true, Bool.true_eq_false, Option.map_some, Option.map_none, extM_l, appM_c, compA_ifo, fkT, kinT, famT, List.cons_append, List.nil_append]
  refine gdc_e (by omega) ?_
  rw [compA_congr (g := fun p => pu (some (fkT (F p.1, p.2)))) (fun p hp => by rw [dg (memf p hp)]; rfl), compA_pu, pu_bd]
  rw [show B.folk.map (fun p => fkT (F p.1, p.2)) = (B.folk.map fun p => (F p.1, p.2)).map fkT by rw [List.map_map]; rfl]
  rw [(se_fk.sorted (fun _ _ => trivial) (by rw [List.length_map]; omega)).1, ofO_some, pu_bd]
  refine gdc_e (by omega) (gdc_e (fun f hf => by have := (h.un f hf).hi; omega) ?_)
  rw [compA_congr (g := fun f => pu (some (famT (renF F f)))) (fun f hf => by
    have k := h.un f hf
    have := k.hi
    rw [fam1 f k, pu_bd, (se_str.sorted (fun _ _ => trivial) (by rw [List.length_map]; omega)).1]
    rfl), compA_pu, pu_bd]
  rw [show B.unions.map (fun f => famT (renF F f)) = (B.unions.map (renF F)).map famT by rw [List.map_map]; rfl]
  rw [(se_fam.sorted (fun f hf => by
    obtain ⟨g, hg, rfl⟩ := List.mem_map.mp hf
    have l1 := (h.un g hg).lo
    intro z
    have l : (renF F g).length = 0 := by rw [z]; rfl
    rw [renF_len] at l
    omega) (by rw [List.length_map]; omega)).1, ofO_some, pu_bd]
  rw [show ∀ a b c d : T, cutT [a, b, c, d] (some 2) none = [c, d] from fun _ _ _ _ => rfl, forM_two]
  simp (implicitDefEqProofs := false) only [pu_bd, bd_bd, bd_pu, ofO_some, ofO_none, ofO_ite, stuck_bd, thr_bd, lft_pu, lft_bd, lft_gdc, lft_ite, lft_stuck, tb_bl, intO_int, itemsM_tup, itemsM_lst, itemsM_str, gd_c, gdc_T, compG_map, compA_pu, compA_gd, compA_if, compA_gdif, forM_map, forR_map, un2_tup, un3_tup, un4_tup, sum_inl, sum_inr, isStr_str, isTup_tup, joinF_l, joinF_t, strsOf_nil, strsOf_cons, strsOf_map, Option.bind_some, Option.bind_none, addT_int, addT_str, addT_lst, addT_tup, subT_int, mulT2_int, mulT2_str, fdivT_int, modT_int, powT_int, negT_int, eqT_int, neT_int, eqT_str, neT_str, eqT_bl, neT_bl, ltT_int, gtT_int, leT_int, geT_int, ixT_lst, ixT_tup, atI_0, atI_1, atI_2, atI_3, lenF_lst, lenF_tup, lenF_str, absF_int, intF_int, intF_bl, max2F_int, min2F_int, strF_int, isi_str, isi_int, isi_tup, isi_lst, slT_lst, slT_tup, slT_str, tupleF_lst, tupleF_tup, listF_lst, listF_tup, inT_strs, ninT_strs, inT_strsT, ninT_strsT, ite_pu, decide_eq_true_eq, Bool.not_eq_true', if_true, if_false, Bool.false_eq_true, Bool.true_eq_false, Option.map_some, Option.map_none, extM_l, appM_c, compA_ifo, fkT, kinT, famT, List.cons_append, List.nil_append]
  refine gdc_e (by simp [hs]) ?_
  refine gdc_e (by omega) ?_
  rw [kin1 _ h.bi, pu_bd, (se_kin.sorted (fun _ _ => trivial) (by rw [List.length_map]; omega)).1, ofO_some, pu_bd]
  refine gdc_e (by simp [hs]) (gdc_e (by omega) ?_)
  rw [kin1 _ h.ad, pu_bd, (se_kin.sorted (fun _ _ => trivial) (by rw [List.length_map]; omega)).1, ofO_some, pu_bd]
  refine gdc_e (by simp [hs]) ?_
  rw [compG_4 rfl rfl rfl rfl]
  rfl
theorem pick3 {a b c : Int} {j : Int} (h0 : 0 ≤ j) (h1 : j < 3) (lo hi : Int) (ha : lo ≤ a ∧ a ≤ hi) (hb : lo ≤ b ∧ b ≤ hi) (hc : lo ≤ c ∧ c ≤ hi) : ∃ k : Int, ixT emp (.lst [.int a, .int b, .int c]) (.int j) = some (.int k) ∧ lo ≤ k ∧ k ≤ hi := by
  rcases (by omega : j = 0 ∨ j = 1 ∨ j = 2) with rfl | rfl | rfl
  · exact ⟨a, rfl, ha⟩
  · exact ⟨b, rfl, hb⟩
  · exact ⟨c, rfl, hc⟩
theorem two_books_ht : HT 100000000 m_law_two_books fun v => ∃ A B ps, v = .tup [bkT A, bkT B, .tup (ps.map fkT)] ∧ BkOk A ∧ BkOk B ∧ PairsOk A B ps := by
  have hs := sizeLine_eq
  unfold m_law_two_books
  simp (implicitDefEqProofs := false) only [pu_bd, bd_bd, bd_pu, ofO_some, ofO_none, ofO_ite, stuck_bd, thr_bd, lft_pu, lft_bd, lft_gdc, lft_ite, lft_stuck, tb_bl, intO_int, itemsM_tup, itemsM_lst, itemsM_str, gd_c, gdc_T, compG_map, compA_pu, compA_gd, compA_if, compA_gdif, forM_map, forR_map, un2_tup, un3_tup, un4_tup, sum_inl, sum_inr, isStr_str, isTup_tup, joinF_l, joinF_t, strsOf_nil, strsOf_cons, strsOf_map, Option.bind_some, Option.bind_none, addT_int, addT_str, addT_lst, addT_tup, subT_int, mulT2_int, mulT2_str, fdivT_int, modT_int, powT_int, negT_int, eqT_int, neT_int, eqT_str, neT_str, eqT_bl, neT_bl, ltT_int, gtT_int, leT_int, geT_int, ixT_lst, ixT_tup, atI_0, atI_1, atI_2, atI_3, lenF_lst, lenF_tup, lenF_str, absF_int, intF_int, intF_bl, max2F_int, min2F_int, strF_int, isi_str, isi_int, isi_tup, isi_lst, slT_lst, slT_tup, slT_str, tupleF_lst, tupleF_tup, listF_lst, listF_tup, inT_strs, ninT_strs, inT_strsT, ninT_strsT, ite_pu, decide_eq_true_eq, Bool.not_eq_true', if_true, if_false, Bool.false_eq_true, Bool.true_eq_false, Option.map_some, Option.map_none]
  refine HT.bd (d1 := 10000000) (any_book_ht (most := 16) (by omega)) ?_
  rintro v ⟨W, rfl, hW⟩
  refine HT.drawB (by omega) (by omega) fun i i0 i1 => ?_
  obtain ⟨k1, e1, a1, b1⟩ := pick3 (a := 2) (b := 4) (c := 9) i0 i1 1 9 (by omega) (by omega) (by omega)
  simp (implicitDefEqProofs := false) only [pu_bd, bd_bd, bd_pu, ofO_some, ofO_none, ofO_ite, stuck_bd, thr_bd, lft_pu, lft_bd, lft_gdc, lft_ite, lft_stuck, tb_bl, intO_int, itemsM_tup, itemsM_lst, itemsM_str, gd_c, gdc_T, compG_map, compA_pu, compA_gd, compA_if, compA_gdif, forM_map, forR_map, un2_tup, un3_tup, un4_tup, sum_inl, sum_inr, isStr_str, isTup_tup, joinF_l, joinF_t, strsOf_nil, strsOf_cons, strsOf_map, Option.bind_some, Option.bind_none, addT_int, addT_str, addT_lst, addT_tup, subT_int, mulT2_int, mulT2_str, fdivT_int, modT_int, powT_int, negT_int, eqT_int, neT_int, eqT_str, neT_str, eqT_bl, neT_bl, ltT_int, gtT_int, leT_int, geT_int, ixT_lst, ixT_tup, atI_0, atI_1, atI_2, atI_3, lenF_lst, lenF_tup, lenF_str, absF_int, intF_int, intF_bl, max2F_int, min2F_int, strF_int, isi_str, isi_int, isi_tup, isi_lst, slT_lst, slT_tup, slT_str, tupleF_lst, tupleF_tup, listF_lst, listF_tup, inT_strs, ninT_strs, inT_strsT, ninT_strsT, ite_pu, decide_eq_true_eq, Bool.not_eq_true', if_true, if_false, Bool.false_eq_true, Bool.true_eq_false, Option.map_some, Option.map_none] at e1
  simp (implicitDefEqProofs := false) only [pu_bd, bd_bd, bd_pu, ofO_some, ofO_none, ofO_ite, stuck_bd, thr_bd, lft_pu, lft_bd, lft_gdc, lft_ite, lft_stuck, tb_bl, intO_int, itemsM_tup, itemsM_lst, itemsM_str, gd_c, gdc_T, compG_map, compA_pu, compA_gd, compA_if, compA_gdif, forM_map, forR_map, un2_tup, un3_tup, un4_tup, sum_inl, sum_inr, isStr_str, isTup_tup, joinF_l, joinF_t, strsOf_nil, strsOf_cons, strsOf_map, Option.bind_some, Option.bind_none, addT_int, addT_str, addT_lst, addT_tup, subT_int, mulT2_int, mulT2_str, fdivT_int, modT_int, powT_int, negT_int, eqT_int, neT_int, eqT_str, neT_str, eqT_bl, neT_bl, ltT_int, gtT_int, leT_int, geT_int, ixT_lst, ixT_tup, atI_0, atI_1, atI_2, atI_3, lenF_lst, lenF_tup, lenF_str, absF_int, intF_int, intF_bl, max2F_int, min2F_int, strF_int, isi_str, isi_int, isi_tup, isi_lst, slT_lst, slT_tup, slT_str, tupleF_lst, tupleF_tup, listF_lst, listF_tup, inT_strs, ninT_strs, inT_strsT, ninT_strsT, ite_pu, decide_eq_true_eq, Bool.not_eq_true', if_true, if_false, Bool.false_eq_true, Bool.true_eq_false, Option.map_some, Option.map_none, e1]
  refine HT.drawB (by omega) (by omega) fun j j0 j1 => ?_
  obtain ⟨k2, e2, a2, b2⟩ := pick3 (a := 2) (b := 4) (c := 9) j0 j1 1 9 (by omega) (by omega) (by omega)
  simp (implicitDefEqProofs := false) only [pu_bd, bd_bd, bd_pu, ofO_some, ofO_none, ofO_ite, stuck_bd, thr_bd, lft_pu, lft_bd, lft_gdc, lft_ite, lft_stuck, tb_bl, intO_int, itemsM_tup, itemsM_lst, itemsM_str, gd_c, gdc_T, compG_map, compA_pu, compA_gd, compA_if, compA_gdif, forM_map, forR_map, un2_tup, un3_tup, un4_tup, sum_inl, sum_inr, isStr_str, isTup_tup, joinF_l, joinF_t, strsOf_nil, strsOf_cons, strsOf_map, Option.bind_some, Option.bind_none, addT_int, addT_str, addT_lst, addT_tup, subT_int, mulT2_int, mulT2_str, fdivT_int, modT_int, powT_int, negT_int, eqT_int, neT_int, eqT_str, neT_str, eqT_bl, neT_bl, ltT_int, gtT_int, leT_int, geT_int, ixT_lst, ixT_tup, atI_0, atI_1, atI_2, atI_3, lenF_lst, lenF_tup, lenF_str, absF_int, intF_int, intF_bl, max2F_int, min2F_int, strF_int, isi_str, isi_int, isi_tup, isi_lst, slT_lst, slT_tup, slT_str, tupleF_lst, tupleF_tup, listF_lst, listF_tup, inT_strs, ninT_strs, inT_strsT, ninT_strsT, ite_pu, decide_eq_true_eq, Bool.not_eq_true', if_true, if_false, Bool.false_eq_true, Bool.true_eq_false, Option.map_some, Option.map_none] at e2
  simp (implicitDefEqProofs := false) only [pu_bd, bd_bd, bd_pu, ofO_some, ofO_none, ofO_ite, stuck_bd, thr_bd, lft_pu, lft_bd, lft_gdc, lft_ite, lft_stuck, tb_bl, intO_int, itemsM_tup, itemsM_lst, itemsM_str, gd_c, gdc_T, compG_map, compA_pu, compA_gd, compA_if, compA_gdif, forM_map, forR_map, un2_tup, un3_tup, un4_tup, sum_inl, sum_inr, isStr_str, isTup_tup, joinF_l, joinF_t, strsOf_nil, strsOf_cons, strsOf_map, Option.bind_some, Option.bind_none, addT_int, addT_str, addT_lst, addT_tup, subT_int, mulT2_int, mulT2_str, fdivT_int, modT_int, powT_int, negT_int, eqT_int, neT_int, eqT_str, neT_str, eqT_bl, neT_bl, ltT_int, gtT_int, leT_int, geT_int, ixT_lst, ixT_tup, atI_0, atI_1, atI_2, atI_3, lenF_lst, lenF_tup, lenF_str, absF_int, intF_int, intF_bl, max2F_int, min2F_int, strF_int, isi_str, isi_int, isi_tup, isi_lst, slT_lst, slT_tup, slT_str, tupleF_lst, tupleF_tup, listF_lst, listF_tup, inT_strs, ninT_strs, inT_strsT, ninT_strsT, ite_pu, decide_eq_true_eq, Bool.not_eq_true', if_true, if_false, Bool.false_eq_true, Bool.true_eq_false, Option.map_some, Option.map_none, e2]
  refine HT.bd (d1 := 1000) (part_of_ht hW (by omega) (by omega)) ?_
  rintro v ⟨A, rfl, hA, _⟩
  refine HT.bd (d1 := 1000) (part_of_ht hW (by omega) (by omega)) ?_
  rintro v ⟨C, rfl, hC, _⟩
  have ln : C.names.length ≤ 16 := by unfold Bk.names; rw [List.length_map]; exact hC.lf
  simp (implicitDefEqProofs := false) only [pu_bd, bd_bd, bd_pu, ofO_some, ofO_none, ofO_ite, stuck_bd, thr_bd, lft_pu, lft_bd, lft_gdc, lft_ite, lft_stuck, tb_bl, intO_int, itemsM_tup, itemsM_lst, itemsM_str, gd_c, gdc_T, compG_map, compA_pu, compA_gd, compA_if, compA_gdif, forM_map, forR_map, un2_tup, un3_tup, un4_tup, sum_inl, sum_inr, isStr_str, isTup_tup, joinF_l, joinF_t, strsOf_nil, strsOf_cons, strsOf_map, Option.bind_some, Option.bind_none, addT_int, addT_str, addT_lst, addT_tup, subT_int, mulT2_int, mulT2_str, fdivT_int, modT_int, powT_int, negT_int, eqT_int, neT_int, eqT_str, neT_str, eqT_bl, neT_bl, ltT_int, gtT_int, leT_int, geT_int, ixT_lst, ixT_tup, atI_0, atI_1, atI_2, atI_3, lenF_lst, lenF_tup, lenF_str, absF_int, intF_int, intF_bl, max2F_int, min2F_int, strF_int, isi_str, isi_int, isi_tup, isi_lst, slT_lst, slT_tup, slT_str, tupleF_lst, tupleF_tup, listF_lst, listF_tup, inT_strs, ninT_strs, inT_strsT, ninT_strsT, ite_pu, decide_eq_true_eq, Bool.not_eq_true', if_true, if_false, Bool.false_eq_true, Bool.true_eq_false, Option.map_some, Option.map_none, names_in_eq hC, names_in_eq hA]
  refine HT.drawB (by omega) (by omega) fun way w0 w1 => ?_
  rw [List.length_map]
  refine HT.bd (d1 := 1000000) (some_names_full (many := C.names.length) (by omega)) ?_
  rintro v ⟨news, rfl, nnd, nok, nl, _, nq⟩
  have nlen : news.length = C.names.length := nq (by omega)
  simp (implicitDefEqProofs := false) only [pu_bd, bd_bd, bd_pu, ofO_some, ofO_none, ofO_ite, stuck_bd, thr_bd, lft_pu, lft_bd, lft_gdc, lft_ite, lft_stuck, tb_bl, intO_int, itemsM_tup, itemsM_lst, itemsM_str, gd_c, gdc_T, compG_map, compA_pu, compA_gd, compA_if, compA_gdif, forM_map, forR_map, un2_tup, un3_tup, un4_tup, sum_inl, sum_inr, isStr_str, isTup_tup, joinF_l, joinF_t, strsOf_nil, strsOf_cons, strsOf_map, Option.bind_some, Option.bind_none, addT_int, addT_str, addT_lst, addT_tup, subT_int, mulT2_int, mulT2_str, fdivT_int, modT_int, powT_int, negT_int, eqT_int, neT_int, eqT_str, neT_str, eqT_bl, neT_bl, ltT_int, gtT_int, leT_int, geT_int, ixT_lst, ixT_tup, atI_0, atI_1, atI_2, atI_3, lenF_lst, lenF_tup, lenF_str, absF_int, intF_int, intF_bl, max2F_int, min2F_int, strF_int, isi_str, isi_int, isi_tup, isi_lst, slT_lst, slT_tup, slT_str, tupleF_lst, tupleF_tup, listF_lst, listF_tup, inT_strs, ninT_strs, inT_strsT, ninT_strsT, ite_pu, decide_eq_true_eq, Bool.not_eq_true', if_true, if_false, Bool.false_eq_true, Bool.true_eq_false, Option.map_some, Option.map_none, enumM_lst, enumL_map]
  refine HT.bd (d1 := 1000) (HT.le (HT.forN 1 16 (I := fun rest s => ∃ (ds : List Nm) (G : Nm → Nm), ds ++ rest.map (·.1) = C.names ∧ (∀ p ∈ rest, p.2 < news.length) ∧ s = (ds.map T.str, ds.map fun n => T.str (G n)) ∧ ∀ n ∈ ds, NameOk (G n)) ?_ ?_ ?_) (by omega)) ?_
  · rw [List.length_zipIdx]; exact ln
  · refine ⟨[], id, by rw [List.zipIdx_map_fst]; rfl, fun p hp => ?_, rfl, nofun⟩
    have := List.mem_zipIdx_iff_getElem?.mp hp
    have := (List.getElem?_eq_some_iff.mp this).1
    omega
  · rintro ⟨old, k⟩ rest s ⟨ds, G, hd, hk, rfl, hok⟩
    have hold : old ∈ C.names := by rw [← hd]; simp
    have hnew : old ∉ ds := by
      have nd := hC.nd
      rw [← hd] at nd
      exact fun z => (List.nodup_append.mp nd).2.2 old z old (by simp) rfl
    obtain ⟨w, hw, ew⟩ := atI_map_getD (f := T.str) (us := news) (i := (k : Int)) (by omega) (by have := hk _ List.mem_cons_self; simp at this; omega)
    dsimp only
    rw [ew]
    simp (implicitDefEqProofs := false) only [pu_bd, bd_bd, bd_pu, ofO_some, ofO_none, ofO_ite, stuck_bd, thr_bd, lft_pu, lft_bd, lft_gdc, lft_ite, lft_stuck, tb_bl, intO_int, itemsM_tup, itemsM_lst, itemsM_str, gd_c, gdc_T, compG_map, compA_pu, compA_gd, compA_if, compA_gdif, forM_map, forR_map, un2_tup, un3_tup, un4_tup, sum_inl, sum_inr, isStr_str, isTup_tup, joinF_l, joinF_t, strsOf_nil, strsOf_cons, strsOf_map, Option.bind_some, Option.bind_none, addT_int, addT_str, addT_lst, addT_tup, subT_int, mulT2_int, mulT2_str, fdivT_int, modT_int, powT_int, negT_int, eqT_int, neT_int, eqT_str, neT_str, eqT_bl, neT_bl, ltT_int, gtT_int, leT_int, geT_int, ixT_lst, ixT_tup, atI_0, atI_1, atI_2, atI_3, lenF_lst, lenF_tup, lenF_str, absF_int, intF_int, intF_bl, max2F_int, min2F_int, strF_int, isi_str, isi_int, isi_tup, isi_lst, slT_lst, slT_tup, slT_str, tupleF_lst, tupleF_tup, listF_lst, listF_tup, inT_strs, ninT_strs, inT_strsT, ninT_strsT, ite_pu, decide_eq_true_eq, Bool.not_eq_true', if_true, if_false, Bool.false_eq_true, Bool.true_eq_false, Option.map_some, Option.map_none]
    refine HT.drawB (d := 0) (by omega) (by omega) fun j j0 j1 => ?_
    obtain ⟨v2, e3, hv2⟩ := ix_pick2 (a := T.str old) (b := .str w) (d := j) (by omega)
    have e4 : ∃ x : Nm, atI [T.str old, .str w, v2] way = some (.str x) ∧ NameOk x := by
      rcases (by omega : way = 0 ∨ way = 1 ∨ way = 2) with rfl | rfl | rfl
      · exact ⟨old, rfl, hC.nm hold⟩
      · exact ⟨w, rfl, nok w hw⟩
      · rcases hv2 with rfl | rfl
        · exact ⟨old, rfl, hC.nm hold⟩
        · exact ⟨w, rfl, nok w hw⟩
    obtain ⟨x, e5, hx⟩ := e4
    rw [e3, ofO_some, pu_bd, e5, ofO_some, pu_bd]
    have eG : ds.map (fun n => T.str (G n)) = ds.map fun n => T.str (if n = old then x else G n) := List.map_congr_left fun n hn => by rw [if_neg fun z => hnew (by rw [← z]; exact hn)]
    have ldn : ds.length ≤ 16 := by
      have := congrArg List.length hd
      rw [List.length_append] at this
      omega
    rw [eG, dput_new (F := fun n => T.str (if n = old then x else G n)) hnew (by omega) (by rw [if_pos rfl])]
    refine HT.pu ⟨ds ++ [old], fun n => if n = old then x else G n, by rw [← hd]; simp, fun p hp => hk p (List.mem_cons_of_mem _ hp), rfl, fun n hn => ?_⟩
    by_cases e : n = old
    · dsimp only; rw [if_pos e]; exact hx
    · dsimp only; rw [if_neg e]
      rcases List.mem_append.mp hn with z | z
      · exact hok n z
      · exact absurd (List.mem_singleton.mp z) e
  rintro s ⟨ds, G, hd, _, rfl, hok⟩
  rw [List.map_nil, List.append_nil] at hd
  subst hd
  have e6 : C.names.map (fun n => T.str (G n)) = (C.names.map G).map T.str := by rw [List.map_map]; rfl
  simp (implicitDefEqProofs := false) only [pu_bd, bd_bd, bd_pu, ofO_some, ofO_none, ofO_ite, stuck_bd, thr_bd, lft_pu, lft_bd, lft_gdc, lft_ite, lft_stuck, tb_bl, intO_int, itemsM_tup, itemsM_lst, itemsM_str, gd_c, gdc_T, compG_map, compA_pu, compA_gd, compA_if, compA_gdif, forM_map, forR_map, un2_tup, un3_tup, un4_tup, sum_inl, sum_inr, isStr_str, isTup_tup, joinF_l, joinF_t, strsOf_nil, strsOf_cons, strsOf_map, Option.bind_some, Option.bind_none, addT_int, addT_str, addT_lst, addT_tup, subT_int, mulT2_int, mulT2_str, fdivT_int, modT_int, powT_int, negT_int, eqT_int, neT_int, eqT_str, neT_str, eqT_bl, neT_bl, ltT_int, gtT_int, leT_int, geT_int, ixT_lst, ixT_tup, atI_0, atI_1, atI_2, atI_3, lenF_lst, lenF_tup, lenF_str, absF_int, intF_int, intF_bl, max2F_int, min2F_int, strF_int, isi_str, isi_int, isi_tup, isi_lst, slT_lst, slT_tup, slT_str, tupleF_lst, tupleF_tup, listF_lst, listF_tup, inT_strs, ninT_strs, inT_strsT, ninT_strsT, ite_pu, decide_eq_true_eq, Bool.not_eq_true', if_true, if_false, Bool.false_eq_true, Bool.true_eq_false, Option.map_some, Option.map_none, dvalsT_dct]
  rw [e6, slen_strs (by rw [List.length_map]; unfold scanBound; omega)]
  simp (implicitDefEqProofs := false) only [pu_bd, bd_bd, bd_pu, ofO_some, ofO_none, ofO_ite, stuck_bd, thr_bd, lft_pu, lft_bd, lft_gdc, lft_ite, lft_stuck, tb_bl, intO_int, itemsM_tup, itemsM_lst, itemsM_str, gd_c, gdc_T, compG_map, compA_pu, compA_gd, compA_if, compA_gdif, forM_map, forR_map, un2_tup, un3_tup, un4_tup, sum_inl, sum_inr, isStr_str, isTup_tup, joinF_l, joinF_t, strsOf_nil, strsOf_cons, strsOf_map, Option.bind_some, Option.bind_none, addT_int, addT_str, addT_lst, addT_tup, subT_int, mulT2_int, mulT2_str, fdivT_int, modT_int, powT_int, negT_int, eqT_int, neT_int, eqT_str, neT_str, eqT_bl, neT_bl, ltT_int, gtT_int, leT_int, geT_int, ixT_lst, ixT_tup, atI_0, atI_1, atI_2, atI_3, lenF_lst, lenF_tup, lenF_str, absF_int, intF_int, intF_bl, max2F_int, min2F_int, strF_int, isi_str, isi_int, isi_tup, isi_lst, slT_lst, slT_tup, slT_str, tupleF_lst, tupleF_tup, listF_lst, listF_tup, inT_strs, ninT_strs, inT_strsT, ninT_strsT, ite_pu, decide_eq_true_eq, Bool.not_eq_true', if_true, if_false, Bool.false_eq_true, Bool.true_eq_false, Option.map_some, Option.map_none]
  refine HT.bd (d1 := 1) (P := fun v => ∃ F : Nm → Nm, v = .dct false (C.names.map T.str) (C.names.map fun n => T.str (F n)) ∧ (∀ a ∈ C.names, ∀ b ∈ C.names, F a = F b → a = b) ∧ ∀ n ∈ C.names, NameOk (F n)) ?_ ?_
  · refine HT.ite (fun hlt => ?_) fun hlt => ?_
    · rw [dzip_strs (F := T.str) hC.nd]
      exact HT.pu ⟨id, rfl, fun _ _ _ _ e => e, fun n hn => hC.nm hn⟩
    · refine HT.pu ⟨G, by rw [e6], inj_of_nodup (ke_str.ddup_full ?_), hok⟩
      rw [List.length_map]
      omega
  rintro v ⟨F, rfl, inj, fok⟩
  refine HT.gdc (by omega) ?_
  rw [compA_congr (g := fun n => if n ∈ A.names then pu (some (fkT (n, F n))) else pu none) (fun n hn => by rw [dgT_strs (F := fun n => T.str (F n)) hn]; rfl), compA_if, pu_bd]
  rw [show (C.names.filter fun n => decide (n ∈ A.names)).map (fun n => fkT (n, F n)) = ((C.names.filter fun n => decide (n ∈ A.names)).map fun n => (n, F n)).map fkT by rw [List.map_map]; rfl]
  have hp1 : (((C.names.filter fun n => decide (n ∈ A.names)).map fun n => (n, F n)).map (·.1)).Nodup := by
    rw [List.map_map]
    have : ((fun p : Nm × Nm => p.1) ∘ fun n => (n, F n)) = id := rfl
    rw [this, List.map_id]
    exact hC.nd.filter _
  have hp2 : (((C.names.filter fun n => decide (n ∈ A.names)).map fun n => (n, F n)).map (·.2)).Nodup := by
    rw [List.map_map]
    exact nodup_mapOn (fun a ha b hb e => inj a (List.mem_filter.mp ha).1 b (List.mem_filter.mp hb).1 e) (hC.nd.filter _)
  have hp3 : ∀ p ∈ (C.names.filter fun n => decide (n ∈ A.names)).map fun n => (n, F n), p.1 ∈ A.names ∧ p.2 ∈ (C.ren F).names := fun p hp => by
    obtain ⟨n, hn, rfl⟩ := List.mem_map.mp hp
    obtain ⟨h1, h2⟩ := List.mem_filter.mp hn
    exact ⟨by simpa using h2, ren_mem h1⟩
  have hp4 : ((C.names.filter fun n => decide (n ∈ A.names)).map fun n => (n, F n)).length ≤ 16 := by
    rw [List.length_map]
    exact Nat.le_trans (List.length_filter_le _ _) ln
  revert hp1 hp2 hp3 hp4
  generalize ((C.names.filter fun n => decide (n ∈ A.names)).map fun n => (n, F n)) = ps0
  intro hp1 hp2 hp3 hp4
  refine HT.bd (d1 := 16) (HT.le (HT.whN 1 (fun s => ∃ mixed rest : List (Nm × Nm), s = (mixed.map fkT, rest.map fkT) ∧ (mixed ++ rest).Perm ps0) (fun s => s.2.length) ?_ 16 fuel ([], ps0.map fkT) ⟨[], ps0, rfl, List.Perm.refl _⟩ (by rw [List.length_map]; exact hp4) (by unfold fuel; omega)) (by omega)) ?_
  · rintro s ⟨mixed, rest, rfl, hp⟩
    dsimp only
    rw [neT_nilL ke_fk]
    have hl := hp.length_eq
    rw [List.length_append] at hl
    cases rest with
    | nil => exact .inl rfl
    | cons y ys =>
      refine .inr ⟨by simp, rfl, ?_⟩
      refine HT.drawB (d := 0) (by simp) (by rw [List.length_map]; omega) fun i i0 i1 => ?_
      rw [List.length_map] at i1
      obtain ⟨a, us, vs, e7, e8⟩ := pop_at (e := fkT) i0 i1 (by omega)
      rw [e8, pu_bd]
      dsimp only
      rw [appM_c, bd_bd]
      refine HT.gdc (by rw [List.length_map]; omega) (HT.pu ⟨⟨mixed ++ [a], us ++ vs, by rw [List.map_append (l₁ := mixed)]; rfl, ?_⟩, ?_⟩)
      · refine List.Perm.trans ?_ hp
        rw [e7, List.append_assoc]
        exact List.Perm.append_left mixed (show ([a] ++ (us ++ vs)).Perm (us ++ a :: vs) from (List.perm_middle (a := a) (l₁ := us) (l₂ := vs)).symm)
      · rw [e7]; simp
  · rintro s ⟨⟨mixed, rest, rfl, hp⟩, hc⟩
    dsimp only at hc ⊢
    rw [neT_nilL ke_fk] at hc
    cases rest with
    | cons y ys => exact absurd (pu_inj hc) (by simp)
    | nil =>
      rw [List.append_nil] at hp
      rw [renamed_eq hC]
      simp (implicitDefEqProofs := false) only [pu_bd, bd_bd, bd_pu, ofO_some, ofO_none, ofO_ite, stuck_bd, thr_bd, lft_pu, lft_bd, lft_gdc, lft_ite, lft_stuck, tb_bl, intO_int, itemsM_tup, itemsM_lst, itemsM_str, gd_c, gdc_T, compG_map, compA_pu, compA_gd, compA_if, compA_gdif, forM_map, forR_map, un2_tup, un3_tup, un4_tup, sum_inl, sum_inr, isStr_str, isTup_tup, joinF_l, joinF_t, strsOf_nil, strsOf_cons, strsOf_map, Option.bind_some, Option.bind_none, addT_int, addT_str, addT_lst, addT_tup, subT_int, mulT2_int, mulT2_str, fdivT_int, modT_int, powT_int, negT_int, eqT_int, neT_int, eqT_str, neT_str, eqT_bl, neT_bl, ltT_int, gtT_int, leT_int, geT_int, ixT_lst, ixT_tup, atI_0, atI_1, atI_2, atI_3, lenF_lst, lenF_tup, lenF_str, absF_int, intF_int, intF_bl, max2F_int, min2F_int, strF_int, isi_str, isi_int, isi_tup, isi_lst, slT_lst, slT_tup, slT_str, tupleF_lst, tupleF_tup, listF_lst, listF_tup, inT_strs, ninT_strs, inT_strsT, ninT_strsT, ite_pu, decide_eq_true_eq, Bool.not_eq_true', if_true, if_false, Bool.false_eq_true, Bool.true_eq_false, Option.map_some, Option.map_none]
      exact HT.pu ⟨A, C.ren F, mixed, rfl, hA, hC.ren inj fok, ⟨(hp.map _).nodup_iff.mpr hp1, (hp.map _).nodup_iff.mpr hp2, fun p h => (hp3 p (hp.mem_iff.mp h)).1, fun p h => (hp3 p (hp.mem_iff.mp h)).2⟩⟩
theorem both_dt {A B : Bk} (h : BkOk A) : Dt 2 (.tup (((A.names.filter fun n => decide (n ∈ B.names)).map fun n => (n, n)).map fkT)) :=
  (dt_map (n := 1) (e := fkT) (fun p hp => .tup (fun x hx => by
    simp only [List.mem_cons, List.not_mem_nil, or_false] at hx
    rcases hx with rfl | rfl <;> exact .str _ _) (by simp)) (by
    have := h.lf
    have nl : A.names.length ≤ 16 := by unfold Bk.names; rw [List.length_map]; exact this
    rw [List.length_map]
    exact Nat.le_trans (List.length_filter_le _ _) (by omega))).1
theorem law_true : ∀ c, PenC 0 c → ∃ k, m_the_law c = .ok (.bl true) k := HT.law (d := 300000000) (by
  unfold m_the_law
  simp (implicitDefEqProofs := false) only [pu_bd, bd_bd, bd_pu, ofO_some, ofO_none, ofO_ite, stuck_bd, thr_bd, lft_pu, lft_bd, lft_gdc, lft_ite, lft_stuck, tb_bl, intO_int, itemsM_tup, itemsM_lst, itemsM_str, gd_c, gdc_T, compG_map, compA_pu, compA_gd, compA_if, compA_gdif, forM_map, forR_map, un2_tup, un3_tup, un4_tup, sum_inl, sum_inr, isStr_str, isTup_tup, joinF_l, joinF_t, strsOf_nil, strsOf_cons, strsOf_map, Option.bind_some, Option.bind_none, addT_int, addT_str, addT_lst, addT_tup, subT_int, mulT2_int, mulT2_str, fdivT_int, modT_int, powT_int, negT_int, eqT_int, neT_int, eqT_str, neT_str, eqT_bl, neT_bl, ltT_int, gtT_int, leT_int, geT_int, ixT_lst, ixT_tup, atI_0, atI_1, atI_2, atI_3, lenF_lst, lenF_tup, lenF_str, absF_int, intF_int, intF_bl, max2F_int, min2F_int, strF_int, isi_str, isi_int, isi_tup, isi_lst, slT_lst, slT_tup, slT_str, tupleF_lst, tupleF_tup, listF_lst, listF_tup, inT_strs, ninT_strs, inT_strsT, ninT_strsT, ite_pu, decide_eq_true_eq, Bool.not_eq_true', if_true, if_false, Bool.false_eq_true, Bool.true_eq_false, Option.map_some, Option.map_none]
  refine HT.bd (d1 := 100000000) two_books_ht ?_
  rintro v ⟨A, B, ps, rfl, hA, hB, _⟩
  simp (implicitDefEqProofs := false) only [pu_bd, bd_bd, bd_pu, ofO_some, ofO_none, ofO_ite, stuck_bd, thr_bd, lft_pu, lft_bd, lft_gdc, lft_ite, lft_stuck, tb_bl, intO_int, itemsM_tup, itemsM_lst, itemsM_str, gd_c, gdc_T, compG_map, compA_pu, compA_gd, compA_if, compA_gdif, forM_map, forR_map, un2_tup, un3_tup, un4_tup, sum_inl, sum_inr, isStr_str, isTup_tup, joinF_l, joinF_t, strsOf_nil, strsOf_cons, strsOf_map, Option.bind_some, Option.bind_none, addT_int, addT_str, addT_lst, addT_tup, subT_int, mulT2_int, mulT2_str, fdivT_int, modT_int, powT_int, negT_int, eqT_int, neT_int, eqT_str, neT_str, eqT_bl, neT_bl, ltT_int, gtT_int, leT_int, geT_int, ixT_lst, ixT_tup, atI_0, atI_1, atI_2, atI_3, lenF_lst, lenF_tup, lenF_str, absF_int, intF_int, intF_bl, max2F_int, min2F_int, strF_int, isi_str, isi_int, isi_tup, isi_lst, slT_lst, slT_tup, slT_str, tupleF_lst, tupleF_tup, listF_lst, listF_tup, inT_strs, ninT_strs, inT_strsT, ninT_strsT, ite_pu, decide_eq_true_eq, Bool.not_eq_true', if_true, if_false, Bool.false_eq_true, Bool.true_eq_false, Option.map_some, Option.map_none]
  refine HT.bd (d1 := 10000000) (any_book_ht (most := 16) (by omega)) ?_
  rintro v ⟨C, rfl, hC⟩
  have hs := sizeLine_eq
  have lA := hA.lf
  have lB := hB.lf
  have nA : A.names.length ≤ 16 := by unfold Bk.names; rw [List.length_map]; exact lA
  have nB : B.names.length ≤ 16 := by unfold Bk.names; rw [List.length_map]; exact lB
  have ap : ∀ {A B : Bk}, BkOk A → m_law_are_same (.tup (((A.names.filter fun n => decide (n ∈ B.names)).map fun n => (n, n)).map fkT)) (.tup (((A.names.filter fun n => decide (n ∈ B.names)).map fun n => (n, n)).map fkT)) = pu (.bl true) := fun h => are_same_refl (n := 2) (both_dt h) (by omega)
  rw [forR_all]
  · simp (implicitDefEqProofs := false) only [pu_bd, bd_bd, bd_pu, ofO_some, ofO_none, ofO_ite, stuck_bd, thr_bd, lft_pu, lft_bd, lft_gdc, lft_ite, lft_stuck, tb_bl, intO_int, itemsM_tup, itemsM_lst, itemsM_str, gd_c, gdc_T, compG_map, compA_pu, compA_gd, compA_if, compA_gdif, forM_map, forR_map, un2_tup, un3_tup, un4_tup, sum_inl, sum_inr, isStr_str, isTup_tup, joinF_l, joinF_t, strsOf_nil, strsOf_cons, strsOf_map, Option.bind_some, Option.bind_none, addT_int, addT_str, addT_lst, addT_tup, subT_int, mulT2_int, mulT2_str, fdivT_int, modT_int, powT_int, negT_int, eqT_int, neT_int, eqT_str, neT_str, eqT_bl, neT_bl, ltT_int, gtT_int, leT_int, geT_int, ixT_lst, ixT_tup, atI_0, atI_1, atI_2, atI_3, lenF_lst, lenF_tup, lenF_str, absF_int, intF_int, intF_bl, max2F_int, min2F_int, strF_int, isi_str, isi_int, isi_tup, isi_lst, slT_lst, slT_tup, slT_str, tupleF_lst, tupleF_tup, listF_lst, listF_tup, inT_strs, ninT_strs, inT_strsT, ninT_strsT, ite_pu, decide_eq_true_eq, Bool.not_eq_true', if_true, if_false, Bool.false_eq_true, Bool.true_eq_false, Option.map_some, Option.map_none]
    exact HT.pu rfl
  · intro x hx
    simp only [List.mem_cons, List.not_mem_nil, or_false] at hx
    have hx : ∃ A B : Bk, x = .tup [bkT A, bkT B] ∧ BkOk A ∧ BkOk B := by
      rcases hx with z | z | z | z | z
      · exact ⟨A, B, z, hA, hB⟩
      · exact ⟨B, A, z, hB, hA⟩
      · exact ⟨A, C, z, hA, hC⟩
      · exact ⟨A, A, z, hA, hA⟩
      · exact ⟨A, B, z, hA, hB⟩
    obtain ⟨A, B, rfl, hA, hB⟩ := hx
    have lA := hA.lf
    have nA : A.names.length ≤ 16 := by unfold Bk.names; rw [List.length_map]; exact lA
    simp (implicitDefEqProofs := false) only [pu_bd, bd_bd, bd_pu, ofO_some, ofO_none, ofO_ite, stuck_bd, thr_bd, lft_pu, lft_bd, lft_gdc, lft_ite, lft_stuck, tb_bl, intO_int, itemsM_tup, itemsM_lst, itemsM_str, gd_c, gdc_T, compG_map, compA_pu, compA_gd, compA_if, compA_gdif, forM_map, forR_map, un2_tup, un3_tup, un4_tup, sum_inl, sum_inr, isStr_str, isTup_tup, joinF_l, joinF_t, strsOf_nil, strsOf_cons, strsOf_map, Option.bind_some, Option.bind_none, addT_int, addT_str, addT_lst, addT_tup, subT_int, mulT2_int, mulT2_str, fdivT_int, modT_int, powT_int, negT_int, eqT_int, neT_int, eqT_str, neT_str, eqT_bl, neT_bl, ltT_int, gtT_int, leT_int, geT_int, ixT_lst, ixT_tup, atI_0, atI_1, atI_2, atI_3, lenF_lst, lenF_tup, lenF_str, absF_int, intF_int, intF_bl, max2F_int, min2F_int, strF_int, isi_str, isi_int, isi_tup, isi_lst, slT_lst, slT_tup, slT_str, tupleF_lst, tupleF_tup, listF_lst, listF_tup, inT_strs, ninT_strs, inT_strsT, ninT_strsT, ite_pu, decide_eq_true_eq, Bool.not_eq_true', if_true, if_false, Bool.false_eq_true, Bool.true_eq_false, Option.map_some, Option.map_none, names_in_eq hA, names_in_eq hB, by_names_eq hA hB, extM_l, appM_c, compA_ifo, fkT, kinT, famT, List.cons_append, List.nil_append]
    refine gdc_e (by omega) (gdc_e (Nat.le_trans (List.length_filter_le _ _) (by omega)) ?_)
    have e : (A.names.filter fun n => decide (n ∈ B.names)).map (fun a => T.tup [.str a, .str a]) = ((A.names.filter fun n => decide (n ∈ B.names)).map fun n => (n, n)).map fkT := by rw [List.map_map]; rfl
    refine (congrArg (fun z => bd (lft (m_law_are_same _ (.tup z))) _) e).trans ?_
    rw [ap hA]
    simp (implicitDefEqProofs := false) only [pu_bd, bd_bd, bd_pu, ofO_some, ofO_none, ofO_ite, stuck_bd, thr_bd, lft_pu, lft_bd, lft_gdc, lft_ite, lft_stuck, tb_bl, intO_int, itemsM_tup, itemsM_lst, itemsM_str, gd_c, gdc_T, compG_map, compA_pu, compA_gd, compA_if, compA_gdif, forM_map, forR_map, un2_tup, un3_tup, un4_tup, sum_inl, sum_inr, isStr_str, isTup_tup, joinF_l, joinF_t, strsOf_nil, strsOf_cons, strsOf_map, Option.bind_some, Option.bind_none, addT_int, addT_str, addT_lst, addT_tup, subT_int, mulT2_int, mulT2_str, fdivT_int, modT_int, powT_int, negT_int, eqT_int, neT_int, eqT_str, neT_str, eqT_bl, neT_bl, ltT_int, gtT_int, leT_int, geT_int, ixT_lst, ixT_tup, atI_0, atI_1, atI_2, atI_3, lenF_lst, lenF_tup, lenF_str, absF_int, intF_int, intF_bl, max2F_int, min2F_int, strF_int, isi_str, isi_int, isi_tup, isi_lst, slT_lst, slT_tup, slT_str, tupleF_lst, tupleF_tup, listF_lst, listF_tup, inT_strs, ninT_strs, inT_strsT, ninT_strsT, ite_pu, decide_eq_true_eq, Bool.not_eq_true', if_true, if_false, Bool.false_eq_true, Bool.true_eq_false, Option.map_some, Option.map_none, Bool.not_true]
    done) (by omega)

end K58

namespace K58
open PySem PySem.Spec PyProof.Rows L2 TL
def top (i : Nat) : Stmt := PySem.Challenge.pw_kinlines_k58_pairs_by_names.main.body.getD i (.Pass ⟨0, 0, 0, 0⟩)
abbrev s_names_of : Stmt := top 1
abbrev s_by_names : Stmt := top 3
abbrev s_law_pen_of : Stmt := top 5
abbrev s_law_draw : Stmt := top 6
abbrev s_law_are_same : Stmt := top 7
abbrev s_law_some_names : Stmt := top 8
abbrev s_law_some_family : Stmt := top 9
abbrev s_law_any_book : Stmt := top 10
abbrev s_law_names_in : Stmt := top 11
abbrev s_law_part_of : Stmt := top 12
abbrev s_law_book_renamed : Stmt := top 13
abbrev s_law_two_books : Stmt := top 14
abbrev s_the_law : Stmt := top 15
/-- what the head tells -/
structure Zx (K : PySem.W.Frag) (mg : Str → Option Value) : Prop where
  b_abs : mg "abs" = none
  b_all : mg "all" = none
  b_bool : mg "bool" = none
  b_dict : mg "dict" = none
  b_enumerate : mg "enumerate" = none
  b_int : mg "int" = none
  b_isinstance : mg "isinstance" = none
  b_len : mg "len" = none
  b_list : mg "list" = none
  b_range : mg "range" = none
  b_set : mg "set" = none
  b_sorted : mg "sorted" = none
  b_str : mg "str" = none
  b_tuple : mg "tuple" = none
  b_zip : mg "zip" = none
  f_names_of : ∃ fd, FunD K "names_of" "names_of" (defArgs s_names_of) (defBody s_names_of) (defScope s_names_of) [] [] (He.ga K "names_of") fd
  g_names_of : mg "names_of" = some (.ref (He.ga K "names_of"))
  f_by_names : ∃ fd, FunD K "by_names" "by_names" (defArgs s_by_names) (defBody s_by_names) (defScope s_by_names) [] [] (He.ga K "by_names") fd
  g_by_names : mg "by_names" = some (.ref (He.ga K "by_names"))
  f_law_pen_of : ∃ fd, FunD K "_law_pen_of" "_law_pen_of" (defArgs s_law_pen_of) (defBody s_law_pen_of) (defScope s_law_pen_of) [] [] (He.ga K "_law_pen_of") fd
  g_law_pen_of : mg "_law_pen_of" = some (.ref (He.ga K "_law_pen_of"))
  f_law_draw : ∃ fd, FunD K "_law_draw" "_law_draw" (defArgs s_law_draw) (defBody s_law_draw) (defScope s_law_draw) [] [] (He.ga K "_law_draw") fd
  g_law_draw : mg "_law_draw" = some (.ref (He.ga K "_law_draw"))
  f_law_are_same : ∃ fd, FunD K "_law_are_same" "_law_are_same" (defArgs s_law_are_same) (defBody s_law_are_same) (defScope s_law_are_same) [] [] (He.ga K "_law_are_same") fd
  g_law_are_same : mg "_law_are_same" = some (.ref (He.ga K "_law_are_same"))
  f_law_some_names : ∃ fd, FunD K "_law_some_names" "_law_some_names" (defArgs s_law_some_names) (defBody s_law_some_names) (defScope s_law_some_names) [] [] (He.ga K "_law_some_names") fd
  g_law_some_names : mg "_law_some_names" = some (.ref (He.ga K "_law_some_names"))
  f_law_some_family : ∃ fd, FunD K "_law_some_family" "_law_some_family" (defArgs s_law_some_family) (defBody s_law_some_family) (defScope s_law_some_family) [] [] (He.ga K "_law_some_family") fd
  g_law_some_family : mg "_law_some_family" = some (.ref (He.ga K "_law_some_family"))
  f_law_any_book : ∃ fd, FunD K "_law_any_book" "_law_any_book" (defArgs s_law_any_book) (defBody s_law_any_book) (defScope s_law_any_book) [] [] (He.ga K "_law_any_book") fd
  g_law_any_book : mg "_law_any_book" = some (.ref (He.ga K "_law_any_book"))
  f_law_names_in : ∃ fd, FunD K "_law_names_in" "_law_names_in" (defArgs s_law_names_in) (defBody s_law_names_in) (defScope s_law_names_in) [] [] (He.ga K "_law_names_in") fd
  g_law_names_in : mg "_law_names_in" = some (.ref (He.ga K "_law_names_in"))
  f_law_part_of : ∃ fd, FunD K "_law_part_of" "_law_part_of" (defArgs s_law_part_of) (defBody s_law_part_of) (defScope s_law_part_of) [] [] (He.ga K "_law_part_of") fd
  g_law_part_of : mg "_law_part_of" = some (.ref (He.ga K "_law_part_of"))
  f_law_book_renamed : ∃ fd, FunD K "_law_book_renamed" "_law_book_renamed" (defArgs s_law_book_renamed) (defBody s_law_book_renamed) (defScope s_law_book_renamed) [] [] (He.ga K "_law_book_renamed") fd
  g_law_book_renamed : mg "_law_book_renamed" = some (.ref (He.ga K "_law_book_renamed"))
  f_law_two_books : ∃ fd, FunD K "_law_two_books" "_law_two_books" (defArgs s_law_two_books) (defBody s_law_two_books) (defScope s_law_two_books) [] [] (He.ga K "_law_two_books") fd
  g_law_two_books : mg "_law_two_books" = some (.ref (He.ga K "_law_two_books"))
  f_the_law : ∃ fd, FunD K "law" "law" (defArgs s_the_law) (defBody s_the_law) (defScope s_the_law) [] [] (He.ga K "law") fd
  g_the_law : mg "law" = some (.ref (He.ga K "law"))
theorem vc_the_law : VC N_the_law sp_the_law c_the_law := vc_law x_the_law law_true
section
variable {P : Program} {w : World} {K : PySem.W.Frag} {mg : Str → Option Value} {base : Heap}
theorem sc_names_of : FnScope N_names_of (["book"] : List Str) (defScope s_names_of) := ⟨rfl, rfl, rfl, by decide +kernel, rfl, by decide +kernel, by decide +kernel⟩
theorem ok_names_of (Z : Zx K mg) : Okf P w K mg base 1 "names_of" (["book"] : List Str) sp_names_of := by
  obtain ⟨fd, F⟩ := Z.f_names_of
  have hb : ∀ (cdv : Value) (A : Around) (outer : List Env) (s : Shared) (H : Hp) (E : XK), Room 0 (A.deeper (envOfC "names_of" (defScope s_names_of) s.heap.objs.size (He.ga K "names_of") cdv)) → TSs (cxOf (L2.CX P w) P w K mg base N_names_of "names_of" (defScope s_names_of) (He.ga K "names_of") cdv A outer s H E) (defBody s_names_of) c_names_of := fun cdv A outer s H E hr =>
    (tss_cons (ts_ret (te_comp rfl sc_names_of.nd (ti_seq (te_ix (te_var (i := 0) rfl (.inl rfl)) te_int)) (ow := [("name", 1), ("mark", 2)]) (blkOk_by (by kernel_rfl)) (fun _ _ _ _ _ => (tg_tup rfl (n := 2) (tgs_cons (tg_name (i := 1) (by decide) sc_names_of.nd rfl (.inl rfl)) (tgs_cons (tg_name (i := 2) (by decide) sc_names_of.nd rfl (.inl rfl)) tgs_nil)) rfl rfl (takes_c (takes_c takes_z)))) (fun _ _ _ _ _ => tbs_nil) (fun _ _ _ _ _ => (te_var (i := 1) rfl (.inl rfl)))))
      tss_nil)
  exact ⟨fd, fn_t F sc_names_of len_names_of hb vc_names_of, Z.g_names_of, F.kp, F.bindsN fun _ _ _ _ _ _ us hl => match us, hl with | [_], _ => rfl⟩
theorem sc_by_names : FnScope N_by_names (["one", "other"] : List Str) (defScope s_by_names) := ⟨rfl, rfl, rfl, by decide +kernel, rfl, by decide +kernel, by decide +kernel⟩
theorem ok_by_names (Z : Zx K mg) : Okf P w K mg base 2 "by_names" (["one", "other"] : List Str) sp_by_names := by
  have O_names_of : Okf P w K mg base 1 "names_of" (["book"] : List Str) sp_names_of := ok_names_of Z
  obtain ⟨fd, F⟩ := Z.f_by_names
  have hb : ∀ (cdv : Value) (A : Around) (outer : List Env) (s : Shared) (H : Hp) (E : XK), Room 1 (A.deeper (envOfC "by_names" (defScope s_by_names) s.heap.objs.size (He.ga K "by_names") cdv)) → TSs (cxOf (L2.CX P w) P w K mg base N_by_names "by_names" (defScope s_by_names) (He.ga K "by_names") cdv A outer s H E) (defBody s_by_names) c_by_names := fun cdv A outer s H E hr =>
    (tss_cons (ts_set (i := 2) sc_by_names.nd rfl (.inr rfl) (te_callO O_names_of hr (by decide) rfl (ta_cons (te_var (i := 1) rfl (.inl rfl)) ta_nil)))
      (tss_cons (ts_ret (te_fnT fn_tuple rfl Z.b_tuple boot_tuple (ta_cons (te_comp rfl sc_by_names.nd (ti_seq (te_callO O_names_of hr (by decide) rfl (ta_cons (te_var (i := 0) rfl (.inl rfl)) ta_nil))) (ow := [("name", 3)]) (blkOk_by (by kernel_rfl)) (fun _ _ _ _ _ => (tg_name (i := 3) (by decide) sc_by_names.nd rfl (.inl rfl))) (fun _ _ _ _ _ => (tbs_one (tb_cmp (op_inT (u65 hr)) (te_var (i := 3) rfl (.inl rfl)) (te_var (i := 2) rfl (.inr (.inl rfl))) rfl))) (fun _ _ _ _ _ => (te_tup (ta_cons (te_var (i := 3) rfl (.inl rfl)) (ta_cons (te_var (i := 3) rfl (.inl rfl)) ta_nil))))) ta_nil)))
      tss_nil))
  exact ⟨fd, fn_t F sc_by_names len_by_names hb vc_by_names, Z.g_by_names, F.kp, F.bindsN fun _ _ _ _ _ _ us hl => match us, hl with | [_, _], _ => rfl⟩
theorem sc_law_pen_of : FnScope N_law_pen_of (["_law_script"] : List Str) (defScope s_law_pen_of) := ⟨rfl, rfl, rfl, by decide +kernel, rfl, by decide +kernel, by decide +kernel⟩
theorem ok_law_pen_of (Z : Zx K mg) : Okf P w K mg base 1 "_law_pen_of" (["_law_script"] : List Str) sp_law_pen_of := by
  obtain ⟨fd, F⟩ := Z.f_law_pen_of
  have hb : ∀ (cdv : Value) (A : Around) (outer : List Env) (s : Shared) (H : Hp) (E : XK), Room 0 (A.deeper (envOfC "_law_pen_of" (defScope s_law_pen_of) s.heap.objs.size (He.ga K "_law_pen_of") cdv)) → TSs (cxOf (L2.CX P w) P w K mg base N_law_pen_of "_law_pen_of" (defScope s_law_pen_of) (He.ga K "_law_pen_of") cdv A outer s H E) (defBody s_law_pen_of) c_law_pen_of := fun cdv A outer s H E hr =>
    (tss_cons (ts_ret (te_lstM (ta_cons (te_comp rfl sc_law_pen_of.nd (ti_seq (te_slice (te_var (i := 0) rfl (.inl rfl)) to_no (to_some te_int))) (ow := [("_law_cell", 1)]) (blkOk_by (by kernel_rfl)) (fun _ _ _ _ _ => (tg_name (i := 1) (by decide) sc_law_pen_of.nd rfl (.inl rfl))) (fun _ _ _ _ _ => tbs_nil) (fun _ _ _ _ _ => (te_var (i := 1) rfl (.inl rfl)))) (ta_cons te_int (ta_cons te_int ta_nil)))))
      tss_nil)
  exact ⟨fd, fn_t F sc_law_pen_of len_law_pen_of hb vc_law_pen_of, Z.g_law_pen_of, F.kp, F.bindsN fun _ _ _ _ _ _ us hl => match us, hl with | [_], _ => rfl⟩
theorem sc_law_draw : FnScope N_law_draw (["_law_pen", "_law_many"] : List Str) (defScope s_law_draw) := ⟨rfl, rfl, rfl, by decide +kernel, rfl, by decide +kernel, by decide +kernel⟩
theorem ok_law_draw (Z : Zx K mg) : Okf P w K mg base 1 "_law_draw" (["_law_pen", "_law_many"] : List Str) sp_law_draw := by
  obtain ⟨fd, F⟩ := Z.f_law_draw
  have hb : ∀ (cdv : Value) (A : Around) (outer : List Env) (s : Shared) (H : Hp) (E : XK), Room 0 (A.deeper (envOfC "_law_draw" (defScope s_law_draw) s.heap.objs.size (He.ga K "_law_draw") cdv)) → TSs (cxOf (L2.CX P w) P w K mg base N_law_draw "_law_draw" (defScope s_law_draw) (He.ga K "_law_draw") cdv A outer s H E) (defBody s_law_draw) c_law_draw := fun cdv A outer s H E hr =>
    (tss_cons (ts_if (tb_cmp (op_gtT (u64 hr)) (te_ix (te_var (i := 0) rfl (.inl rfl)) te_int) te_int rfl) (tss_cons (ts_set (i := 2) sc_law_draw.nd rfl (.inl rfl) (te_bin op_modT (te_ix (te_var (i := 0) rfl (.inl rfl)) te_int) (te_var (i := 1) rfl (.inl rfl))))
      (tss_cons (ts_asg (vs := []) (te_bin op_fdivT (te_ix (te_var (i := 0) rfl (.inl rfl)) te_int) (te_var (i := 1) rfl (.inl rfl))) (tg_ix (te_var (i := 0) rfl (.inl rfl)) te_int))
      (tss_cons (ts_ret (te_var (i := 2) rfl (.inl rfl)))
      tss_nil))) tss_nil)
      (tss_cons (ts_set (i := 3) sc_law_draw.nd rfl (.inl rfl) (te_ix (te_var (i := 0) rfl (.inl rfl)) te_int))
      (tss_cons (ts_asg (vs := []) (te_bin op_addT (te_var (i := 3) rfl (.inl rfl)) te_int) (tg_ix (te_var (i := 0) rfl (.inl rfl)) te_int))
      (tss_cons (ts_set (i := 4) sc_law_draw.nd rfl (.inl rfl) te_int)
      (tss_cons (ts_if (tb_cmp (op_gtT (u64 hr)) (te_fnB fn_len rfl Z.b_len boot_len (ta_cons (te_ix (te_var (i := 0) rfl (.inl rfl)) te_int) ta_nil)) te_int rfl) (tss_cons (ts_set (i := 4) sc_law_draw.nd rfl (.inl rfl) (te_ix (te_ix (te_var (i := 0) rfl (.inl rfl)) te_int) (te_bin op_modT (te_var (i := 3) rfl (.inl rfl)) (te_fnB fn_len rfl Z.b_len boot_len (ta_cons (te_ix (te_var (i := 0) rfl (.inl rfl)) te_int) ta_nil)))))
      tss_nil) tss_nil)
      (tss_cons (ts_if (TW.toB (tw_and (tb_cmp (op_ltT (u64 hr)) (te_var (i := 3) rfl (.inl rfl)) (te_fnB fn_len rfl Z.b_len boot_len (ta_cons (te_ix (te_var (i := 0) rfl (.inl rfl)) te_int) ta_nil)) rfl) (tw_and1 (tb_cmp (op_geT (u64 hr)) (te_fnB fn_abs rfl Z.b_abs boot_abs (ta_cons (te_var (i := 4) rfl (.inl rfl)) ta_nil)) (te_bin op_powT te_int te_int) rfl)))) (tss_cons (ts_asg (vs := []) (te_bin op_fdivT (te_fnB fn_abs rfl Z.b_abs boot_abs (ta_cons (te_var (i := 4) rfl (.inl rfl)) ta_nil)) (te_var (i := 1) rfl (.inl rfl))) (tg_ix (te_var (i := 0) rfl (.inl rfl)) te_int))
      (tss_cons (ts_ret (te_bin op_modT (te_fnB fn_abs rfl Z.b_abs boot_abs (ta_cons (te_var (i := 4) rfl (.inl rfl)) ta_nil)) (te_var (i := 1) rfl (.inl rfl))))
      tss_nil)) tss_nil)
      (tss_cons (ts_set (i := 5) sc_law_draw.nd rfl (.inl rfl) (te_bin op_modT (te_bin op_mulT2 (te_bin op_addT (te_bin op_addT (te_bin op_modT (te_var (i := 4) rfl (.inl rfl)) te_int) (te_bin op_mulT2 te_int (te_var (i := 3) rfl (.inl rfl)))) te_int) te_int) te_int))
      (tss_cons (ts_set (i := 5) sc_law_draw.nd rfl (.inl rfl) (te_bin op_modT (te_bin op_mulT2 (te_bin op_modT (te_bin op_mulT2 (te_var (i := 5) rfl (.inl rfl)) (te_var (i := 5) rfl (.inl rfl))) te_int) (te_bin op_addT (te_bin op_addT (te_bin op_modT (te_var (i := 5) rfl (.inl rfl)) te_int) (te_bin op_mulT2 te_int (te_var (i := 3) rfl (.inl rfl)))) te_int)) te_int))
      (tss_cons (ts_ret (te_bin op_modT (te_bin op_fdivT (te_var (i := 5) rfl (.inl rfl)) te_int) (te_var (i := 1) rfl (.inl rfl))))
      tss_nil)))))))))
  exact ⟨fd, fn_t F sc_law_draw len_law_draw hb vc_law_draw, Z.g_law_draw, F.kp, F.bindsN fun _ _ _ _ _ _ us hl => match us, hl with | [_, _], _ => rfl⟩
theorem sc_law_are_same : FnScope N_law_are_same (["_law_found", "_law_due"] : List Str) (defScope s_law_are_same) := ⟨rfl, rfl, rfl, by decide +kernel, rfl, by decide +kernel, by decide +kernel⟩
theorem okr_law_are_same (Z : Zx K mg) : ∀ n : Nat, Okf P w K mg base (0 + n) "_law_are_same" (["_law_found", "_law_due"] : List Str) (rp_law_are_same n)
  | 0 => by
    obtain ⟨fd, F⟩ := Z.f_law_are_same
    exact ⟨fd, fn_none (us2 fun _ _ => rfl), Z.g_law_are_same, F.kp, F.bindsN fun _ _ _ _ _ _ us hl => match us, hl with | [_, _], _ => rfl⟩
  | n + 1 => by
    have O_law_are_same := okr_law_are_same Z n
    obtain ⟨fd, F⟩ := Z.f_law_are_same
    have hb : ∀ (cdv : Value) (A : Around) (outer : List Env) (s : Shared) (H : Hp) (E : XK), Room (0 + n) (A.deeper (envOfC "_law_are_same" (defScope s_law_are_same) s.heap.objs.size (He.ga K "_law_are_same") cdv)) → TSs (cxOf (L2.CX P w) P w K mg base N_law_are_same "_law_are_same" (defScope s_law_are_same) (He.ga K "_law_are_same") cdv A outer s H E) (defBody s_law_are_same) (c_law_are_same n) := fun cdv A outer s H E hr =>
    (tss_cons (ts_if (tb_val (te_isi2 .lst .tup (te_var (i := 1) rfl (.inl rfl)) rfl Z.b_isinstance rfl Z.b_list rfl Z.b_tuple)) (tss_cons (ts_if (TW.toB (tw_or (tb_not (tb_val (te_isi2 .lst .tup (te_var (i := 0) rfl (.inl rfl)) rfl Z.b_isinstance rfl Z.b_list rfl Z.b_tuple))) (tw_or1 (tb_cmp (op_neT (u64 hr)) (te_isi .lst (te_var (i := 0) rfl (.inl rfl)) rfl Z.b_isinstance rfl Z.b_list) (te_isi .lst (te_var (i := 1) rfl (.inl rfl)) rfl Z.b_isinstance rfl Z.b_list) rfl)))) (tss_cons (ts_ret te_bl)
      tss_nil) tss_nil)
      (tss_cons (ts_if (tb_cmp (op_neT (u64 hr)) (te_fnB fn_len rfl Z.b_len boot_len (ta_cons (te_var (i := 0) rfl (.inl rfl)) ta_nil)) (te_fnB fn_len rfl Z.b_len boot_len (ta_cons (te_var (i := 1) rfl (.inl rfl)) ta_nil)) rfl) (tss_cons (ts_ret te_bl)
      tss_nil) tss_nil)
      (tss_cons (ts_ret (te_fnB (fn_all rfl) rfl Z.b_all boot_all (ta_cons (te_comp rfl sc_law_are_same.nd (ti_zip rfl Z.b_zip (te_var (i := 0) rfl (.inl rfl)) (te_var (i := 1) rfl (.inl rfl))) (ow := [("_law_one", 2), ("_law_other", 3)]) (blkOk_by (by kernel_rfl)) (fun _ _ _ _ _ => (tg_tup rfl (n := 2) (tgs_cons (tg_name (i := 2) (by decide) sc_law_are_same.nd rfl (.inl rfl)) (tgs_cons (tg_name (i := 3) (by decide) sc_law_are_same.nd rfl (.inl rfl)) tgs_nil)) rfl rfl (takes_c (takes_c takes_z)))) (fun _ _ _ _ _ => tbs_nil) (fun _ _ _ _ _ => (te_callO O_law_are_same hr (by omega) rfl (ta_cons (te_var (i := 2) rfl (.inl rfl)) (ta_cons (te_var (i := 3) rfl (.inl rfl)) ta_nil))))) ta_nil)))
      tss_nil))) tss_nil)
      (tss_cons (ts_if (TW.toB (tw_or (tb_cmp (op_neT (u64 hr)) (te_isi .bool (te_var (i := 0) rfl (.inl rfl)) rfl Z.b_isinstance rfl Z.b_bool) (te_isi .bool (te_var (i := 1) rfl (.inl rfl)) rfl Z.b_isinstance rfl Z.b_bool) rfl) (tw_or1 (tb_cmp (op_neT (u64 hr)) (te_isi .str (te_var (i := 0) rfl (.inl rfl)) rfl Z.b_isinstance rfl Z.b_str) (te_isi .str (te_var (i := 1) rfl (.inl rfl)) rfl Z.b_isinstance rfl Z.b_str) rfl)))) (tss_cons (ts_ret te_bl)
      tss_nil) tss_nil)
      (tss_cons (ts_ret (te_and (te_cmp (op_eqT (u64 hr)) (te_isi .int (te_var (i := 0) rfl (.inl rfl)) rfl Z.b_isinstance rfl Z.b_int) (te_isi .int (te_var (i := 1) rfl (.inl rfl)) rfl Z.b_isinstance rfl Z.b_int) rfl) (te_one (te_cmp (op_eqT (u64 hr)) (te_var (i := 0) rfl (.inl rfl)) (te_var (i := 1) rfl (.inl rfl)) rfl))))
      tss_nil)))
    exact ⟨fd, fn_t F sc_law_are_same (len_law_are_same (n + 1)) hb (vc_law_are_same n), Z.g_law_are_same, F.kp, F.bindsN fun _ _ _ _ _ _ us hl => match us, hl with | [_, _], _ => rfl⟩
theorem ok_law_are_same (Z : Zx K mg) : Okf P w K mg base 12 "_law_are_same" (["_law_found", "_law_due"] : List Str) sp_law_are_same := okr_law_are_same Z 12
theorem sc_law_some_names : FnScope N_law_some_names (["_law_pen", "_law_many"] : List Str) (defScope s_law_some_names) := ⟨rfl, rfl, rfl, by decide +kernel, rfl, by decide +kernel, by decide +kernel⟩
theorem ok_law_some_names (Z : Zx K mg) : Okf P w K mg base 2 "_law_some_names" (["_law_pen", "_law_many"] : List Str) sp_law_some_names := by
  have O_law_draw : Okf P w K mg base 1 "_law_draw" (["_law_pen", "_law_many"] : List Str) sp_law_draw := ok_law_draw Z
  obtain ⟨fd, F⟩ := Z.f_law_some_names
  have hb : ∀ (cdv : Value) (A : Around) (outer : List Env) (s : Shared) (H : Hp) (E : XK), Room 1 (A.deeper (envOfC "_law_some_names" (defScope s_law_some_names) s.heap.objs.size (He.ga K "_law_some_names") cdv)) → TSs (cxOf (L2.CX P w) P w K mg base N_law_some_names "_law_some_names" (defScope s_law_some_names) (He.ga K "_law_some_names") cdv A outer s H E) (defBody s_law_some_names) c_law_some_names := fun cdv A outer s H E hr =>
    (tss_cons (ts_set (i := 2) sc_law_some_names.nd rfl (.inr rfl) te_str)
      (tss_cons (ts_set (i := 3) sc_law_some_names.nd rfl (.inl rfl) (te_lst (ta_cons te_str (ta_cons te_str (ta_cons te_str (ta_cons te_str (ta_cons te_str (ta_cons te_str (ta_cons te_str (ta_cons te_str (ta_cons te_str (ta_cons te_str (ta_cons te_str (ta_cons te_str (ta_cons te_str ta_nil)))))))))))))))
      (tss_cons (ts_set (i := 4) sc_law_some_names.nd rfl (.inl rfl) (te_lstM ta_nil))
      (tss_cons (ts_for (vs := [5]) (passes_of rfl) rfl (ti_range1 rfl Z.b_range (te_var (i := 1) rfl (.inl rfl))) (tg_name (i := 5) (by decide) sc_law_some_names.nd rfl (.inl rfl)) (tss_cons (ts_set (i := 6) sc_law_some_names.nd rfl (.inl rfl) (te_ix (te_lst (ta_cons te_int (ta_cons te_int (ta_cons te_int (ta_cons (te_bin op_addT te_int (te_callO O_law_draw hr (by decide) rfl (ta_cons (te_var (i := 0) rfl (.inr (.inl rfl))) (ta_cons te_int ta_nil)))) ta_nil))))) (te_callO O_law_draw hr (by decide) rfl (ta_cons (te_var (i := 0) rfl (.inr (.inl rfl))) (ta_cons te_int ta_nil)))))
      (tss_cons (ts_set (i := 7) sc_law_some_names.nd rfl (.inl rfl) (te_sm1 PySem.F.slot_str_join PySem.F.type_str_join mt_joinT te_str (te_comp rfl sc_law_some_names.nd (ti_range1 rfl Z.b_range (te_var (i := 6) rfl (.inl rfl))) (ow := [("_law_j", 9)]) (blkOk_by (by kernel_rfl)) (fun _ _ _ _ _ => (tg_name (i := 9) (by decide) sc_law_some_names.nd rfl (.inl rfl))) (fun _ _ _ _ _ => tbs_nil) (fun _ _ _ _ _ => (te_ix (te_var (i := 2) rfl (.inr (.inl rfl))) (te_callO O_law_draw hr (by decide) rfl (ta_cons (te_var (i := 0) rfl (.inr (.inl rfl))) (ta_cons te_int ta_nil))))))))
      (tss_cons (ts_if (TW.toB (tw_and (tb_cmp (op_neT (u64 hr)) (te_var (i := 4) rfl (.inl rfl)) (te_lst ta_nil) rfl) (tw_and1 (tb_cmp (op_eqT (u64 hr)) (te_callO O_law_draw hr (by decide) rfl (ta_cons (te_var (i := 0) rfl (.inr (.inl rfl))) (ta_cons te_int ta_nil))) te_int rfl)))) (tss_cons (ts_set (i := 7) sc_law_some_names.nd rfl (.inl rfl) (te_slice (te_bin op_addT (te_ix (te_var (i := 4) rfl (.inl rfl)) (te_callO O_law_draw hr (by decide) rfl (ta_cons (te_var (i := 0) rfl (.inr (.inl rfl))) (ta_cons (te_fnB fn_len rfl Z.b_len boot_len (ta_cons (te_var (i := 4) rfl (.inl rfl)) ta_nil)) ta_nil)))) (te_ix (te_var (i := 2) rfl (.inr (.inl rfl))) (te_callO O_law_draw hr (by decide) rfl (ta_cons (te_var (i := 0) rfl (.inr (.inl rfl))) (ta_cons te_int ta_nil))))) to_no (to_some te_int)))
      tss_nil) tss_nil)
      (tss_cons (ts_if (tb_cmp (op_eqT (u64 hr)) (te_callO O_law_draw hr (by decide) rfl (ta_cons (te_var (i := 0) rfl (.inr (.inl rfl))) (ta_cons te_int ta_nil))) te_int rfl) (tss_cons (ts_set (i := 7) sc_law_some_names.nd rfl (.inl rfl) (te_ix (te_var (i := 3) rfl (.inl rfl)) (te_callO O_law_draw hr (by decide) rfl (ta_cons (te_var (i := 0) rfl (.inr (.inl rfl))) (ta_cons te_int ta_nil)))))
      tss_nil) tss_nil)
      (tss_cons (ts_for (vs := [8]) (passes_of rfl) rfl (ti_seq (te_var (i := 2) rfl (.inr (.inl rfl)))) (tg_name (i := 8) (by decide) sc_law_some_names.nd rfl (.inl rfl)) (tss_cons (ts_if (tb_cmp (op_inT (u65 hr)) (te_var (i := 7) rfl (.inl rfl)) (te_var (i := 4) rfl (.inl rfl)) rfl) (tss_cons (ts_set (i := 7) sc_law_some_names.nd rfl (.inl rfl) (te_bin op_addT (te_slice (te_var (i := 7) rfl (.inl rfl)) to_no (to_some (te_bin op_subT (te_fnB fn_len rfl Z.b_len boot_len (ta_cons (te_var (i := 7) rfl (.inl rfl)) ta_nil)) te_int))) (te_var (i := 8) rfl (.inl rfl))))
      tss_nil) tss_nil)
      tss_nil))
      (tss_cons (ts_if (tb_cmp (op_ninT (u65 hr)) (te_var (i := 7) rfl (.inl rfl)) (te_var (i := 4) rfl (.inl rfl)) rfl) (tss_cons (ts_do (te_app (te_var (i := 4) rfl (.inl rfl)) (te_var (i := 7) rfl (.inl rfl))))
      tss_nil) tss_nil)
      tss_nil)))))))
      (tss_cons (ts_ret (te_var (i := 4) rfl (.inl rfl)))
      tss_nil)))))
  exact ⟨fd, fn_t F sc_law_some_names len_law_some_names hb vc_law_some_names, Z.g_law_some_names, F.kp, F.bindsN fun _ _ _ _ _ _ us hl => match us, hl with | [_, _], _ => rfl⟩
theorem sc_law_some_family : FnScope N_law_some_family (["_law_pen", "_law_names"] : List Str) (defScope s_law_some_family) := ⟨rfl, rfl, rfl, by decide +kernel, rfl, by decide +kernel, by decide +kernel⟩
theorem ok_law_some_family (Z : Zx K mg) : Okf P w K mg base 2 "_law_some_family" (["_law_pen", "_law_names"] : List Str) sp_law_some_family := by
  have O_law_draw : Okf P w K mg base 1 "_law_draw" (["_law_pen", "_law_many"] : List Str) sp_law_draw := ok_law_draw Z
  obtain ⟨fd, F⟩ := Z.f_law_some_family
  have hb : ∀ (cdv : Value) (A : Around) (outer : List Env) (s : Shared) (H : Hp) (E : XK), Room 1 (A.deeper (envOfC "_law_some_family" (defScope s_law_some_family) s.heap.objs.size (He.ga K "_law_some_family") cdv)) → TSs (cxOf (L2.CX P w) P w K mg base N_law_some_family "_law_some_family" (defScope s_law_some_family) (He.ga K "_law_some_family") cdv A outer s H E) (defBody s_law_some_family) c_law_some_family := fun cdv A outer s H E hr =>
    (tss_cons (ts_par2 (i := 2) (j := 3) rfl sc_law_some_family.nd rfl rfl (by decide) rfl rfl (ta_cons (te_ix (te_var (i := 1) rfl (.inl rfl)) (te_callO O_law_draw hr (by decide) rfl (ta_cons (te_var (i := 0) rfl (.inl rfl)) (ta_cons (te_fnB fn_len rfl Z.b_len boot_len (ta_cons (te_var (i := 1) rfl (.inl rfl)) ta_nil)) ta_nil)))) (ta_cons (te_ix (te_var (i := 1) rfl (.inl rfl)) (te_callO O_law_draw hr (by decide) rfl (ta_cons (te_var (i := 0) rfl (.inl rfl)) (ta_cons (te_fnB fn_len rfl Z.b_len boot_len (ta_cons (te_var (i := 1) rfl (.inl rfl)) ta_nil)) ta_nil)))) ta_nil)) rfl)
      (tss_cons (ts_if (tb_cmp (op_eqT (u64 hr)) (te_var (i := 2) rfl (.inl rfl)) (te_var (i := 3) rfl (.inl rfl)) rfl) (tss_cons (ts_ret (te_tup (ta_cons (te_var (i := 2) rfl (.inl rfl)) ta_nil)))
      tss_nil) tss_nil)
      (tss_cons (ts_ret (te_tup (ta_cons (te_var (i := 2) rfl (.inl rfl)) (ta_cons (te_var (i := 3) rfl (.inl rfl)) ta_nil))))
      tss_nil)))
  exact ⟨fd, fn_t F sc_law_some_family len_law_some_family hb vc_law_some_family, Z.g_law_some_family, F.kp, F.bindsN fun _ _ _ _ _ _ us hl => match us, hl with | [_, _], _ => rfl⟩
theorem sc_law_any_book : FnScope N_law_any_book (["_law_pen", "_law_most"] : List Str) (defScope s_law_any_book) := ⟨rfl, rfl, rfl, by decide +kernel, rfl, by decide +kernel, by decide +kernel⟩
theorem ok_law_any_book (Z : Zx K mg) : Okf P w K mg base 3 "_law_any_book" (["_law_pen", "_law_most"] : List Str) sp_law_any_book := by
  have O_law_draw : Okf P w K mg base 1 "_law_draw" (["_law_pen", "_law_many"] : List Str) sp_law_draw := ok_law_draw Z
  have O_law_some_names : Okf P w K mg base 2 "_law_some_names" (["_law_pen", "_law_many"] : List Str) sp_law_some_names := ok_law_some_names Z
  have O_law_some_family : Okf P w K mg base 2 "_law_some_family" (["_law_pen", "_law_names"] : List Str) sp_law_some_family := ok_law_some_family Z
  obtain ⟨fd, F⟩ := Z.f_law_any_book
  have hb : ∀ (cdv : Value) (A : Around) (outer : List Env) (s : Shared) (H : Hp) (E : XK), Room 2 (A.deeper (envOfC "_law_any_book" (defScope s_law_any_book) s.heap.objs.size (He.ga K "_law_any_book") cdv)) → TSs (cxOf (L2.CX P w) P w K mg base N_law_any_book "_law_any_book" (defScope s_law_any_book) (He.ga K "_law_any_book") cdv A outer s H E) (defBody s_law_any_book) c_law_any_book := fun cdv A outer s H E hr =>
    (tss_cons (ts_set (i := 2) sc_law_any_book.nd rfl (.inl rfl) (te_fnT fn_int rfl Z.b_int boot_int (ta_cons (te_cmp (op_eqT (u64 hr)) (te_callO O_law_draw hr (by decide) rfl (ta_cons (te_var (i := 0) rfl (.inr (.inl rfl))) (ta_cons te_int ta_nil))) te_int rfl) ta_nil)))
      (tss_cons (ts_set (i := 3) sc_law_any_book.nd rfl (.inr rfl) (te_callO O_law_some_names hr (by decide) rfl (ta_cons (te_var (i := 0) rfl (.inr (.inl rfl))) (ta_cons (te_ix (te_lst (ta_cons (te_callO O_law_draw hr (by decide) rfl (ta_cons (te_var (i := 0) rfl (.inr (.inl rfl))) (ta_cons (te_bin op_addT (te_var (i := 1) rfl (.inl rfl)) te_int) ta_nil))) (ta_cons (te_var (i := 1) rfl (.inl rfl)) ta_nil))) (te_var (i := 2) rfl (.inl rfl))) ta_nil))))
      (tss_cons (ts_setComp (i := 4) rfl sc_law_any_book.nd rfl rfl rfl (ti_seq (te_var (i := 3) rfl (.inr (.inl rfl)))) (ow := [("_law_name", 12)]) (blkOk_by (by kernel_rfl)) (fun _ _ _ _ _ => (tg_name (i := 12) (by decide) sc_law_any_book.nd rfl (.inl rfl))) (fun _ _ _ _ _ => tbs_nil) (fun _ _ _ _ _ => (te_tup (ta_cons (te_var (i := 12) rfl (.inl rfl)) (ta_cons (te_ix te_str (te_callO O_law_draw hr (by decide) rfl (ta_cons (te_var (i := 0) rfl (.inr (.inl rfl))) (ta_cons te_int ta_nil)))) ta_nil)))))
      (tss_cons (ts_par3 (i := 5) (j := 6) (l := 7) rfl sc_law_any_book.nd rfl rfl rfl (by decide) (by decide) (by decide) rfl rfl rfl (ta_cons (te_lst ta_nil) (ta_cons (te_lstM ta_nil) (ta_cons (te_lstM ta_nil) ta_nil))) rfl)
      (tss_cons (ts_if (tb_cmp (op_neT (u64 hr)) (te_var (i := 3) rfl (.inr (.inl rfl))) (te_lst ta_nil) rfl) (tss_cons (ts_set (i := 8) sc_law_any_book.nd rfl (.inl rfl) (te_ix (te_lst (ta_cons (te_callO O_law_draw hr (by decide) rfl (ta_cons (te_var (i := 0) rfl (.inr (.inl rfl))) (ta_cons (te_bin op_addT (te_var (i := 1) rfl (.inl rfl)) te_int) ta_nil))) (ta_cons te_int ta_nil))) (te_var (i := 2) rfl (.inl rfl))))
      (tss_cons (ts_setComp (i := 5) rfl sc_law_any_book.nd rfl rfl rfl (ti_range1 rfl Z.b_range (te_var (i := 8) rfl (.inl rfl))) (ow := [("_law_k", 9)]) (blkOk_by (by kernel_rfl)) (fun _ _ _ _ _ => (tg_name (i := 9) (by decide) sc_law_any_book.nd rfl (.inl rfl))) (fun _ _ _ _ _ => tbs_nil) (fun _ _ _ _ _ => (te_fnT fn_tuple rfl Z.b_tuple boot_tuple (ta_cons (te_fnB (fn_sorted (u70 hr)) rfl Z.b_sorted boot_sorted (ta_cons (te_callO O_law_some_family hr (by decide) rfl (ta_cons (te_var (i := 0) rfl (.inr (.inl rfl))) (ta_cons (te_var (i := 3) rfl (.inr (.inl rfl))) ta_nil))) ta_nil)) ta_nil))))
      (tss_cons (ts_set (i := 5) sc_law_any_book.nd rfl (.inl rfl) (te_slice (te_sset rfl (u70 hr) (te_var (i := 5) rfl (.inl rfl)) rfl Z.b_sorted rfl Z.b_set) to_no (to_some te_int)))
      tss_nil))) tss_nil)
      (tss_cons (ts_for (vs := [9]) (passes_of rfl) rfl (ti_range1 rfl Z.b_range (te_bin op_mulT2 (te_ix (te_lst (ta_cons (te_callO O_law_draw hr (by decide) rfl (ta_cons (te_var (i := 0) rfl (.inr (.inl rfl))) (ta_cons te_int ta_nil))) (ta_cons te_int ta_nil))) (te_var (i := 2) rfl (.inl rfl))) (te_fnT fn_int rfl Z.b_int boot_int (ta_cons (te_cmp (op_neT (u64 hr)) (te_var (i := 5) rfl (.inl rfl)) (te_lst ta_nil) rfl) ta_nil)))) (tg_name (i := 9) (by decide) sc_law_any_book.nd rfl (.inl rfl)) (tss_cons (ts_par2 (i := 10) (j := 11) rfl sc_law_any_book.nd rfl rfl (by decide) rfl rfl (ta_cons (te_ix (te_var (i := 5) rfl (.inl rfl)) (te_callO O_law_draw hr (by decide) rfl (ta_cons (te_var (i := 0) rfl (.inr (.inl rfl))) (ta_cons (te_fnB fn_len rfl Z.b_len boot_len (ta_cons (te_var (i := 5) rfl (.inl rfl)) ta_nil)) ta_nil)))) (ta_cons (te_ix (te_var (i := 3) rfl (.inr (.inl rfl))) (te_callO O_law_draw hr (by decide) rfl (ta_cons (te_var (i := 0) rfl (.inr (.inl rfl))) (ta_cons (te_fnB fn_len rfl Z.b_len boot_len (ta_cons (te_var (i := 3) rfl (.inr (.inl rfl))) ta_nil)) ta_nil)))) ta_nil)) rfl)
      (tss_cons (ts_if (tb_cmp (op_ninT (u65 hr)) (te_var (i := 11) rfl (.inl rfl)) (te_var (i := 10) rfl (.inl rfl)) rfl) (tss_cons (ts_do (te_app (te_var (i := 6) rfl (.inl rfl)) (te_tup (ta_cons (te_var (i := 11) rfl (.inl rfl)) (ta_cons (te_var (i := 10) rfl (.inl rfl)) ta_nil)))))
      tss_nil) tss_nil)
      tss_nil)))
      (tss_drop (tss_cons (ts_for (vs := [9]) (passes_of rfl) rfl (ti_range1 rfl Z.b_range (te_bin op_mulT2 (te_ix (te_lst (ta_cons (te_callO O_law_draw hr (by decide) rfl (ta_cons (te_var (i := 0) rfl (.inr (.inl rfl))) (ta_cons te_int ta_nil))) (ta_cons te_int ta_nil))) (te_var (i := 2) rfl (.inl rfl))) (te_fnT fn_int rfl Z.b_int boot_int (ta_cons (te_cmp (op_neT (u64 hr)) (te_var (i := 5) rfl (.inl rfl)) (te_lst ta_nil) rfl) ta_nil)))) (tg_name (i := 9) (by decide) sc_law_any_book.nd rfl (.inl rfl)) (tss_cons (ts_par2 (i := 10) (j := 11) rfl sc_law_any_book.nd rfl rfl (by decide) rfl rfl (ta_cons (te_ix (te_var (i := 5) rfl (.inl rfl)) (te_callO O_law_draw hr (by decide) rfl (ta_cons (te_var (i := 0) rfl (.inr (.inl rfl))) (ta_cons (te_fnB fn_len rfl Z.b_len boot_len (ta_cons (te_var (i := 5) rfl (.inl rfl)) ta_nil)) ta_nil)))) (ta_cons (te_ix (te_var (i := 3) rfl (.inr (.inl rfl))) (te_callO O_law_draw hr (by decide) rfl (ta_cons (te_var (i := 0) rfl (.inr (.inl rfl))) (ta_cons (te_fnB fn_len rfl Z.b_len boot_len (ta_cons (te_var (i := 3) rfl (.inr (.inl rfl))) ta_nil)) ta_nil)))) ta_nil)) rfl)
      (tss_cons (ts_if (tb_cmp (op_ninT (u65 hr)) (te_var (i := 11) rfl (.inl rfl)) (te_var (i := 10) rfl (.inl rfl)) rfl) (tss_cons (ts_do (te_app (te_var (i := 7) rfl (.inl rfl)) (te_tup (ta_cons (te_var (i := 11) rfl (.inl rfl)) (ta_cons (te_var (i := 10) rfl (.inl rfl)) ta_nil)))))
      tss_nil) tss_nil)
      tss_nil)))
      (tss_drop (tss_cons (ts_par2 (i := 6) (j := 7) rfl sc_law_any_book.nd rfl rfl (by decide) rfl rfl (ta_cons (te_slice (te_sset rfl (u70 hr) (te_var (i := 6) rfl (.inl rfl)) rfl Z.b_sorted rfl Z.b_set) to_no (to_some te_int)) (ta_cons (te_slice (te_sset rfl (u70 hr) (te_var (i := 7) rfl (.inl rfl)) rfl Z.b_sorted rfl Z.b_set) to_no (to_some te_int)) ta_nil)) rfl)
      (tss_cons (ts_ret (te_tup (ta_cons (te_fnT fn_tuple rfl Z.b_tuple boot_tuple (ta_cons (te_fnB (fn_sorted (u70 hr)) rfl Z.b_sorted boot_sorted (ta_cons (te_var (i := 4) rfl (.inl rfl)) ta_nil)) ta_nil)) (ta_cons (te_fnT fn_tuple rfl Z.b_tuple boot_tuple (ta_cons (te_var (i := 5) rfl (.inl rfl)) ta_nil)) (ta_cons (te_fnT fn_tuple rfl Z.b_tuple boot_tuple (ta_cons (te_var (i := 6) rfl (.inl rfl)) ta_nil)) (ta_cons (te_fnT fn_tuple rfl Z.b_tuple boot_tuple (ta_cons (te_var (i := 7) rfl (.inl rfl)) ta_nil)) ta_nil))))))
      tss_nil)))))))))))
  exact ⟨fd, fn_t F sc_law_any_book len_law_any_book hb vc_law_any_book, Z.g_law_any_book, F.kp, F.bindsN fun _ _ _ _ _ _ us hl => match us, hl with | [_, _], _ => rfl⟩
theorem sc_law_names_in : FnScope N_law_names_in (["_law_book"] : List Str) (defScope s_law_names_in) := ⟨rfl, rfl, rfl, by decide +kernel, rfl, by decide +kernel, by decide +kernel⟩
theorem ok_law_names_in (Z : Zx K mg) : Okf P w K mg base 1 "_law_names_in" (["_law_book"] : List Str) sp_law_names_in := by
  obtain ⟨fd, F⟩ := Z.f_law_names_in
  have hb : ∀ (cdv : Value) (A : Around) (outer : List Env) (s : Shared) (H : Hp) (E : XK), Room 0 (A.deeper (envOfC "_law_names_in" (defScope s_law_names_in) s.heap.objs.size (He.ga K "_law_names_in") cdv)) → TSs (cxOf (L2.CX P w) P w K mg base N_law_names_in "_law_names_in" (defScope s_law_names_in) (He.ga K "_law_names_in") cdv A outer s H E) (defBody s_law_names_in) c_law_names_in := fun cdv A outer s H E hr =>
    (tss_cons (ts_ret (te_comp rfl sc_law_names_in.nd (ti_seq (te_ix (te_var (i := 0) rfl (.inl rfl)) te_int)) (ow := [("_law_name", 1), ("_law_mark", 2)]) (blkOk_by (by kernel_rfl)) (fun _ _ _ _ _ => (tg_tup rfl (n := 2) (tgs_cons (tg_name (i := 1) (by decide) sc_law_names_in.nd rfl (.inl rfl)) (tgs_cons (tg_name (i := 2) (by decide) sc_law_names_in.nd rfl (.inl rfl)) tgs_nil)) rfl rfl (takes_c (takes_c takes_z)))) (fun _ _ _ _ _ => tbs_nil) (fun _ _ _ _ _ => (te_var (i := 1) rfl (.inl rfl)))))
      tss_nil)
  exact ⟨fd, fn_t F sc_law_names_in len_law_names_in hb vc_law_names_in, Z.g_law_names_in, F.kp, F.bindsN fun _ _ _ _ _ _ us hl => match us, hl with | [_], _ => rfl⟩
theorem sc_law_part_of : FnScope N_law_part_of (["_law_pen", "_law_book", "_law_rate"] : List Str) (defScope s_law_part_of) := ⟨rfl, rfl, rfl, by decide +kernel, rfl, by decide +kernel, by decide +kernel⟩
theorem ok_law_part_of (Z : Zx K mg) : Okf P w K mg base 2 "_law_part_of" (["_law_pen", "_law_book", "_law_rate"] : List Str) sp_law_part_of := by
  have O_law_names_in : Okf P w K mg base 1 "_law_names_in" (["_law_book"] : List Str) sp_law_names_in := ok_law_names_in Z
  have O_law_draw : Okf P w K mg base 1 "_law_draw" (["_law_pen", "_law_many"] : List Str) sp_law_draw := ok_law_draw Z
  obtain ⟨fd, F⟩ := Z.f_law_part_of
  have hb : ∀ (cdv : Value) (A : Around) (outer : List Env) (s : Shared) (H : Hp) (E : XK), Room 1 (A.deeper (envOfC "_law_part_of" (defScope s_law_part_of) s.heap.objs.size (He.ga K "_law_part_of") cdv)) → TSs (cxOf (L2.CX P w) P w K mg base N_law_part_of "_law_part_of" (defScope s_law_part_of) (He.ga K "_law_part_of") cdv A outer s H E) (defBody s_law_part_of) c_law_part_of := fun cdv A outer s H E hr =>
    (tss_cons (ts_set (i := 3) sc_law_part_of.nd rfl (.inr rfl) (te_comp rfl sc_law_part_of.nd (ti_seq (te_callO O_law_names_in hr (by decide) rfl (ta_cons (te_var (i := 1) rfl (.inl rfl)) ta_nil))) (ow := [("_law_name", 9)]) (blkOk_by (by kernel_rfl)) (fun _ _ _ _ _ => (tg_name (i := 9) (by decide) sc_law_part_of.nd rfl (.inl rfl))) (fun _ _ _ _ _ => (tbs_one (tb_cmp (op_gtT (u64 hr)) (te_callO O_law_draw hr (by decide) rfl (ta_cons (te_var (i := 0) rfl (.inr (.inl rfl))) (ta_cons (te_var (i := 2) rfl (.inr (.inl rfl))) ta_nil))) te_int rfl))) (fun _ _ _ _ _ => (te_var (i := 9) rfl (.inl rfl)))))
      (tss_cons (ts_setComp (i := 4) rfl sc_law_part_of.nd rfl rfl rfl (ti_seq (te_ix (te_var (i := 1) rfl (.inl rfl)) te_int)) (ow := [("_law_name", 9), ("_law_mark", 10)]) (blkOk_by (by kernel_rfl)) (fun _ _ _ _ _ => (tg_tup rfl (n := 2) (tgs_cons (tg_name (i := 9) (by decide) sc_law_part_of.nd rfl (.inl rfl)) (tgs_cons (tg_name (i := 10) (by decide) sc_law_part_of.nd rfl (.inl rfl)) tgs_nil)) rfl rfl (takes_c (takes_c takes_z)))) (fun _ _ _ _ _ => (tbs_one (tb_cmp (op_inT (u65 hr)) (te_var (i := 9) rfl (.inl rfl)) (te_var (i := 3) rfl (.inr (.inl rfl))) rfl))) (fun _ _ _ _ _ => (te_tup (ta_cons (te_var (i := 9) rfl (.inl rfl)) (ta_cons (te_ix (te_lst (ta_cons (te_var (i := 10) rfl (.inl rfl)) (ta_cons te_str ta_nil))) (te_fnT fn_int rfl Z.b_int boot_int (ta_cons (te_cmp (op_eqT (u64 hr)) (te_callO O_law_draw hr (by decide) rfl (ta_cons (te_var (i := 0) rfl (.inr (.inl rfl))) (ta_cons te_int ta_nil))) te_int rfl) ta_nil))) ta_nil)))))
      (tss_cons (ts_set (i := 5) sc_law_part_of.nd rfl (.inr rfl) (te_comp rfl sc_law_part_of.nd (ti_seq (te_ix (te_var (i := 1) rfl (.inl rfl)) te_int)) (ow := [("_law_family", 11)]) (blkOk_by (by kernel_rfl)) (fun _ _ _ _ _ => (tg_name (i := 11) (by decide) sc_law_part_of.nd rfl (.inl rfl))) (fun _ _ _ _ _ => (tbs_one (tb_cmp (op_eqT (u64 hr)) (te_comp rfl sc_law_part_of.nd (ti_seq (te_var (i := 11) rfl (.inl rfl))) (ow := [("_law_name", 9)]) (blkOk_by (by kernel_rfl)) (fun _ _ _ _ _ => (tg_name (i := 9) (by decide) sc_law_part_of.nd rfl (.inl rfl))) (fun _ _ _ _ _ => (tbs_one (tb_cmp (op_ninT (u65 hr)) (te_var (i := 9) rfl (.inl rfl)) (te_var (i := 3) rfl (.inr (.inl rfl))) rfl))) (fun _ _ _ _ _ => (te_var (i := 9) rfl (.inl rfl)))) (te_lst ta_nil) rfl))) (fun _ _ _ _ _ => (te_var (i := 11) rfl (.inl rfl)))))
      (tss_cons (ts_set (i := 5) sc_law_part_of.nd rfl (.inr rfl) (te_comp rfl sc_law_part_of.nd (ti_seq (te_var (i := 5) rfl (.inr (.inl rfl)))) (ow := [("_law_family", 11)]) (blkOk_by (by kernel_rfl)) (fun _ _ _ _ _ => (tg_name (i := 11) (by decide) sc_law_part_of.nd rfl (.inl rfl))) (fun _ _ _ _ _ => (tbs_one (tb_cmp (op_gtT (u64 hr)) (te_callO O_law_draw hr (by decide) rfl (ta_cons (te_var (i := 0) rfl (.inr (.inl rfl))) (ta_cons (te_var (i := 2) rfl (.inr (.inl rfl))) ta_nil))) te_int rfl))) (fun _ _ _ _ _ => (te_var (i := 11) rfl (.inl rfl)))))
      (tss_cons (ts_set (i := 6) sc_law_part_of.nd rfl (.inl rfl) (te_lstM (ta_cons (te_fnT fn_tuple rfl Z.b_tuple boot_tuple (ta_cons (te_var (i := 4) rfl (.inl rfl)) ta_nil)) (ta_cons (te_fnT fn_tuple rfl Z.b_tuple boot_tuple (ta_cons (te_var (i := 5) rfl (.inr (.inl rfl))) ta_nil)) ta_nil))))
      (tss_cons (ts_for (vs := [7]) (passes_of rfl) rfl (ti_seq (te_slice (te_var (i := 1) rfl (.inl rfl)) (to_some te_int) to_no)) (tg_name (i := 7) (by decide) sc_law_part_of.nd rfl (.inl rfl)) (tss_cons (ts_setComp (i := 8) rfl sc_law_part_of.nd rfl rfl rfl (ti_seq (te_var (i := 7) rfl (.inl rfl))) (ow := [("_law_one", 12)]) (blkOk_by (by kernel_rfl)) (fun _ _ _ _ _ => (tg_name (i := 12) (by decide) sc_law_part_of.nd rfl (.inl rfl))) (fun _ _ _ _ _ => (tbs_one (TW.toB (tw_and (tb_cmp (op_inT (u65 hr)) (te_ix (te_var (i := 12) rfl (.inl rfl)) te_int) (te_var (i := 3) rfl (.inr (.inl rfl))) rfl) (tw_and (tb_cmp (op_inT (u65 hr)) (te_ix (te_var (i := 12) rfl (.inl rfl)) te_int) (te_var (i := 5) rfl (.inr (.inl rfl))) rfl) (tw_and1 (tb_cmp (op_gtT (u64 hr)) (te_callO O_law_draw hr (by decide) rfl (ta_cons (te_var (i := 0) rfl (.inr (.inl rfl))) (ta_cons (te_var (i := 2) rfl (.inr (.inl rfl))) ta_nil))) te_int rfl))))))) (fun _ _ _ _ _ => (te_var (i := 12) rfl (.inl rfl))))
      (tss_cons (ts_do (te_app (te_var (i := 6) rfl (.inl rfl)) (te_fnT fn_tuple rfl Z.b_tuple boot_tuple (ta_cons (te_var (i := 8) rfl (.inl rfl)) ta_nil))))
      tss_nil)))
      (tss_drop (tss_cons (ts_ret (te_fnT fn_tuple rfl Z.b_tuple boot_tuple (ta_cons (te_var (i := 6) rfl (.inl rfl)) ta_nil)))
      tss_nil))))))))
  exact ⟨fd, fn_t F sc_law_part_of len_law_part_of hb vc_law_part_of, Z.g_law_part_of, F.kp, F.bindsN fun _ _ _ _ _ _ us hl => match us, hl with | [_, _, _], _ => rfl⟩
theorem sc_law_book_renamed : FnScope N_law_book_renamed (["_law_book", "_law_names"] : List Str) (defScope s_law_book_renamed) := ⟨rfl, rfl, rfl, by decide +kernel, rfl, by decide +kernel, by decide +kernel⟩
theorem ok_law_book_renamed (Z : Zx K mg) : Okf P w K mg base 1 "_law_book_renamed" (["_law_book", "_law_names"] : List Str) sp_law_book_renamed := by
  obtain ⟨fd, F⟩ := Z.f_law_book_renamed
  have hb : ∀ (cdv : Value) (A : Around) (outer : List Env) (s : Shared) (H : Hp) (E : XK), Room 0 (A.deeper (envOfC "_law_book_renamed" (defScope s_law_book_renamed) s.heap.objs.size (He.ga K "_law_book_renamed") cdv)) → TSs (cxOf (L2.CX P w) P w K mg base N_law_book_renamed "_law_book_renamed" (defScope s_law_book_renamed) (He.ga K "_law_book_renamed") cdv A outer s H E) (defBody s_law_book_renamed) c_law_book_renamed := fun cdv A outer s H E hr =>
    (tss_cons (ts_set (i := 2) sc_law_book_renamed.nd rfl (.inl rfl) (te_lstM (ta_cons (te_fnB (fn_sorted (u70 hr)) rfl Z.b_sorted boot_sorted (ta_cons (te_comp rfl sc_law_book_renamed.nd (ti_seq (te_ix (te_var (i := 0) rfl (.inl rfl)) te_int)) (ow := [("_law_name", 5), ("_law_mark", 6)]) (blkOk_by (by kernel_rfl)) (fun _ _ _ _ _ => (tg_tup rfl (n := 2) (tgs_cons (tg_name (i := 5) (by decide) sc_law_book_renamed.nd rfl (.inl rfl)) (tgs_cons (tg_name (i := 6) (by decide) sc_law_book_renamed.nd rfl (.inl rfl)) tgs_nil)) rfl rfl (takes_c (takes_c takes_z)))) (fun _ _ _ _ _ => tbs_nil) (fun _ _ _ _ _ => (te_tup (ta_cons (te_dg (u64 hr) (te_var (i := 1) rfl (.inr (.inl rfl))) (te_var (i := 5) rfl (.inl rfl))) (ta_cons (te_var (i := 6) rfl (.inl rfl)) ta_nil))))) ta_nil)) ta_nil)))
      (tss_cons (ts_do (te_app (te_var (i := 2) rfl (.inl rfl)) (te_fnB (fn_sorted (u70 hr)) rfl Z.b_sorted boot_sorted (ta_cons (te_comp rfl sc_law_book_renamed.nd (ti_seq (te_ix (te_var (i := 0) rfl (.inl rfl)) te_int)) (ow := [("_law_family", 7)]) (blkOk_by (by kernel_rfl)) (fun _ _ _ _ _ => (tg_name (i := 7) (by decide) sc_law_book_renamed.nd rfl (.inl rfl))) (fun _ _ _ _ _ => tbs_nil) (fun _ _ _ _ _ => (te_fnT fn_tuple rfl Z.b_tuple boot_tuple (ta_cons (te_fnB (fn_sorted (u70 hr)) rfl Z.b_sorted boot_sorted (ta_cons (te_comp rfl sc_law_book_renamed.nd (ti_seq (te_var (i := 7) rfl (.inl rfl))) (ow := [("_law_name", 5)]) (blkOk_by (by kernel_rfl)) (fun _ _ _ _ _ => (tg_name (i := 5) (by decide) sc_law_book_renamed.nd rfl (.inl rfl))) (fun _ _ _ _ _ => tbs_nil) (fun _ _ _ _ _ => (te_dg (u64 hr) (te_var (i := 1) rfl (.inr (.inl rfl))) (te_var (i := 5) rfl (.inl rfl))))) ta_nil)) ta_nil)))) ta_nil))))
      (tss_cons (ts_for (vs := [3]) (passes_of rfl) rfl (ti_seq (te_slice (te_var (i := 0) rfl (.inl rfl)) (to_some te_int) to_no)) (tg_name (i := 3) (by decide) sc_law_book_renamed.nd rfl (.inl rfl)) (tss_cons (ts_setComp (i := 4) rfl sc_law_book_renamed.nd rfl rfl rfl (ti_seq (te_var (i := 3) rfl (.inl rfl))) (ow := [("_law_child", 8), ("_law_family", 7)]) (blkOk_by (by kernel_rfl)) (fun _ _ _ _ _ => (tg_tup rfl (n := 2) (tgs_cons (tg_name (i := 8) (by decide) sc_law_book_renamed.nd rfl (.inl rfl)) (tgs_cons (tg_name (i := 7) (by decide) sc_law_book_renamed.nd rfl (.inl rfl)) tgs_nil)) rfl rfl (takes_c (takes_c takes_z)))) (fun _ _ _ _ _ => tbs_nil) (fun _ _ _ _ _ => (te_tup (ta_cons (te_dg (u64 hr) (te_var (i := 1) rfl (.inr (.inl rfl))) (te_var (i := 8) rfl (.inl rfl))) (ta_cons (te_fnT fn_tuple rfl Z.b_tuple boot_tuple (ta_cons (te_fnB (fn_sorted (u70 hr)) rfl Z.b_sorted boot_sorted (ta_cons (te_comp rfl sc_law_book_renamed.nd (ti_seq (te_var (i := 7) rfl (.inl rfl))) (ow := [("_law_name", 5)]) (blkOk_by (by kernel_rfl)) (fun _ _ _ _ _ => (tg_name (i := 5) (by decide) sc_law_book_renamed.nd rfl (.inl rfl))) (fun _ _ _ _ _ => tbs_nil) (fun _ _ _ _ _ => (te_dg (u64 hr) (te_var (i := 1) rfl (.inr (.inl rfl))) (te_var (i := 5) rfl (.inl rfl))))) ta_nil)) ta_nil)) ta_nil)))))
      (tss_cons (ts_do (te_app (te_var (i := 2) rfl (.inl rfl)) (te_fnB (fn_sorted (u70 hr)) rfl Z.b_sorted boot_sorted (ta_cons (te_var (i := 4) rfl (.inl rfl)) ta_nil))))
      tss_nil)))
      (tss_drop (tss_cons (ts_ret (te_fnT fn_tuple rfl Z.b_tuple boot_tuple (ta_cons (te_comp rfl sc_law_book_renamed.nd (ti_seq (te_var (i := 2) rfl (.inl rfl))) (ow := [("_law_part", 3)]) (blkOk_by (by kernel_rfl)) (fun _ _ _ _ _ => (tg_name (i := 3) (by decide) sc_law_book_renamed.nd rfl (.inl rfl))) (fun _ _ _ _ _ => tbs_nil) (fun _ _ _ _ _ => (te_fnT fn_tuple rfl Z.b_tuple boot_tuple (ta_cons (te_var (i := 3) rfl (.inl rfl)) ta_nil)))) ta_nil)))
      tss_nil)))))
  exact ⟨fd, fn_t F sc_law_book_renamed len_law_book_renamed hb vc_law_book_renamed, Z.g_law_book_renamed, F.kp, F.bindsN fun _ _ _ _ _ _ us hl => match us, hl with | [_, _], _ => rfl⟩
theorem sc_law_two_books : FnScope N_law_two_books (["_law_pen"] : List Str) (defScope s_law_two_books) := ⟨rfl, rfl, rfl, by decide +kernel, rfl, by decide +kernel, by decide +kernel⟩
theorem ok_law_two_books (Z : Zx K mg) : Okf P w K mg base 4 "_law_two_books" (["_law_pen"] : List Str) sp_law_two_books := by
  have O_law_any_book : Okf P w K mg base 3 "_law_any_book" (["_law_pen", "_law_most"] : List Str) sp_law_any_book := ok_law_any_book Z
  have O_law_draw : Okf P w K mg base 1 "_law_draw" (["_law_pen", "_law_many"] : List Str) sp_law_draw := ok_law_draw Z
  have O_law_part_of : Okf P w K mg base 2 "_law_part_of" (["_law_pen", "_law_book", "_law_rate"] : List Str) sp_law_part_of := ok_law_part_of Z
  have O_law_names_in : Okf P w K mg base 1 "_law_names_in" (["_law_book"] : List Str) sp_law_names_in := ok_law_names_in Z
  have O_law_some_names : Okf P w K mg base 2 "_law_some_names" (["_law_pen", "_law_many"] : List Str) sp_law_some_names := ok_law_some_names Z
  have O_law_book_renamed : Okf P w K mg base 1 "_law_book_renamed" (["_law_book", "_law_names"] : List Str) sp_law_book_renamed := ok_law_book_renamed Z
  obtain ⟨fd, F⟩ := Z.f_law_two_books
  have hb : ∀ (cdv : Value) (A : Around) (outer : List Env) (s : Shared) (H : Hp) (E : XK), Room 3 (A.deeper (envOfC "_law_two_books" (defScope s_law_two_books) s.heap.objs.size (He.ga K "_law_two_books") cdv)) → TSs (cxOf (L2.CX P w) P w K mg base N_law_two_books "_law_two_books" (defScope s_law_two_books) (He.ga K "_law_two_books") cdv A outer s H E) (defBody s_law_two_books) c_law_two_books := fun cdv A outer s H E hr =>
    (tss_cons (ts_set (i := 1) sc_law_two_books.nd rfl (.inl rfl) (te_callO O_law_any_book hr (by decide) rfl (ta_cons (te_var (i := 0) rfl (.inl rfl)) (ta_cons te_int ta_nil))))
      (tss_cons (ts_set (i := 2) sc_law_two_books.nd rfl (.inl rfl) (te_lst (ta_cons (te_ix (te_lst (ta_cons te_int (ta_cons te_int (ta_cons te_int ta_nil)))) (te_callO O_law_draw hr (by decide) rfl (ta_cons (te_var (i := 0) rfl (.inl rfl)) (ta_cons te_int ta_nil)))) (ta_cons (te_ix (te_lst (ta_cons te_int (ta_cons te_int (ta_cons te_int ta_nil)))) (te_callO O_law_draw hr (by decide) rfl (ta_cons (te_var (i := 0) rfl (.inl rfl)) (ta_cons te_int ta_nil)))) ta_nil))))
      (tss_cons (ts_asg (vs := [3, 4]) (te_tup (ta_cons (te_callO O_law_part_of hr (by decide) rfl (ta_cons (te_var (i := 0) rfl (.inl rfl)) (ta_cons (te_var (i := 1) rfl (.inl rfl)) (ta_cons (te_ix (te_var (i := 2) rfl (.inl rfl)) te_int) ta_nil)))) (ta_cons (te_callO O_law_part_of hr (by decide) rfl (ta_cons (te_var (i := 0) rfl (.inl rfl)) (ta_cons (te_var (i := 1) rfl (.inl rfl)) (ta_cons (te_ix (te_var (i := 2) rfl (.inl rfl)) te_int) ta_nil)))) ta_nil))) (tg_tup rfl (n := 2) (tgs_cons (tg_name (i := 3) (by decide) sc_law_two_books.nd rfl (.inr rfl)) (tgs_cons (tg_name (i := 4) (by decide) sc_law_two_books.nd rfl (.inl rfl)) tgs_nil)) rfl rfl (takes_c (takes_c takes_z))))
      (tss_cons (ts_set (i := 5) sc_law_two_books.nd rfl (.inl rfl) (te_callO O_law_names_in hr (by decide) rfl (ta_cons (te_var (i := 4) rfl (.inl rfl)) ta_nil)))
      (tss_cons (ts_set (i := 6) sc_law_two_books.nd rfl (.inl rfl) (te_callO O_law_draw hr (by decide) rfl (ta_cons (te_var (i := 0) rfl (.inl rfl)) (ta_cons te_int ta_nil))))
      (tss_cons (ts_set (i := 7) sc_law_two_books.nd rfl (.inl rfl) (te_callO O_law_some_names hr (by decide) rfl (ta_cons (te_var (i := 0) rfl (.inl rfl)) (ta_cons (te_fnB fn_len rfl Z.b_len boot_len (ta_cons (te_var (i := 5) rfl (.inl rfl)) ta_nil)) ta_nil))))
      (tss_cons (ts_set (i := 8) sc_law_two_books.nd rfl (.inr rfl) te_dnewM)
      (tss_cons (ts_for (vs := [9, 10]) (passes_of rfl) rfl (ti_enum rfl Z.b_enumerate (te_var (i := 5) rfl (.inl rfl))) (tg_tup rfl (n := 2) (tgs_cons (tg_name (i := 9) (by decide) sc_law_two_books.nd rfl (.inl rfl)) (tgs_cons (tg_name (i := 10) (by decide) sc_law_two_books.nd rfl (.inl rfl)) tgs_nil)) rfl rfl (takes_c (takes_c takes_z))) (tss_cons (ts_dput (u64 hr) (te_var (i := 8) rfl (.inr (.inl rfl))) (te_var (i := 10) rfl (.inl rfl)) (te_ix (te_lst (ta_cons (te_var (i := 10) rfl (.inl rfl)) (ta_cons (te_ix (te_var (i := 7) rfl (.inl rfl)) (te_var (i := 9) rfl (.inl rfl))) (ta_cons (te_ix (te_lst (ta_cons (te_var (i := 10) rfl (.inl rfl)) (ta_cons (te_ix (te_var (i := 7) rfl (.inl rfl)) (te_var (i := 9) rfl (.inl rfl))) ta_nil))) (te_callO O_law_draw hr (by decide) rfl (ta_cons (te_var (i := 0) rfl (.inl rfl)) (ta_cons te_int ta_nil)))) ta_nil)))) (te_var (i := 6) rfl (.inl rfl))))
      tss_nil))
      (tss_drop (tss_cons (ts_if (tb_cmp (op_ltT (u64 hr)) (te_slen rfl (u70 hr) (te_dvals rfl (te_var (i := 8) rfl (.inr (.inl rfl))) rfl Z.b_list) rfl Z.b_len rfl Z.b_set) (te_fnB fn_len rfl Z.b_len boot_len (ta_cons (te_var (i := 5) rfl (.inl rfl)) ta_nil)) rfl) (tss_cons (ts_set (i := 8) sc_law_two_books.nd rfl (.inr rfl) (te_dzip rfl (te_var (i := 5) rfl (.inl rfl)) (te_var (i := 5) rfl (.inl rfl)) rfl Z.b_dict rfl Z.b_zip))
      tss_nil) tss_nil)
      (tss_cons (ts_setCompM (i := 11) rfl sc_law_two_books.nd rfl rfl rfl (ti_seq (te_var (i := 5) rfl (.inl rfl))) (ow := [("_law_old", 10)]) (blkOk_by (by kernel_rfl)) (fun _ _ _ _ _ => (tg_name (i := 10) (by decide) sc_law_two_books.nd rfl (.inl rfl))) (fun _ _ _ _ _ => (tbs_one (tb_cmp (op_inT (u65 hr)) (te_var (i := 10) rfl (.inl rfl)) (te_callO O_law_names_in hr (by decide) rfl (ta_cons (te_var (i := 3) rfl (.inr (.inl rfl))) ta_nil)) rfl))) (fun _ _ _ _ _ => (te_tup (ta_cons (te_var (i := 10) rfl (.inl rfl)) (ta_cons (te_dg (u64 hr) (te_var (i := 8) rfl (.inr (.inl rfl))) (te_var (i := 10) rfl (.inl rfl))) ta_nil)))))
      (tss_cons (ts_set (i := 12) sc_law_two_books.nd rfl (.inl rfl) (te_lstM ta_nil))
      (tss_cons (ts_while (passes_of rfl) (tb_cmp (op_neT (u64 hr)) (te_var (i := 11) rfl (.inl rfl)) (te_lst ta_nil) rfl) (tss_cons (ts_do (te_app (te_var (i := 12) rfl (.inl rfl)) (te_popI (te_var (i := 11) rfl (.inl rfl)) (te_callO O_law_draw hr (by decide) rfl (ta_cons (te_var (i := 0) rfl (.inl rfl)) (ta_cons (te_fnB fn_len rfl Z.b_len boot_len (ta_cons (te_var (i := 11) rfl (.inl rfl)) ta_nil)) ta_nil))))))
      tss_nil))
      (tss_drop (tss_cons (ts_ret (te_tup (ta_cons (te_var (i := 3) rfl (.inr (.inl rfl))) (ta_cons (te_callO O_law_book_renamed hr (by decide) rfl (ta_cons (te_var (i := 4) rfl (.inl rfl)) (ta_cons (te_var (i := 8) rfl (.inr (.inl rfl))) ta_nil))) (ta_cons (te_fnT fn_tuple rfl Z.b_tuple boot_tuple (ta_cons (te_var (i := 12) rfl (.inl rfl)) ta_nil)) ta_nil)))))
      tss_nil)))))))))))))))
  exact ⟨fd, fn_t F sc_law_two_books len_law_two_books hb vc_law_two_books, Z.g_law_two_books, F.kp, F.bindsN fun _ _ _ _ _ _ us hl => match us, hl with | [_], _ => rfl⟩
theorem sc_the_law : FnScope N_the_law (["_law_script"] : List Str) (defScope s_the_law) := ⟨rfl, rfl, rfl, by decide +kernel, rfl, by decide +kernel, by decide +kernel⟩
theorem ok_the_law (Z : Zx K mg) : ∃ fd : FuncData, (∀ (s : Shared) (u : Value), BindsTo s fd ⟨[u], []⟩ [("_law_script", u)]) ∧ ∀ base : Heap, FnOk P w K mg base (L2.CX P w) 13 (He.ga K "law") fd (["_law_script"] : List Str) (liftSp P K w sp_the_law) := by
  obtain ⟨fd, F⟩ := Z.f_the_law
  refine ⟨fd, law_def F fun _ _ _ _ _ _ us hl => match us, hl with | [_], _ => rfl, fun base => ?_⟩
  have O_law_pen_of : Okf P w K mg base 1 "_law_pen_of" (["_law_script"] : List Str) sp_law_pen_of := ok_law_pen_of Z
  have O_law_two_books : Okf P w K mg base 4 "_law_two_books" (["_law_pen"] : List Str) sp_law_two_books := ok_law_two_books Z
  have O_law_any_book : Okf P w K mg base 3 "_law_any_book" (["_law_pen", "_law_most"] : List Str) sp_law_any_book := ok_law_any_book Z
  have O_law_names_in : Okf P w K mg base 1 "_law_names_in" (["_law_book"] : List Str) sp_law_names_in := ok_law_names_in Z
  have O_law_are_same : Okf P w K mg base 12 "_law_are_same" (["_law_found", "_law_due"] : List Str) sp_law_are_same := ok_law_are_same Z
  have O_by_names : Okf P w K mg base 2 "by_names" (["one", "other"] : List Str) sp_by_names := ok_by_names Z
  have hb : ∀ (cdv : Value) (A : Around) (outer : List Env) (s : Shared) (H : Hp) (E : XK), Room 12 (A.deeper (envOfC "law" (defScope s_the_law) s.heap.objs.size (He.ga K "law") cdv)) → TSs (cxOf (L2.CX P w) P w K mg base N_the_law "law" (defScope s_the_law) (He.ga K "law") cdv A outer s H E) (defBody s_the_law) c_the_law := fun cdv A outer s H E hr =>
    (tss_cons (ts_set (i := 1) sc_the_law.nd rfl (.inl rfl) (te_callO O_law_pen_of hr (by decide) rfl (ta_cons (te_var (i := 0) rfl (.inl rfl)) ta_nil)))
      (tss_cons (ts_asg (vs := [2, 3, 4]) (te_callO O_law_two_books hr (by decide) rfl (ta_cons (te_var (i := 1) rfl (.inl rfl)) ta_nil)) (tg_tup rfl (n := 3) (tgs_cons (tg_name (i := 2) (by decide) sc_the_law.nd rfl (.inl rfl)) (tgs_cons (tg_name (i := 3) (by decide) sc_the_law.nd rfl (.inl rfl)) (tgs_cons (tg_name (i := 4) (by decide) sc_the_law.nd rfl (.inl rfl)) tgs_nil))) rfl rfl (takes_c (takes_c (takes_c takes_z)))))
      (tss_cons (ts_set (i := 5) sc_the_law.nd rfl (.inl rfl) (te_callO O_law_any_book hr (by decide) rfl (ta_cons (te_var (i := 1) rfl (.inl rfl)) (ta_cons te_int ta_nil))))
      (tss_cons (ts_for (vs := [6, 7]) (passes_of rfl) rfl (ti_seq (te_lst (ta_cons (te_tup (ta_cons (te_var (i := 2) rfl (.inl rfl)) (ta_cons (te_var (i := 3) rfl (.inl rfl)) ta_nil))) (ta_cons (te_tup (ta_cons (te_var (i := 3) rfl (.inl rfl)) (ta_cons (te_var (i := 2) rfl (.inl rfl)) ta_nil))) (ta_cons (te_tup (ta_cons (te_var (i := 2) rfl (.inl rfl)) (ta_cons (te_var (i := 5) rfl (.inl rfl)) ta_nil))) (ta_cons (te_tup (ta_cons (te_var (i := 2) rfl (.inl rfl)) (ta_cons (te_var (i := 2) rfl (.inl rfl)) ta_nil))) (ta_cons (te_tup (ta_cons (te_var (i := 2) rfl (.inl rfl)) (ta_cons (te_var (i := 3) rfl (.inl rfl)) ta_nil))) ta_nil))))))) (tg_tup rfl (n := 2) (tgs_cons (tg_name (i := 6) (by decide) sc_the_law.nd rfl (.inl rfl)) (tgs_cons (tg_name (i := 7) (by decide) sc_the_law.nd rfl (.inr rfl)) tgs_nil)) rfl rfl (takes_c (takes_c takes_z))) (tss_cons (ts_setComp (i := 8) rfl sc_the_law.nd rfl rfl rfl (ti_seq (te_callO O_law_names_in hr (by decide) rfl (ta_cons (te_var (i := 6) rfl (.inl rfl)) ta_nil))) (ow := [("_law_name", 9)]) (blkOk_by (by kernel_rfl)) (fun _ _ _ _ _ => (tg_name (i := 9) (by decide) sc_the_law.nd rfl (.inl rfl))) (fun _ _ _ _ _ => (tbs_one (tb_cmp (op_inT (u65 hr)) (te_var (i := 9) rfl (.inl rfl)) (te_callO O_law_names_in hr (by decide) rfl (ta_cons (te_var (i := 7) rfl (.inr (.inl rfl))) ta_nil)) rfl))) (fun _ _ _ _ _ => (te_var (i := 9) rfl (.inl rfl))))
      (tss_cons (ts_if (tb_not (tb_val (te_callO O_law_are_same hr (by decide) rfl (ta_cons (te_callO O_by_names hr (by decide) rfl (ta_cons (te_var (i := 6) rfl (.inl rfl)) (ta_cons (te_var (i := 7) rfl (.inr (.inl rfl))) ta_nil))) (ta_cons (te_fnT fn_tuple rfl Z.b_tuple boot_tuple (ta_cons (te_comp rfl sc_the_law.nd (ti_seq (te_var (i := 8) rfl (.inl rfl))) (ow := [("_law_name", 9)]) (blkOk_by (by kernel_rfl)) (fun _ _ _ _ _ => (tg_name (i := 9) (by decide) sc_the_law.nd rfl (.inl rfl))) (fun _ _ _ _ _ => tbs_nil) (fun _ _ _ _ _ => (te_tup (ta_cons (te_var (i := 9) rfl (.inl rfl)) (ta_cons (te_var (i := 9) rfl (.inl rfl)) ta_nil))))) ta_nil)) ta_nil))))) (tss_cons (ts_ret te_bl)
      tss_nil) tss_nil)
      tss_nil)))
      (tss_cons (ts_ret te_bl)
      tss_nil)))))
  exact fn_t F sc_the_law (fun ts S Q E h => by obtain ⟨_, rfl, _⟩ := h; rfl) hb vc_the_law
end
end K58

namespace K58
open PySem PySem.Spec PyProof.Rows L2 TL
def h_names_of : He.DefD := ⟨("names_of", none), "names_of", "names_of", defArgs s_names_of, defBody s_names_of, defScope s_names_of, [], []⟩
def h_by_names : He.DefD := ⟨("by_names", none), "by_names", "by_names", defArgs s_by_names, defBody s_by_names, defScope s_by_names, [], []⟩
def h_law_pen_of : He.DefD := ⟨("_law_pen_of", none), "_law_pen_of", "_law_pen_of", defArgs s_law_pen_of, defBody s_law_pen_of, defScope s_law_pen_of, [], []⟩
def h_law_draw : He.DefD := ⟨("_law_draw", none), "_law_draw", "_law_draw", defArgs s_law_draw, defBody s_law_draw, defScope s_law_draw, [], []⟩
def h_law_are_same : He.DefD := ⟨("_law_are_same", none), "_law_are_same", "_law_are_same", defArgs s_law_are_same, defBody s_law_are_same, defScope s_law_are_same, [], []⟩
def h_law_some_names : He.DefD := ⟨("_law_some_names", none), "_law_some_names", "_law_some_names", defArgs s_law_some_names, defBody s_law_some_names, defScope s_law_some_names, [], []⟩
def h_law_some_family : He.DefD := ⟨("_law_some_family", none), "_law_some_family", "_law_some_family", defArgs s_law_some_family, defBody s_law_some_family, defScope s_law_some_family, [], []⟩
def h_law_any_book : He.DefD := ⟨("_law_any_book", none), "_law_any_book", "_law_any_book", defArgs s_law_any_book, defBody s_law_any_book, defScope s_law_any_book, [], []⟩
def h_law_names_in : He.DefD := ⟨("_law_names_in", none), "_law_names_in", "_law_names_in", defArgs s_law_names_in, defBody s_law_names_in, defScope s_law_names_in, [], []⟩
def h_law_part_of : He.DefD := ⟨("_law_part_of", none), "_law_part_of", "_law_part_of", defArgs s_law_part_of, defBody s_law_part_of, defScope s_law_part_of, [], []⟩
def h_law_book_renamed : He.DefD := ⟨("_law_book_renamed", none), "_law_book_renamed", "_law_book_renamed", defArgs s_law_book_renamed, defBody s_law_book_renamed, defScope s_law_book_renamed, [], []⟩
def h_law_two_books : He.DefD := ⟨("_law_two_books", none), "_law_two_books", "_law_two_books", defArgs s_law_two_books, defBody s_law_two_books, defScope s_law_two_books, [], []⟩
def h_the_law : He.DefD := ⟨("law", none), "law", "law", defArgs s_the_law, defBody s_the_law, defScope s_the_law, [], []⟩
def fn : List He.DefD := [h_names_of, h_by_names, h_law_pen_of, h_law_draw, h_law_are_same, h_law_some_names, h_law_some_family, h_law_any_book, h_law_names_in, h_law_part_of, h_law_book_renamed, h_law_two_books, h_the_law]
def fa : List He.Fa := [.free "abs", .free "all", .free "bool", .free "dict", .free "enumerate", .free "int", .free "isinstance", .free "len", .free "list", .free "range", .free "set", .free "sorted", .free "str", .free "tuple", .free "zip", .glo "names_of", .glo "by_names", .glo "_law_pen_of", .glo "_law_draw", .glo "_law_are_same", .glo "_law_some_names", .glo "_law_some_family", .glo "_law_any_book", .glo "_law_names_in", .glo "_law_part_of", .glo "_law_book_renamed", .glo "_law_two_books", .glo "law"]
def ex (K : PySem.W.Frag) : Bool := ([] : List Bool).all id
def loose : List Str := (["names_of", "by_names", "_law_pen_of", "_law_draw", "_law_are_same", "_law_some_names", "_law_some_family", "_law_any_book", "_law_names_in", "_law_part_of", "_law_book_renamed", "_law_two_books"] : List Str)
abbrev R : PySem.W.OpenRow := PySem.W.OpenLaw.row PySem.Challenge.rw_kinlines_k58_pairs_by_names
abbrev hk : PySem.W.Hook := He.hookX 4 fa fn [] [] ex
def ob (s : PySem.W.SharedT) : He.AlX := He.obsX 4 fa fn [] [] ex (HandSHeadRun.getT s)
theorem ob_eq (s : PySem.W.SharedT) : ob s = hk.obs s.abs := He.obsX_eq (HandSHeadRun.getT_eq s)
theorem run (w : World) : HandSHeadRun.RunEq R (PySem.W.view R.prog [15]) hk ob 6000 loose w := by
  intro os
  kernel_rfl
theorem zx {w : World} {K : PySem.W.Frag} {h : Heap} {mg : Str → Option Value} (X : K.In h) (H : h.Ns mainGlobals mg) (c : He.SaysX fa fn [] [] ex w h K) : Zx K mg where
  b_abs := He.free_ok X H (c.t.d.fact 0 (f := .free "abs") rfl)
  b_all := He.free_ok X H (c.t.d.fact 1 (f := .free "all") rfl)
  b_bool := He.free_ok X H (c.t.d.fact 2 (f := .free "bool") rfl)
  b_dict := He.free_ok X H (c.t.d.fact 3 (f := .free "dict") rfl)
  b_enumerate := He.free_ok X H (c.t.d.fact 4 (f := .free "enumerate") rfl)
  b_int := He.free_ok X H (c.t.d.fact 5 (f := .free "int") rfl)
  b_isinstance := He.free_ok X H (c.t.d.fact 6 (f := .free "isinstance") rfl)
  b_len := He.free_ok X H (c.t.d.fact 7 (f := .free "len") rfl)
  b_list := He.free_ok X H (c.t.d.fact 8 (f := .free "list") rfl)
  b_range := He.free_ok X H (c.t.d.fact 9 (f := .free "range") rfl)
  b_set := He.free_ok X H (c.t.d.fact 10 (f := .free "set") rfl)
  b_sorted := He.free_ok X H (c.t.d.fact 11 (f := .free "sorted") rfl)
  b_str := He.free_ok X H (c.t.d.fact 12 (f := .free "str") rfl)
  b_tuple := He.free_ok X H (c.t.d.fact 13 (f := .free "tuple") rfl)
  b_zip := He.free_ok X H (c.t.d.fact 14 (f := .free "zip") rfl)
  f_names_of := c.t.d.def_ 0 (d := h_names_of) rfl
  g_names_of := He.glo_ok X H (c.t.d.fact 15 (f := .glo "names_of") rfl)
  f_by_names := c.t.d.def_ 1 (d := h_by_names) rfl
  g_by_names := He.glo_ok X H (c.t.d.fact 16 (f := .glo "by_names") rfl)
  f_law_pen_of := c.t.d.def_ 2 (d := h_law_pen_of) rfl
  g_law_pen_of := He.glo_ok X H (c.t.d.fact 17 (f := .glo "_law_pen_of") rfl)
  f_law_draw := c.t.d.def_ 3 (d := h_law_draw) rfl
  g_law_draw := He.glo_ok X H (c.t.d.fact 18 (f := .glo "_law_draw") rfl)
  f_law_are_same := c.t.d.def_ 4 (d := h_law_are_same) rfl
  g_law_are_same := He.glo_ok X H (c.t.d.fact 19 (f := .glo "_law_are_same") rfl)
  f_law_some_names := c.t.d.def_ 5 (d := h_law_some_names) rfl
  g_law_some_names := He.glo_ok X H (c.t.d.fact 20 (f := .glo "_law_some_names") rfl)
  f_law_some_family := c.t.d.def_ 6 (d := h_law_some_family) rfl
  g_law_some_family := He.glo_ok X H (c.t.d.fact 21 (f := .glo "_law_some_family") rfl)
  f_law_any_book := c.t.d.def_ 7 (d := h_law_any_book) rfl
  g_law_any_book := He.glo_ok X H (c.t.d.fact 22 (f := .glo "_law_any_book") rfl)
  f_law_names_in := c.t.d.def_ 8 (d := h_law_names_in) rfl
  g_law_names_in := He.glo_ok X H (c.t.d.fact 23 (f := .glo "_law_names_in") rfl)
  f_law_part_of := c.t.d.def_ 9 (d := h_law_part_of) rfl
  g_law_part_of := He.glo_ok X H (c.t.d.fact 24 (f := .glo "_law_part_of") rfl)
  f_law_book_renamed := c.t.d.def_ 10 (d := h_law_book_renamed) rfl
  g_law_book_renamed := He.glo_ok X H (c.t.d.fact 25 (f := .glo "_law_book_renamed") rfl)
  f_law_two_books := c.t.d.def_ 11 (d := h_law_two_books) rfl
  g_law_two_books := He.glo_ok X H (c.t.d.fact 26 (f := .glo "_law_two_books") rfl)
  f_the_law := c.t.d.def_ 12 (d := h_the_law) rfl
  g_the_law := He.glo_ok X H (c.t.d.fact 27 (f := .glo "law") rfl)
end K58
open PySem PySem.W PySem.Calls PyProof.Rows
theorem PySem.Challenge.cw_kinlines_k58_pairs_by_names_holds : PySem.Challenge.rw_kinlines_k58_pairs_by_names.Holds := by
  w_on; o_law
  refine HandSHeadRun.head_any (r := OpenLaw.row PySem.Challenge.rw_kinlines_k58_pairs_by_names) (q := view (OpenLaw.row PySem.Challenge.rw_kinlines_k58_pairs_by_names).prog [15]) (H := K58.hk) (ob := K58.ob) (M := 6000) (loose := K58.loose) (d := HandSHeadRun.topDef (OpenLaw.row PySem.Challenge.rw_kinlines_k58_pairs_by_names).prog 15) (kwd := []) K58.ob_eq
    (by kernel_rfl) (fun s => by kernel_rfl) K58.run (by kernel_rfl) (by kernel_rfl) (by kernel_rfl) (by rfl) (by first | assumption | decide +kernel) (by decide +kernel) ⟨rfl, rfl, rfl, rfl, rfl, by decide +kernel⟩ ?hw ?hc
  case hw => w_witness2
  case hc =>
    refine TL.walk_tl (l := PySem.Challenge.rw_kinlines_k58_pairs_by_names) (k := 13) (x := "_law_script") (y := "law") (sp := K58.sp_the_law) rfl (by kernel_rfl) ⟨rfl, by decide, by decide⟩ (by kernel_rfl) TL.law1_sp ?_
    intro w mg h Y G
    obtain ⟨K, KX, c⟩ := Y
    have Z := K58.zx KX G c
    obtain ⟨fd, hb, hF⟩ := K58.ok_the_law (P := (PySem.Challenge.rw_kinlines_k58_pairs_by_names).prog) (w := w) Z
    exact ⟨K, KX, Z.g_the_law, fd, hb, fun base _ _ => hF base⟩
